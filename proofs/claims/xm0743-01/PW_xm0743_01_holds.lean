import PyProof.Rows.All
import Wide.All
import OpenK.AllK
import Wide.FinOn
import PySem.Challenge.RW_xm0743_01
/- The law's walk by contracts: each def of the text gets a theorem of shape `Ctr` (what a call of it gives, for every caller), shown once and used at each call;
   the number facts stand apart (wrapF, shiftF, divF). -/
open PySem PySem.W PySem.Calls PyProof.Rows
set_option Elab.async false
namespace Mine
set_option maxRecDepth 100000 in
set_option maxHeartbeats 8000000 in
open_top hd for PySem.Challenge.rw_xm0743_01
/-- open_top leaves the walk's lines for a whole top on: the parts below were shown with them off -/
theorem lines_off : True := by
  w_top off
  trivial

/-! ### Base -/
/-- what a call of the def at f upon vs does: from any ledger `news` within `pre`, it comes back with v and a ledger `news'` with Ret v news' -/
abbrev Ctr (w : World) (k : Nat) (f : Addr) (vs : List Value) (news : List (Addr × Obj)) (Ret : Value → List (Addr × Obj) → Prop) : Prop :=
  ∀ (dp un : Nat) (gd : Option (List Code)) (cn : Str) (cs : Scope) (a : Addr) (ccd : Value) (cl : List (Str × Addr)) (outer : List Env) (A₀ : Around) (base h₀ : Heap) (L : Addr) (m : Str → Option Value) (s : Shared) (Q E : Value → Shared → Prop) (mean : ExcName → Option Value) (mg mb : Str → Option Value),
    Below A₀ base outer h₀ → Fr h₀ L s.heap m → (Mine.hd.heap_39 w.params).In h₀ → News h₀ L s.heap news →
    Top Mine.hd.view_39 (looseW Mine.hd.view_39 [Str.ofString "MIN_INT", Str.ofString "MAX_INT", Str.ofString "WORD"]) mean mg mb h₀ → cs.kind = .function → dp + k < recursionLimit → un + 8 * k < cLine →
    (∀ (v : Value) (news' : List (Addr × Obj)) (h' : Heap) (tk' : Nat), Ret v news' → Fr h₀ L h' m → News h₀ L h' news' → Q v { s with heap := h', toks := tk' }) →
    wpAny (model PySem.Challenge.rw_xm0743_01.row.prog w) (ktrTop dp un gd cn cs L a ccd cl outer) (call (.ref f) vs) Q E s


/-- the source of the draws: two ints -/
abbrev srcO (x : Int) (tx : Tok) (y : Int) (ty : Tok) (n : Nat) : Obj := listOf [Value.int x tx, Value.int y ty].toArray n
/-- what holds of the two ints -/
structure SrcOk (x y : Int) : Prop where
  a : 0 ≤ x
  b : 0 ≤ y
  c : y < 2147483647

theorem ctr_upd {w : World} {k : Nat} {f src : Addr} {vs : List Value} {o : Obj} {news : List (Addr × Obj)} {g : Obj → List (Addr × Obj)} {P : Value → Obj → Prop}
    (U : UpdF src o news g) (h : ∀ R : List (Addr × Obj), (∀ p ∈ R, p.1 ≠ src) → (∀ p ∈ news, p.1 ≠ src → p ∈ R) → Ctr w k f vs ((src, o) :: R) (fun v news' => ∃ o', P v o' ∧ news' = (src, o') :: R)) :
    Ctr w k f vs news (fun v news' => ∃ o', P v o' ∧ news' = g o') := by
  obtain ⟨pre, post, e1, e2, h1, h2⟩ := U.split
  intro dp un gd cn cs a ccd cl outer A₀ base h₀ L m s Q E mean mg mb B F X N T hk hd hu hret
  subst e1
  refine h (pre ++ post) (fun p hp => (List.mem_append.mp hp).elim (h1 p) (h2 p)) ?_ dp un gd cn cs a ccd cl outer A₀ base h₀ L m s Q E mean mg mb B F X ?_ T hk hd hu ?_
  · intro p hp hne
    rcases List.mem_append.mp hp with hp | hp
    · exact List.mem_append.mpr (.inl hp)
    · rcases List.mem_cons.mp hp with rfl | hp
      · exact absurd rfl hne
      · exact List.mem_append.mpr (.inr hp)
  · intro p hp
    refine N p ?_
    rcases List.mem_cons.mp hp with rfl | hp
    · exact List.mem_append.mpr (.inr (.head _))
    · exact (List.mem_append.mp hp).elim (fun h => List.mem_append.mpr (.inl h)) fun h => List.mem_append.mpr (.inr (.tail _ h))
  · rintro v news' h' tk' ⟨o', hP, rfl⟩ F' N'
    refine hret v (g o') h' tk' ⟨o', hP, rfl⟩ F' ?_
    rw [e2]
    intro p hp
    refine N' p ?_
    rcases List.mem_append.mp hp with hp | hp
    · exact .tail _ (List.mem_append.mpr (.inl hp))
    · rcases List.mem_cons.mp hp with rfl | hp
      · exact .head _
      · exact .tail _ (List.mem_append.mpr (.inr hp))

theorem ctr_use {w : World} {k : Nat} {f : Addr} {vs : List Value} {news : List (Addr × Obj)} {Ret : Value → List (Addr × Obj) → Prop} {dp un : Nat} {gd : Option (List Code)} {cn : Str} {cs : Scope} {L a : Addr} {ccd : Value} {cl : List (Str × Addr)} {outer : List Env} {A₀ : Around} {base h₀ : Heap} {m : Str → Option Value} {s : Shared} {Q E : Value → Shared → Prop} {mean : ExcName → Option Value} {mg mb : Str → Option Value}
    (C : Ctr w k f vs news Ret) (B : Below A₀ base outer h₀) (F : Fr h₀ L s.heap m) (X : (Mine.hd.heap_39 w.params).In h₀) (N : News h₀ L s.heap news)
    (T : Top Mine.hd.view_39 (looseW Mine.hd.view_39 [Str.ofString "MIN_INT", Str.ofString "MAX_INT", Str.ofString "WORD"]) mean mg mb h₀) (hk : cs.kind = .function)
    (hd : dp + k < recursionLimit) (hu : un + 8 * k < cLine)
    (h : ∀ (v : Value) (news' : List (Addr × Obj)) (h' : Heap) (tk' : Nat), Ret v news' → Fr h₀ L h' m → News h₀ L h' news' → Q v { s with heap := h', toks := tk' }) :
    wpAny (model PySem.Challenge.rw_xm0743_01.row.prog w) (ktrTop dp un gd cn cs L a ccd cl outer) (call (.ref f) vs) Q E s :=
  C dp un gd cn cs a ccd cl outer A₀ base h₀ L m s Q E mean mg mb B F X N T hk hd hu h
theorem ctr_useP {w : World} {k : Nat} {f : Addr} {vs : List Value} {news : List (Addr × Obj)} {P : Value → Prop} {dp un : Nat} {gd : Option (List Code)} {cn : Str} {cs : Scope} {L a : Addr} {ccd : Value} {cl : List (Str × Addr)} {outer : List Env} {A₀ : Around} {base h₀ : Heap} {m : Str → Option Value} {s : Shared} {Q E : Value → Shared → Prop} {mean : ExcName → Option Value} {mg mb : Str → Option Value}
    (C : Ctr w k f vs news (fun v news' => P v ∧ news' = news)) (B : Below A₀ base outer h₀) (F : Fr h₀ L s.heap m) (X : (Mine.hd.heap_39 w.params).In h₀) (N : News h₀ L s.heap news)
    (T : Top Mine.hd.view_39 (looseW Mine.hd.view_39 [Str.ofString "MIN_INT", Str.ofString "MAX_INT", Str.ofString "WORD"]) mean mg mb h₀) (hk : cs.kind = .function)
    (hd : dp + k < recursionLimit) (hu : un + 8 * k < cLine)
    (h : ∀ (v : Value) (h' : Heap) (tk' : Nat), P v → Fr h₀ L h' m → News h₀ L h' news → Q v { s with heap := h', toks := tk' }) :
    wpAny (model PySem.Challenge.rw_xm0743_01.row.prog w) (ktrTop dp un gd cn cs L a ccd cl outer) (call (.ref f) vs) Q E s :=
  ctr_use C B F X N T hk hd hu fun v news' h' tk' hr F' N' => by
    obtain ⟨hp, e⟩ := hr
    subst e
    exact h v h' tk' hp F' N'

/-! ### T1 -/
section
theorem fmod_pos_facts (a : Int) {b : Int} (h : 0 < b) : 0 ≤ a.fmod b ∧ a.fmod b < b := ⟨Int.fmod_nonneg_of_pos a h, Int.fmod_lt_of_pos a h⟩
theorem take_mul (z : Int) : IntMulOk (z.fmod 2147483647) (z.fmod 2147483647) := by
  have h := fmod_pos_facts z (b := 2147483647) (by decide)
  exact IntMulOk.of_left (intBits_le_64 (by omega) (by omega))
theorem take_fdiv {x top : Int} (hx : 0 < x) (ht : 0 < top) : 0 ≤ x.fdiv top ∧ x.fdiv top ≤ x := by
  have h := fdiv_fmod_facts x top
  obtain ⟨h1, h2, h3, _⟩ := h
  obtain ⟨h4, h5⟩ := h3 ht
  have h6 : 0 ≤ x.fdiv top := by rw [Int.fdiv_eq_ediv_of_nonneg _ (by omega)]; exact Int.ediv_nonneg (by omega) (by omega)
  refine ⟨h6, ?_⟩
  have : x.fdiv top * 1 ≤ x.fdiv top * top := Int.mul_le_mul_of_nonneg_left (by omega) h6
  omega
local macro_rules | `(tactic| k_all) => `(tactic| assumption)
local macro_rules | `(tactic| walk_at "binaryOp Mult int int") => `(tactic| (k_here; (with_reducible refine mul_int ?_ ?hm); (case hm => exact take_mul _)))
local macro_rules | `(tactic| walk_at "subscriptTail Name Constant ref int") => `(tactic| (k_here; (with_reducible show wpAny _ _ (subscriptTail _ _ (Value.ref _) (Value.int _ _)) _ _ _); (with_unfolding_all refine' item_litK ?k1 ?k2 ?k3 ?k4 ?_ ?k6; (case k1 => is_list); (case k2 => decide); (case k3 => decide); (case k4 => rfl); (case k6 => with_unfolding_all rfl); k_whole)))
set_option maxRecDepth 100000 in
set_option maxHeartbeats 8000000 in
theorem take_c (w : World) (src : Addr) (x y : Int) (tx ty : Tok) (n : Nat) (top : Int) (tt : Tok) (R : List (Addr × Obj)) (hR : ∀ p ∈ R, p.1 ≠ src)
    (hs : SrcOk x y) (ht : 0 < top) (ht2 : top ≤ 1000) :
    Ctr w 1 95 [.ref src, .int top tt] ((src, listOf [Value.int x tx, Value.int y ty].toArray n) :: R)
      (fun v news' => ∃ o', (∃ d t x' tx' y' ty', v = .int d t ∧ 0 ≤ d ∧ d < top ∧ SrcOk x' y' ∧ o' = srcO x' tx' y' ty' n) ∧ news' = (src, o') :: R) := by
  unfold Ctr; k_fill
  intro dp un gd cn cs a ccd cl outer A₀ base h₀ L m s Q E mean mg mb B F X N T hk hd hu hret
  refine wpAny_call ?_
  k_dflt cell_enter
  k_steps
  · have hx1 : 0 < x := by assumption
    refine hret _ _ _ _ ⟨_, ⟨_, _, _, _, _, _, rfl, (fmod_pos_facts _ ht).1, (fmod_pos_facts _ ht).2, ⟨(take_fdiv hx1 ht).1, hs.b, hs.c⟩, rfl⟩, rfl⟩ (by k_asm) (by k_asm)
  · refine hret _ _ _ _ ⟨_, ⟨_, _, _, _, _, _, rfl, (fmod_pos_facts _ ht).1, (fmod_pos_facts _ ht).2, ⟨hs.a, (fmod_pos_facts _ (by decide)).1, (fmod_pos_facts _ (by decide)).2⟩, rfl⟩, rfl⟩ (by k_asm) (by k_asm)
theorem take_u {w : World} {src : Addr} {x y : Int} {tx ty : Tok} {n : Nat} {top : Int} {tt : Tok} {news : List (Addr × Obj)} {g : Obj → List (Addr × Obj)} (U : UpdF src (srcO x tx y ty n) news g)
    (hs : SrcOk x y) (ht : 0 < top) (ht2 : top ≤ 1000) :
    Ctr w 1 95 [.ref src, .int top tt] news (fun v news' => ∃ o', (∃ d t x' tx' y' ty', v = .int d t ∧ 0 ≤ d ∧ d < top ∧ SrcOk x' y' ∧ o' = srcO x' tx' y' ty' n) ∧ news' = g o') :=
  ctr_upd U fun R hR _ => take_c w src x y tx ty n top tt R hR hs ht ht2
end

/-! ### T2 -/
section
local macro_rules | `(tactic| walk_at "no such key") => `(tactic| fail)
local macro_rules | `(tactic| walk_at "no such key") => `(tactic| fail)
theorem one_item {prog : Program} {w : World} {A : Around} {E : Value → Shared → Prop} {s : Shared} {P : Int → Prop} {value slice : PySem.Expr} {l : Addr} {vs : List Value} {k : Int} {u : Tok} {Q : Value → Shared → Prop}
    (hl : s.heap.IsList l vs.toArray) (h0 : 0 ≤ k ∧ k < (vs.length : Int)) (hlen : vs.length ≤ 64) (hV : ∀ v ∈ vs, ∃ z t, v = .int z t ∧ P z) (h : ∀ z t, P z → Q (.int z t) s)
    (hs : subscripted slice false (.ref l) (.int k u) = operate [.ref l, .int k u] (getItem (.ref l) (.int k u)) := by with_unfolding_all rfl) :
    wpAny (model prog w) A (subscriptTail value slice (.ref l) (.int k u)) Q E s := by
  have hk : k.toNat < vs.length := by omega
  obtain ⟨z, t, e, hP⟩ := hV vs[k.toNat] (List.getElem_mem hk)
  exact item_litK hl h0.1 (by omega) (by rw [List.getElem?_eq_getElem hk, e]) (h z t hP) hs
theorem one_len {prog : Program} {w : World} {A : Around} {E : Value → Shared → Prop} {s : Shared} {l : Addr} {vs : List Value} {Q : Value → Shared → Prop}
    (hl : s.heap.IsList l vs.toArray) (hlen : vs.length ≤ 64) (h : Q (.int (vs.length : Int) (s.toks + 1)) { s with toks := s.toks + 1 + 1 }) : wpAny (model prog w) A (call (.builtin "len") [.ref l]) Q E s :=
  Calls.call_len_list hl (by rw [List.size_toArray]; omega) (by rw [List.size_toArray]; exact h)
local macro_rules | `(tactic| k_all) => `(tactic| assumption)
local macro_rules | `(tactic| news_mem) => `(tactic| (refine List.Mem.tail _ ?_; assumption))
local macro_rules | `(tactic| walk_at "call ref") => `(tactic| (k_here; (with_reducible show wpAny _ _ (call (Value.ref 95) _) _ _ _); k_dflt (refine' ctr_use (take_u ?U ?hs ?ht ?ht2) ?B ?F ?X ?N ?T ?hk ?hd ?hu ?_; (case B => k_asm); (case F => k_asm); (case X => k_asm); (case N => k_asm); (case T => k_asm); (case hk => first | exact rfl | assumption); (case U => k_updF); (case hs => assumption); (case ht => omega); (case ht2 => omega); (case hd => ktr_room); (case hu => ktr_units); k_whole); intro v' news' h' tk' hr' F' N'; (obtain ⟨o', ⟨d', t', x', tx', y', ty', e1', hd1', hd2', hs', e2'⟩, e3'⟩ := hr'); subst e1'; subst e2'; subst e3'; (try dsimp only at N'); (try k_sweep)))
set_option maxRecDepth 100000 in
set_option maxHeartbeats 8000000 in
theorem near_c (w : World) (src : Addr) (x y : Int) (tx ty : Tok) (n : Nat) (p : Int) (tt : Tok) (R : List (Addr × Obj)) (hR : ∀ p ∈ R, p.1 ≠ src) (hs : SrcOk x y) :
    Ctr w 2 109 [.ref src, .int p tt] ((src, srcO x tx y ty n) :: R)
      (fun v news' => ∃ o', (∃ z t x' tx' y' ty', v = .int z t ∧ z.natAbs ≤ p.natAbs + 2 ∧ SrcOk x' y' ∧ o' = srcO x' tx' y' ty' n) ∧ news' = (src, o') :: R) := by
  unfold Ctr; k_fill
  intro dp un gd cn cs a ccd cl outer A₀ base h₀ L m s Q E mean mg mb B F X N T hk hd hu hret
  refine wpAny_call ?_
  k_dflt cell_enter
  k_steps
  all_goals exact hret _ _ _ _ ⟨_, ⟨_, _, _, _, _, _, rfl, by omega, by assumption, rfl⟩, rfl⟩ (by k_asm) (by k_asm)
local macro_rules | `(tactic| k_all) => `(tactic| assumption)
local macro_rules | `(tactic| news_mem) => `(tactic| (refine List.Mem.tail _ ?_; assumption))
local macro_rules | `(tactic| walk_at "call ref") => `(tactic| (k_here; (with_reducible show wpAny _ _ (call (Value.ref 95) _) _ _ _); k_dflt (refine' ctr_use (take_u ?U ?hs ?ht ?ht2) ?B ?F ?X ?N ?T ?hk ?hd ?hu ?_; (case B => k_asm); (case F => k_asm); (case X => k_asm); (case N => k_asm); (case T => k_asm); (case hk => first | exact rfl | assumption); (case U => k_updF); (case hs => assumption); (case ht => omega); (case ht2 => omega); (case hd => ktr_room); (case hu => ktr_units); k_whole); intro v' news' h' tk' hr' F' N'; (obtain ⟨o', ⟨d', t', x', tx', y', ty', e1', hd1', hd2', hs', e2'⟩, e3'⟩ := hr'); subst e1'; subst e2'; subst e3'; (try dsimp only at N'); (try k_sweep)))
local macro_rules | `(tactic| walk_at "call builtin:len") => `(tactic| (k_here; (refine' one_len ?k1 ?k2 ?_; (case k1 => exact News.isList (by assumption) (List.Mem.tail _ (by assumption))); (case k2 => assumption))))
local macro_rules | `(tactic| walk_at "subscriptTail Name Call ref int") => `(tactic| (k_here; (with_unfolding_all refine' one_item ?k1 ?k2 ?k3 ?k4 ?_ ?k6; (case k1 => exact News.isList (by assumption) (List.Mem.tail _ (by assumption))); (case k2 => exact ⟨by assumption, by assumption⟩); (case k3 => assumption); (case k4 => assumption); (case k6 => with_unfolding_all rfl); k_whole); intro z' t' hz'))
set_option maxRecDepth 100000 in
set_option maxHeartbeats 8000000 in
theorem one_c (w : World) (src l : Addr) (x y : Int) (tx ty : Tok) (n n2 : Nat) (vs : List Value) (P : Int → Prop) (R : List (Addr × Obj)) (hR : ∀ p ∈ R, p.1 ≠ src) (hs : SrcOk x y)
    (hl : (l, listOf vs.toArray n2) ∈ R) (hlen0 : 0 < vs.length) (hlen : vs.length ≤ 64) (hV : ∀ v ∈ vs, ∃ z t, v = .int z t ∧ P z) :
    Ctr w 2 102 [.ref src, .ref l] ((src, srcO x tx y ty n) :: R)
      (fun v news' => ∃ o', (∃ z t x' tx' y' ty', v = .int z t ∧ P z ∧ SrcOk x' y' ∧ o' = srcO x' tx' y' ty' n) ∧ news' = (src, o') :: R) := by
  unfold Ctr; k_fill
  intro dp un gd cn cs a ccd cl outer A₀ base h₀ L m s Q E mean mg mb B F X N T hk hd hu hret
  refine wpAny_call ?_
  k_dflt cell_enter
  k_steps
  all_goals exact hret _ _ _ _ ⟨_, ⟨_, _, _, _, _, _, rfl, by assumption, by assumption, rfl⟩, rfl⟩ (by k_asm) (by k_asm)
theorem near_u {w : World} {src : Addr} {x y : Int} {tx ty : Tok} {n : Nat} {p : Int} {tt : Tok} {news : List (Addr × Obj)} {g : Obj → List (Addr × Obj)} (U : UpdF src (srcO x tx y ty n) news g) (hs : SrcOk x y) :
    Ctr w 2 109 [.ref src, .int p tt] news (fun v news' => ∃ o', (∃ z t x' tx' y' ty', v = .int z t ∧ z.natAbs ≤ p.natAbs + 2 ∧ SrcOk x' y' ∧ o' = srcO x' tx' y' ty' n) ∧ news' = g o') :=
  ctr_upd U fun R hR _ => near_c w src x y tx ty n p tt R hR hs
theorem one_u {w : World} {src l : Addr} {x y : Int} {tx ty : Tok} {n n2 : Nat} {vs : List Value} {P : Int → Prop} {news : List (Addr × Obj)} {g : Obj → List (Addr × Obj)} (U : UpdF src (srcO x tx y ty n) news g) (hs : SrcOk x y)
    (hl : (l, listOf vs.toArray n2) ∈ news) (hne : l ≠ src) (hlen0 : 0 < vs.length) (hlen : vs.length ≤ 64) (hV : ∀ v ∈ vs, ∃ z t, v = .int z t ∧ P z) :
    Ctr w 2 102 [.ref src, .ref l] news (fun v news' => ∃ o', (∃ z t x' tx' y' ty', v = .int z t ∧ P z ∧ SrcOk x' y' ∧ o' = srcO x' tx' y' ty' n) ∧ news' = g o') :=
  ctr_upd U fun R hR hin => one_c w src l x y tx ty n n2 vs P R hR hs (hin _ hl hne) hlen0 hlen hV
end

/-! ### T3 -/
section
local macro_rules | `(tactic| walk_at "no such key") => `(tactic| fail)
local macro_rules | `(tactic| walk_at "no such key") => `(tactic| fail)
local macro_rules | `(tactic| walk_at "no such key") => `(tactic| fail)
local macro_rules | `(tactic| walk_at "no such key") => `(tactic| fail)
local macro_rules | `(tactic| walk_at "no such key") => `(tactic| fail)
local macro_rules | `(tactic| walk_at "no such key") => `(tactic| fail)
theorem pow_lit {prog : Program} {w : World} {A : Around} {E : Value → Shared → Prop} {s : Shared} {Q : Value → Shared → Prop} {t u : Tok} {k z : Int} (e : (2 : Int) ^ k.toNat = z) (hk : 0 ≤ k ∧ k ≤ 1000)
    (h : Q (.int z s.toks) { s with toks := s.toks + 1 }) : wpAny (model prog w) A (binaryOp .Pow (.int 2 t) (.int k u)) Q E s :=
  pow_int_small hk.1 (by omega) (by decide) (by rw [e]; exact h)
theorem pow_31 : (2 : Int) ^ (31 : Int).toNat = 2147483648 := by decide
theorem pow_32 : (2 : Int) ^ (32 : Int).toNat = 4294967296 := by decide
theorem pow_62 : (2 : Int) ^ (62 : Int).toNat = 4611686018427387904 := by decide
theorem pow_63 : (2 : Int) ^ (63 : Int).toNat = 9223372036854775808 := by decide
theorem pow_64 : (2 : Int) ^ (64 : Int).toNat = 18446744073709551616 := by decide
theorem clamp_facts (z : Int) : -9223372036854775808 ≤ (if (if z < 9223372036854775808 - 1 then z else 9223372036854775808 - 1) > -9223372036854775808 then (if z < 9223372036854775808 - 1 then z else 9223372036854775808 - 1) else -9223372036854775808) ∧ (if (if z < 9223372036854775808 - 1 then z else 9223372036854775808 - 1) > -9223372036854775808 then (if z < 9223372036854775808 - 1 then z else 9223372036854775808 - 1) else -9223372036854775808) < (9223372036854775808 : Int) := by
  split <;> split <;> omega
local macro_rules | `(tactic| walk_at "binaryOp Pow int int") => `(tactic| (k_here; with_reducible (first | refine pow_lit pow_31 (by decide) ?_ | refine pow_lit pow_32 (by decide) ?_ | refine pow_lit pow_62 (by decide) ?_ | refine pow_lit pow_63 (by decide) ?_ | refine pow_lit pow_64 (by decide) ?_)))
local macro_rules | `(tactic| k_all) => `(tactic| assumption)
local macro_rules | `(tactic| walk_at "call ref") => `(tactic| (k_here; (with_reducible show wpAny _ _ (call (Value.ref 95) _) _ _ _); k_dflt (refine' ctr_use (take_u ?U ?hs ?ht ?ht2) ?B ?F ?X ?N ?T ?hk ?hd ?hu ?_; (case B => k_asm); (case F => k_asm); (case X => k_asm); (case N => k_asm); (case T => k_asm); (case hk => first | exact rfl | assumption); (case U => k_updF); (case hs => assumption); (case ht => omega); (case ht2 => omega); (case hd => ktr_room); (case hu => ktr_units); k_whole); intro v' news' h' tk' hr' F' N'; (obtain ⟨o', ⟨d', t', x', tx', y', ty', e1', hd1', hd2', hs', e2'⟩, e3'⟩ := hr'); subst e1'; subst e2'; subst e3'; (try dsimp only at N'); (try k_sweep)))
local macro_rules | `(tactic| walk_at "call ref") => `(tactic| (k_here; (with_reducible show wpAny _ _ (call (Value.ref 109) _) _ _ _); k_dflt (refine' ctr_use (near_u ?U ?hs) ?B ?F ?X ?N ?T ?hk ?hd ?hu ?_; (case B => k_asm); (case F => k_asm); (case X => k_asm); (case N => k_asm); (case T => k_asm); (case hk => first | exact rfl | assumption); (case U => k_updF); (case hs => assumption); (case hd => ktr_room); (case hu => ktr_units); k_whole); intro v' news' h' tk' hr' F' N'; (obtain ⟨o', ⟨d', t', x', tx', y', ty', e1', hd1', hs', e2'⟩, e3'⟩ := hr'); subst e1'; subst e2'; subst e3'; (try dsimp only at N'); (try k_sweep)))
local macro_rules | `(tactic| walk_at "call ref") => `(tactic| (k_here; (with_reducible show wpAny _ _ (call (Value.ref 102) _) _ _ _); k_dflt (refine' ctr_use (one_u (P := fun _ => True) ?U ?hs ?hl ?hne ?hl0 ?hl1 ?hV) ?B ?F ?X ?N ?T ?hk ?hd ?hu ?_; (case B => k_asm); (case F => k_asm); (case X => k_asm); (case N => k_asm); (case T => k_asm); (case hk => first | exact rfl | assumption); (case U => k_updF); (case hl => k_mem); (case hne => k_ne); (case hl0 => exact Nat.le_of_ble_eq_true rfl); (case hl1 => exact Nat.le_of_ble_eq_true rfl); (case hV => repeat (first | exact List.forall_mem_nil _ | refine List.forall_mem_cons.mpr ⟨⟨_, _, rfl, trivial⟩, ?_⟩)); (case hs => assumption); (case hd => ktr_room); (case hu => ktr_units); k_whole); intro v' news' h' tk' hr' F' N'; (obtain ⟨o', ⟨d', t', x', tx', y', ty', e1', hd1', hs', e2'⟩, e3'⟩ := hr'); subst e1'; subst e2'; subst e3'; (try dsimp only at N'); (try k_sweep)))
set_option maxRecDepth 100000 in
set_option maxHeartbeats 1000000 in
theorem number_c (w : World) (src : Addr) (x y : Int) (tx ty : Tok) (n : Nat) (R : List (Addr × Obj)) (hR : ∀ p ∈ R, p.1 ≠ src) (hs : SrcOk x y) :
    Ctr w 3 116 [.ref src] ((src, srcO x tx y ty n) :: R)
      (fun v news' => ∃ o', (∃ z t x' tx' y' ty', v = .int z t ∧ (-9223372036854775808 ≤ z ∧ z < 9223372036854775808) ∧ SrcOk x' y' ∧ o' = srcO x' tx' y' ty' n) ∧ news' = (src, o') :: R) := by
  unfold Ctr; k_fill
  intro dp un gd cn cs a ccd cl outer A₀ base h₀ L m s Q E mean mg mb B F X N T hk hd hu hret
  refine wpAny_call ?_
  k_dflt cell_enter
  k_steps
  rename News _ _ _ _ => N9
  exact hret _ _ _ _ ⟨_, ⟨_, _, _, _, _, _, rfl, clamp_facts _, by assumption, rfl⟩, rfl⟩ (by k_asm) (fun p hp => N9 p (.tail _ hp))
theorem number_u {w : World} {src : Addr} {x y : Int} {tx ty : Tok} {n : Nat} {news : List (Addr × Obj)} {g : Obj → List (Addr × Obj)} (U : UpdF src (srcO x tx y ty n) news g) (hs : SrcOk x y) :
    Ctr w 3 116 [.ref src] news (fun v news' => ∃ o', (∃ z t x' tx' y' ty', v = .int z t ∧ (-9223372036854775808 ≤ z ∧ z < 9223372036854775808) ∧ SrcOk x' y' ∧ o' = srcO x' tx' y' ty' n) ∧ news' = g o') :=
  ctr_upd U fun R hR _ => number_c w src x y tx ty n R hR hs
end

/-! ### M -/
def wrapF (n : Int) : Int := if 9223372036854775807 < n.fmod 18446744073709551616 then n.fmod 18446744073709551616 - 18446744073709551616 else n.fmod 18446744073709551616
def absF (n : Int) : Int := if n < 0 then -n else n
def divF (a b : Int) : Int := if ((decide (a < 0)) != (decide (b < 0))) = true then -((absF a).fdiv (absF b)) else (absF a).fdiv (absF b)
def shiftF (n p : Int) : Int := if 64 ≤ p then 0 else if 0 ≤ p then wrapF (n * 2 ^ p.toNat) else if p ≤ -64 then (if n < 0 then -1 else 0) else n.fdiv (2 ^ (-p).toNat)

theorem fm (n : Int) : n.fmod 18446744073709551616 = n % 18446744073709551616 := Int.fmod_eq_emod_of_nonneg _ (by decide)
def InW (n : Int) : Prop := -9223372036854775808 ≤ n ∧ n < 9223372036854775808
theorem wrapF_word (n : Int) : InW (wrapF n) := by
  unfold InW wrapF; rw [fm]; split <;> omega
theorem wrapF_mod (n : Int) : (wrapF n - n).fmod 18446744073709551616 = 0 := by
  rw [fm]; unfold wrapF; rw [fm]; split <;> omega
theorem wrapF_congr {a b k : Int} (h : a - b = k * 18446744073709551616) : wrapF a = wrapF b := by
  have : a % 18446744073709551616 = b % 18446744073709551616 := by omega
  unfold wrapF; rw [fm, fm, this]
theorem wrapF_self {n : Int} (h : InW n) : wrapF n = n := by
  unfold InW at h; unfold wrapF; rw [fm]; split <;> omega
theorem wrapF_dvd (n : Int) : ∃ k, n - wrapF n = k * 18446744073709551616 := by
  refine ⟨(n - wrapF n) / 18446744073709551616, ?_⟩
  have := wrapF_mod n
  rw [fm] at this
  omega
theorem law_add (a g : Int) : wrapF (a + g) = wrapF (a + wrapF g) := by
  obtain ⟨k, hk⟩ := wrapF_dvd g
  exact wrapF_congr (k := k) (by omega)
theorem law_mul (a g : Int) : wrapF (a * g) = wrapF (a * wrapF g) := by
  obtain ⟨k, hk⟩ := wrapF_dvd g
  refine wrapF_congr (k := a * k) ?_
  rw [← Int.mul_sub, hk, Int.mul_assoc]
theorem pow_split {p : Int} (h : 64 ≤ p) : (2 : Int) ^ p.toNat = 2 ^ (p - 64).toNat * 18446744073709551616 := by
  have e : p.toNat = (p - 64).toNat + 64 := by omega
  rw [e, Int.pow_add]
  rfl
theorem shift_word {n p : Int} (hp : 0 ≤ p) : InW (shiftF n p) := by
  unfold shiftF
  split
  · unfold InW; omega
  · exact wrapF_word _
theorem shift_mod {n p : Int} (hp : 0 ≤ p) : (shiftF n p - n * 2 ^ p.toNat).fmod 18446744073709551616 = 0 := by
  unfold shiftF
  split
  · rename_i h
    rw [pow_split h, ← Int.mul_assoc, fm]
    omega
  · exact wrapF_mod _
theorem shift_zero {n p : Int} (hp : 64 ≤ p) : shiftF n p = 0 := by unfold shiftF; rw [if_pos hp]
theorem pow_pos' (k : Nat) : 0 < (2 : Int) ^ k := Int.pow_pos (by decide)
theorem pow_big {k : Nat} (h : 64 ≤ k) : 18446744073709551616 ≤ (2 : Int) ^ k := by
  have e : k = (k - 64) + 64 := by omega
  rw [e, Int.pow_add]
  have h1 := pow_pos' (k - 64)
  have : (2 : Int) ^ 64 = 18446744073709551616 := by rfl
  rw [this]
  omega
theorem fdiv_spec (n : Int) {P : Int} (hP : 0 < P) : n.fdiv P * P ≤ n ∧ n < (n.fdiv P + 1) * P := by
  rw [Int.fdiv_eq_ediv_of_nonneg _ (by omega)]
  have h1 := Int.emod_add_mul_ediv n P
  have h2 := Int.emod_nonneg n (show P ≠ 0 by omega)
  have h3 := Int.emod_lt_of_pos n hP
  have h4 : P * (n / P) = n / P * P := Int.mul_comm _ _
  have h5 : (n / P + 1) * P = n / P * P + P := by rw [Int.add_mul, Int.one_mul]
  omega
theorem fdiv_unique {n P q : Int} (hP : 0 < P) (h1 : q * P ≤ n) (h2 : n < (q + 1) * P) : n.fdiv P = q := by
  have ⟨h3, h4⟩ := fdiv_spec n hP
  have a : q < n.fdiv P + 1 := Int.lt_of_mul_lt_mul_right (Int.lt_of_le_of_lt h1 h4) (Int.le_of_lt hP)
  have b : n.fdiv P < q + 1 := Int.lt_of_mul_lt_mul_right (Int.lt_of_le_of_lt h3 h2) (Int.le_of_lt hP)
  omega
theorem shr_eq {n : Int} (h : InW n) {k : Int} (hk : 0 ≤ k) : shiftF n (-k) = n.fdiv (2 ^ k.toNat) := by
  have h0 := h
  unfold InW at h
  unfold shiftF
  rw [if_neg (by omega)]
  by_cases hk0 : k = 0
  · subst hk0
    rw [if_pos (by omega)]
    show wrapF (n * 1) = n.fdiv 1
    rw [Int.mul_one, wrapF_self h0, Int.fdiv_one]
  · rw [if_neg (by omega)]
    split
    · have hb := pow_big (k := k.toNat) (by omega)
      have hp := pow_pos' k.toNat
      split
      · exact (fdiv_unique hp (by omega) (by omega)).symm
      · exact (fdiv_unique hp (by omega) (by omega)).symm
    · rw [Int.neg_neg]
theorem shr_word {n : Int} (h : InW n) (k : Nat) : InW (n.fdiv (2 ^ k)) := by
  have hp := pow_pos' k
  have ⟨h1, h2⟩ := fdiv_spec n hp
  unfold InW at h ⊢
  constructor
  · have : -9223372036854775808 * 2 ^ k < (n.fdiv (2 ^ k) + 1) * 2 ^ k := by
      refine Int.lt_of_le_of_lt ?_ h2
      have : -9223372036854775808 * (2 : Int) ^ k ≤ -9223372036854775808 * 1 := Int.mul_le_mul_of_nonpos_left (by decide) (by omega)
      omega
    have := Int.lt_of_mul_lt_mul_right this (Int.le_of_lt hp)
    omega
  · have : n.fdiv (2 ^ k) * 2 ^ k < 9223372036854775808 * 2 ^ k := by
      refine Int.lt_of_le_of_lt h1 ?_
      have : 9223372036854775808 * 1 ≤ 9223372036854775808 * (2 : Int) ^ k := Int.mul_le_mul_of_nonneg_left (by omega) (by decide)
      omega
    exact Int.lt_of_mul_lt_mul_right this (Int.le_of_lt hp)
theorem shift_right {n p : Int} (h : InW n) (hp : p ≤ 0) : shiftF n p * 2 ^ (-p).toNat ≤ n ∧ n < (shiftF n p + 1) * 2 ^ (-p).toNat := by
  have e := shr_eq h (k := -p) (by omega)
  rw [Int.neg_neg] at e
  rw [e]
  exact fdiv_spec n (pow_pos' _)
theorem law_left {n f s : Int} (hf : 0 ≤ f) (hs : 0 ≤ s) : shiftF (shiftF n f) s = shiftF n (f + s) := by
  have z : wrapF 0 = 0 := by decide
  have zero : ∀ s, 0 ≤ s → shiftF 0 s = 0 := by
    intro s hs
    unfold shiftF
    split
    · rfl
    · rw [Int.zero_mul, z]
  by_cases h1 : 64 ≤ f
  · rw [shift_zero h1, zero s hs, shift_zero (by omega)]
  by_cases h2 : 64 ≤ s
  · rw [shift_zero h2, shift_zero (by omega)]
  have e1 : shiftF n f = wrapF (n * 2 ^ f.toNat) := by unfold shiftF; rw [if_neg h1, if_pos hf]
  have e2 : ∀ m, shiftF m s = wrapF (m * 2 ^ s.toNat) := by intro m; unfold shiftF; rw [if_neg h2, if_pos hs]
  rw [e2, e1]
  have e3 : wrapF (wrapF (n * 2 ^ f.toNat) * 2 ^ s.toNat) = wrapF (n * 2 ^ (f + s).toNat) := by
    rw [Int.mul_comm (wrapF _), ← law_mul, Int.mul_comm (2 ^ s.toNat), Int.mul_assoc, ← Int.pow_add]
    have : f.toNat + s.toNat = (f + s).toNat := by omega
    rw [this]
  rw [e3]
  by_cases h3 : 64 ≤ f + s
  · rw [shift_zero h3, pow_split h3, ← Int.mul_assoc]
    have := wrapF_congr (a := n * 2 ^ (f + s - 64).toNat * 18446744073709551616) (b := 0) (k := n * 2 ^ (f + s - 64).toNat) (by omega)
    rw [this, z]
  · unfold shiftF
    rw [if_neg h3, if_pos (by omega)]
theorem law_rshift {n f s : Int} (h : InW n) (hf : 0 ≤ f) (hs : 0 ≤ s) : shiftF (shiftF n (-f)) (-s) = shiftF n (-f - s) := by
  have e : -f - s = -(f + s) := by omega
  rw [e, shr_eq h hf, shr_eq (shr_word h _) hs, shr_eq h (by omega)]
  have e2 : (f + s).toNat = f.toNat + s.toNat := by omega
  rw [e2, Int.pow_add]
  rw [Int.fdiv_eq_ediv_of_nonneg _ (Int.le_of_lt (pow_pos' _)), Int.fdiv_eq_ediv_of_nonneg _ (Int.le_of_lt (pow_pos' _)), Int.fdiv_eq_ediv_of_nonneg _ (Int.le_of_lt (Int.mul_pos (pow_pos' _) (pow_pos' _)))]
  exact Int.ediv_ediv_of_nonneg (Int.le_of_lt (pow_pos' _))
theorem absF_eq (n : Int) : absF n = n.natAbs := by unfold absF; split <;> omega
/-- the division's rest: its size and its sign -/
theorem div_rest {n b : Int} (hb : b ≠ 0) : (n - divF n b * b).natAbs < b.natAbs ∧ (n - divF n b * b = 0 ∨ ((n - divF n b * b < 0) ↔ n < 0)) := by
  have hB : 0 < absF b := by rw [absF_eq]; omega
  have ⟨h1, h2⟩ := fdiv_spec (absF n) hB
  generalize hq : (absF n).fdiv (absF b) = q at h1 h2
  have h3 : (q + 1) * absF b = q * absF b + absF b := by rw [Int.add_mul, Int.one_mul]
  have hm : (-q) * b = -(q * b) := Int.neg_mul _ _
  have hm2 : q * (-b) = -(q * b) := Int.mul_neg _ _
  unfold divF
  rw [hq]
  rw [h3] at h2
  clear h3 hq hB
  generalize hz : q * b = z at hm hm2
  by_cases hn0 : n < 0 <;> by_cases hb0 : b < 0
  · have ea : absF n = -n := by unfold absF; rw [if_pos hn0]
    have eb : absF b = -b := by unfold absF; rw [if_pos hb0]
    rw [if_neg (by simp [hn0, hb0]), hz]
    rw [ea, eb, hm2] at h1 h2
    omega
  · have ea : absF n = -n := by unfold absF; rw [if_pos hn0]
    have eb : absF b = b := by unfold absF; rw [if_neg hb0]
    rw [if_pos (by simp [hn0, hb0]), hm]
    rw [ea, eb, hz] at h1 h2
    omega
  · have ea : absF n = n := by unfold absF; rw [if_neg hn0]
    have eb : absF b = -b := by unfold absF; rw [if_pos hb0]
    rw [if_pos (by simp [hn0, hb0]), hm]
    rw [ea, eb, hm2] at h1 h2
    omega
  · have ea : absF n = n := by unfold absF; rw [if_neg hn0]
    have eb : absF b = b := by unfold absF; rw [if_neg hb0]
    rw [if_neg (by simp [hn0, hb0]), hz]
    rw [ea, eb, hz] at h1 h2
    omega
theorem shift_inW {n p : Int} (h : InW n) : InW (shiftF n p) := by
  by_cases hp : 0 ≤ p
  · exact shift_word hp
  · have e := shr_eq h (k := -p) (by omega)
    rw [Int.neg_neg] at e
    rw [e]
    exact shr_word h _

/-! ### T4 -/
section
local macro_rules | `(tactic| walk_at "no such key") => `(tactic| fail)
local macro_rules | `(tactic| walk_at "no such key") => `(tactic| fail)
local macro_rules | `(tactic| walk_at "no such key") => `(tactic| fail)
local macro_rules | `(tactic| walk_at "no such key") => `(tactic| fail)
local macro_rules | `(tactic| walk_at "no such key") => `(tactic| fail)
local macro_rules | `(tactic| walk_at "no such key") => `(tactic| fail)
local macro_rules | `(tactic| walk_at "no such key") => `(tactic| fail)
local macro_rules | `(tactic| walk_at "no such key") => `(tactic| fail)
local macro_rules | `(tactic| walk_at "no such key") => `(tactic| fail)
local macro_rules | `(tactic| walk_at "no such key") => `(tactic| fail)
theorem fd_room {x y : Int} (h : y.natAbs < 2 ^ 64) : Builtin.divisionGoesByPylong x y = false := by
  refine PyProof.noPylong_of_log2 ?_
  by_cases h0 : y.natAbs = 0
  · rw [h0]; decide +kernel
  · have : y.natAbs.log2 < 64 := (Nat.log2_lt h0).mpr h
    omega
theorem abs_fd {prog : Program} {w : World} {A : Around} {E : Value → Shared → Prop} {s : Shared} {Q : Value → Shared → Prop} {a b : Int} {t u : Tok} (hb : b ≠ 0) (hb2 : b.natAbs < 2 ^ 64)
    (h : Q (.int ((absF a).fdiv (absF b)) s.toks) { s with toks := s.toks + 1 }) : wpAny (model prog w) A (binaryOp .FloorDiv (.int (if a < 0 then -a else a) t) (.int (if b < 0 then -b else b) u)) Q E s :=
  floordiv_int (by split <;> omega) h (Or.inl (fd_room (by split <;> omega)))

set_option maxRecDepth 100000 in
set_option maxHeartbeats 2000000 in
theorem wrapped_c (w : World) (n : Int) (t : Tok) (news : List (Addr × Obj)) :
    Ctr w 1 67 [.int n t] news (fun v news' => (∃ t', v = .int (wrapF n) t') ∧ news' = news) := by
  unfold Ctr; k_fill
  intro dp un gd cn cs a ccd cl outer A₀ base h₀ L m s Q E mean mg mb B F X N T hk hd hu hret
  refine wpAny_call ?_
  k_dflt cell_enter
  k_steps
  · exact hret _ _ _ _ ⟨⟨_, by rw [wrapF, if_pos (by assumption)]⟩, rfl⟩ (by k_asm) (by k_asm)
  · exact hret _ _ _ _ ⟨⟨_, by rw [wrapF, if_neg (by assumption)]⟩, rfl⟩ (by k_asm) (by k_asm)
local macro_rules | `(tactic| walk_at "binaryOp FloorDiv int int") => `(tactic| (k_here; (with_reducible refine abs_fd ?hb ?hb2 ?_); (case hb => assumption); (case hb2 => assumption)))
set_option maxRecDepth 100000 in
set_option maxHeartbeats 2000000 in
theorem divided_c (w : World) (n b : Int) (t u : Tok) (news : List (Addr × Obj)) (hb : b ≠ 0) (hb2 : b.natAbs < 2 ^ 64) :
    Ctr w 1 74 [.int n t, .int b u] news (fun v news' => (∃ t', v = .int (divF n b) t') ∧ news' = news) := by
  unfold Ctr; k_fill
  intro dp un gd cn cs a ccd cl outer A₀ base h₀ L m s Q E mean mg mb B F X N T hk hd hu hret
  refine wpAny_call ?_
  k_dflt cell_enter
  k_steps
  · exact hret _ _ _ _ ⟨⟨_, by rw [divF, if_pos (by assumption)]⟩, rfl⟩ (by k_asm) (by k_asm)
  · exact hret _ _ _ _ ⟨⟨_, by rw [divF, if_neg (Bool.eq_false_iff.mp (by assumption))]⟩, rfl⟩ (by k_asm) (by k_asm)
local macro_rules | `(tactic| walk_at "binaryOp LShift int int") => `(tactic| (k_here; (with_reducible refine lshift_int_small ?hb ?hb2 ?hb3 ?_); (case hb => assumption); (case hb2 => omega); (case hb3 => assumption)))
local macro_rules | `(tactic| walk_at "binaryOp RShift int int") => `(tactic| (k_here; (with_reducible refine rshift_int ?hb ?_); (case hb => omega)))
local macro_rules | `(tactic| walk_at "call ref") => `(tactic| (k_here; (with_reducible show wpAny _ _ (call (Value.ref 67) _) _ _ _); k_dflt (refine' ctr_useP (wrapped_c _ _ _ _) ?B ?F ?X ?N ?T ?hk ?hd ?hu ?_; (case B => k_asm); (case F => k_asm); (case X => k_asm); (case N => k_asm); (case T => k_asm); (case hk => first | exact rfl | assumption); (case hd => ktr_room); (case hu => ktr_units); k_whole); intro v' h' tk' hr' F' N'; (obtain ⟨t', e1'⟩ := hr'); subst e1'; (try dsimp only at N'); (try k_sweep)))
set_option maxRecDepth 100000 in
set_option maxHeartbeats 2000000 in
theorem shifted_c (w : World) (n p : Int) (t u : Tok) (news : List (Addr × Obj)) (hn : n.natAbs < 2 ^ 64) (hp1 : p ≤ 1000) :
    Ctr w 2 81 [.int n t, .int p u] news (fun v news' => (∃ t', v = .int (shiftF n p) t') ∧ news' = news) := by
  unfold Ctr; k_fill
  intro dp un gd cn cs a ccd cl outer A₀ base h₀ L m s Q E mean mg mb B F X N T hk hd hu hret
  refine wpAny_call ?_
  k_dflt cell_enter
  k_steps
  all_goals exact hret _ _ _ _ ⟨⟨_, by unfold shiftF; repeat (first | rw [if_pos (by omega)] | rw [if_neg (by omega)])⟩, rfl⟩ (by k_asm) (by k_asm)
end

/-! ### T5 -/
section
local macro_rules | `(tactic| walk_at "no such key") => `(tactic| fail)
local macro_rules | `(tactic| walk_at "no such key") => `(tactic| fail)
local macro_rules | `(tactic| walk_at "no such key") => `(tactic| fail)
local macro_rules | `(tactic| walk_at "no such key") => `(tactic| fail)
local macro_rules | `(tactic| walk_at "no such key") => `(tactic| fail)
local macro_rules | `(tactic| walk_at "no such key") => `(tactic| fail)
local macro_rules | `(tactic| walk_at "no such key") => `(tactic| fail)
local macro_rules | `(tactic| walk_at "no such key") => `(tactic| fail)
local macro_rules | `(tactic| walk_at "no such key") => `(tactic| fail)
local macro_rules | `(tactic| walk_at "no such key") => `(tactic| fail)
local macro_rules | `(tactic| walk_at "no such key") => `(tactic| fail)
local macro_rules | `(tactic| walk_at "no such key") => `(tactic| fail)
local macro_rules | `(tactic| walk_at "no such key") => `(tactic| fail)
local macro_rules | `(tactic| walk_at "no such key") => `(tactic| fail)
def inWF (n : Int) : Bool := decide (-9223372036854775808 ≤ n ∧ n < 9223372036854775808)
theorem inWF_t {n : Int} (h : InW n) : inWF n = true := by unfold inWF; rw [decide_eq_true_iff]; exact h
theorem inWF_of {n : Int} (h : inWF n = true) : InW n := by unfold inWF at h; unfold InW; exact of_decide_eq_true h
theorem vb {b c : Bool} (h : b = c) : Value.bool b = Value.bool c := congrArg Value.bool h
theorem div_no {n b : Int} (hb : b ≠ 0) (h : (if -b > b then -b else b) ≤ if -(n - divF n b * b) > n - divF n b * b then -(n - divF n b * b) else n - divF n b * b) : False := by
  have := (div_rest (n := n) hb).1
  revert h
  split <;> split <;> omega
theorem div_sign {n b : Int} (hb : b ≠ 0) (h : n - divF n b * b ≠ 0) : (decide (n - divF n b * b < 0) == decide (n < 0)) = true := by
  have h2 := (div_rest (n := n) hb).2.resolve_left h
  rw [beq_iff_eq, decide_eq_decide]
  exact h2
local macro_rules | `(tactic| walk_at "binaryOp Pow int int") => `(tactic| (k_here; with_reducible (first | refine pow_lit pow_31 (by decide) ?_ | refine pow_lit pow_32 (by decide) ?_ | refine pow_lit pow_62 (by decide) ?_ | refine pow_lit pow_63 (by decide) ?_ | refine pow_lit pow_64 (by decide) ?_)))
set_option maxRecDepth 100000 in
set_option maxHeartbeats 2000000 in
theorem is_word_c (w : World) (n : Int) (t : Tok) (news : List (Addr × Obj)) :
    Ctr w 1 123 [.int n t] news (fun v news' => (v = .bool (inWF n)) ∧ news' = news) := by
  unfold Ctr; k_fill
  intro dp un gd cn cs a ccd cl outer A₀ base h₀ L m s Q E mean mg mb B F X N T hk hd hu hret
  refine wpAny_call ?_
  k_dflt cell_enter
  k_steps
  · exact hret _ _ _ _ ⟨vb (decide_eq_decide.mpr ⟨fun h => ⟨by assumption, h⟩, fun h => h.2⟩), rfl⟩ (by k_asm) (by k_asm)
  · exact hret _ _ _ _ ⟨vb (decide_eq_decide.mpr ⟨fun h => absurd h (by assumption), fun h => h.1⟩), rfl⟩ (by k_asm) (by k_asm)
local macro_rules | `(tactic| walk_at "call ref") => `(tactic| (k_here; (with_reducible show wpAny _ _ (call (Value.ref 67) _) _ _ _); k_dflt (refine' ctr_useP (wrapped_c _ _ _ _) ?B ?F ?X ?N ?T ?hk ?hd ?hu ?_; (case B => k_asm); (case F => k_asm); (case X => k_asm); (case N => k_asm); (case T => k_asm); (case hk => first | exact rfl | assumption); (case hd => ktr_room); (case hu => ktr_units); k_whole); intro v' h' tk' hr' F' N'; (obtain ⟨t', e1'⟩ := hr'); subst e1'; (try k_sweep)))
local macro_rules | `(tactic| walk_at "call ref") => `(tactic| (k_here; (with_reducible show wpAny _ _ (call (Value.ref 123) _) _ _ _); k_dflt (refine' ctr_useP (is_word_c _ _ _ _) ?B ?F ?X ?N ?T ?hk ?hd ?hu ?_; (case B => k_asm); (case F => k_asm); (case X => k_asm); (case N => k_asm); (case T => k_asm); (case hk => first | exact rfl | assumption); (case hd => ktr_room); (case hu => ktr_units); k_whole); intro v' h' tk' hr' F' N'; subst hr'; (try k_sweep)))
set_option maxRecDepth 100000 in
set_option maxHeartbeats 2000000 in
theorem wraps_c (w : World) (n : Int) (t : Tok) (news : List (Addr × Obj)) :
    Ctr w 2 130 [.int n t] news (fun v news' => (v = .bool true) ∧ news' = news) := by
  unfold Ctr; k_fill
  intro dp un gd cn cs a ccd cl outer A₀ base h₀ L m s Q E mean mg mb B F X N T hk hd hu hret
  refine wpAny_call ?_
  k_dflt cell_enter
  k_steps
  · exact hret _ _ _ _ ⟨vb (beq_iff_eq.mpr (wrapF_mod n)), rfl⟩ (by k_asm) (by k_asm)
  · exact hret _ _ _ _ ⟨vb (inWF_t (wrapF_word n)), rfl⟩ (by k_asm) (by k_asm)
local macro_rules | `(tactic| walk_at "call ref") => `(tactic| (k_here; (with_reducible show wpAny _ _ (call (Value.ref 81) _) _ _ _); k_dflt (refine' ctr_useP (shifted_c _ _ _ _ _ _ ?e1 ?e2) ?B ?F ?X ?N ?T ?hk ?hd ?hu ?_; (case B => k_asm); (case F => k_asm); (case X => k_asm); (case N => k_asm); (case T => k_asm); (case hk => first | exact rfl | assumption); (case hd => ktr_room); (case hu => ktr_units); (case e1 => omega); (case e2 => omega); k_whole); intro v' h' tk' hr' F' N'; (obtain ⟨t', e1'⟩ := hr'); subst e1'; (try k_sweep)))
set_option maxRecDepth 100000 in
set_option maxHeartbeats 2000000 in
theorem shifts_c (w : World) (n p : Int) (t u : Tok) (news : List (Addr × Obj)) (hn : -9223372036854775808 ≤ n ∧ n < 9223372036854775808) (hp : -1000 ≤ p ∧ p ≤ 1000) :
    Ctr w 3 137 [.int n t, .int p u] news (fun v news' => (v = .bool true) ∧ news' = news) := by
  have hS : -9223372036854775808 ≤ shiftF n p ∧ shiftF n p < 9223372036854775808 := shift_inW hn
  unfold Ctr; k_fill
  intro dp un gd cn cs a ccd cl outer A₀ base h₀ L m s Q E mean mg mb B F X N T hk hd hu hret
  refine wpAny_call ?_
  k_dflt cell_enter
  k_steps
  · exact hret _ _ _ _ ⟨vb (decide_eq_true (by assumption)), rfl⟩ (by k_asm) (by k_asm)
  · exact hret _ _ _ _ ⟨vb (beq_iff_eq.mpr (shift_zero (by omega))), rfl⟩ (by k_asm) (by k_asm)
  · exact hret _ _ _ _ ⟨vb (beq_iff_eq.mpr (shift_mod (by assumption))), rfl⟩ (by k_asm) (by k_asm)
  · exact hret _ _ _ _ ⟨vb (inWF_t (shift_inW hn)), rfl⟩ (by k_asm) (by k_asm)
  · exact hret _ _ _ _ ⟨vb (decide_eq_true (shift_right hn (by omega)).2), rfl⟩ (by k_asm) (by k_asm)
  · exact hret _ _ _ _ ⟨vb (decide_eq_true (shift_right hn (by omega)).1), rfl⟩ (by k_asm) (by k_asm)
local macro_rules | `(tactic| walk_at "call ref") => `(tactic| (k_here; (with_reducible show wpAny _ _ (call (Value.ref 74) _) _ _ _); k_dflt (refine' ctr_useP (divided_c _ _ _ _ _ _ ?e1 ?e2) ?B ?F ?X ?N ?T ?hk ?hd ?hu ?_; (case B => k_asm); (case F => k_asm); (case X => k_asm); (case N => k_asm); (case T => k_asm); (case hk => first | exact rfl | assumption); (case hd => ktr_room); (case hu => ktr_units); (case e1 => assumption); (case e2 => omega); k_whole); intro v' h' tk' hr' F' N'; (obtain ⟨t', e1'⟩ := hr'); subst e1'; (try k_sweep)))
set_option maxRecDepth 100000 in
set_option maxHeartbeats 2000000 in
theorem divides_c (w : World) (n b : Int) (t u : Tok) (news : List (Addr × Obj)) (hb : b ≠ 0) (hb2 : -9223372036854775808 ≤ b ∧ b < 9223372036854775808) :
    Ctr w 2 144 [.int n t, .int b u] news (fun v news' => (v = .bool true) ∧ news' = news) := by
  unfold Ctr; k_fill
  intro dp un gd cn cs a ccd cl outer A₀ base h₀ L m s Q E mean mg mb B F X N T hk hd hu hret
  refine wpAny_call ?_
  k_dflt cell_enter
  k_steps
  · exact (div_no hb (by assumption)).elim
  · exact hret _ _ _ _ ⟨vb (beq_iff_eq.mpr (by assumption)), rfl⟩ (by k_asm) (by k_asm)
  · exact hret _ _ _ _ ⟨vb (div_sign hb (by assumption)), rfl⟩ (by k_asm) (by k_asm)
end

/-! ### X1 -/
set_option maxRecDepth 100000
/-- an exception class of the text's own: what its line of bases holds -/
structure ExcLine (B : String) (bm : List Value) : Prop where
  hasB : bm.contains (.type B) = true
  hasBase : bm.contains (.type "BaseException") = true
  noAttr : bm.contains (.type "AttributeError") = false
  noName : bm.contains (.type "NameError") = false

section
variable {M : Model} {A : Around} {E : Value → Shared → Prop} {h : Heap} {g : Array GenState} {d : Drawn} {t : Nat} {os : OsState}
variable {nm q : Str} {C N : Addr} {bs bm bmB : List Value} {hdct : Bool} {sn : List Str} {sub : List Value} {ab : Bool} {col : Option Bool} {dd : Option Addr} {k0 k1 k2 k3 k5 : Option Value} {B newId initId : String}

theorem x_check_new (F : ExcBaseFacts B newId initId bmB) (T : ExcLine B bm) {rest : List Value} {Q : Unit → Shared → Prop} (hC : h.get? C = some (excClassObj nm q C N bs bm hdct sn sub ab col dd k0 k1 k2 k3 k5 newId))
    (hq : Q () ⟨h, g, d, t, os⟩) : wpAny M A (checkBuiltinCall newId ⟨.ref C :: rest, []⟩) Q E ⟨h, g, d, t, os⟩ := by
  have hcont : (Value.ref C :: bm).contains (.type B) = true := by rw [List.contains_cons, T.hasB, Bool.or_true]
  have hstar := F.noStar
  simp only [checkBuiltinCall, F.newKind, F.newSplit, F.newRow]
  repeat (first | refine wpAny_loadPart_at hC ?_ | (refine wpAny_isSubtype_exc hC ?_; rw [hcont]) | refine wpAny_staticBase_exc hC ?_ | refine wpAny_madeBy_exc hC ?_ | simp only [bne_self_eq_false, Bool.false_eq_true, if_false] | wp_step)
  exact hq
end

section
variable {prog : Program} {w : World} {A : Around} {R : Result → Shared → Prop} {h : Heap} {g : Array GenState} {d : Drawn} {t : Nat} {os : OsState}
variable {nm q : Str} {C N : Addr} {bs bm bmB : List Value} {hdct : Bool} {sn : List Str} {sub : List Value} {ab : Bool} {col : Option Bool} {dd : Option Addr} {k0 k1 k2 k3 k5 : Option Value} {B newId initId : String}

theorem x_new (F : ExcBaseFacts B newId initId bmB) (T : ExcLine B bm) {rest : List Value} (hC : h.get? C = some (excClassObj nm q C N bs bm hdct sn sub ab col dd k0 k1 k2 k3 k5 newId))
    (hq : R (.ok (.ret (.ref (h.objs.size + 1)))) ⟨(h.push { cls := .type "tuple", data := .seq rest.toArray }).push
      { cls := .ref C, data := .fields #[.ref h.objs.size, .none, .none, .none, .bool false, .none] }, g, d, t, os⟩) (hrest : rest.length ≤ sizeLine) :
    codeAny (model prog w) A (.builtin newId ⟨.ref C :: rest, []⟩) R ⟨h, g, d, t, os⟩ := by
  have hends := F.ends
  have hcB : (Value.ref C :: bm).contains (.type B) = true := by rw [List.contains_cons, T.hasB, Bool.or_true]
  have hcA : (Value.ref C :: bm).contains (.type "AttributeError") = false := by rw [List.contains_cons, T.noAttr]; rfl
  have hcN : (Value.ref C :: bm).contains (.type "NameError") = false := by rw [List.contains_cons, T.noName]; rfl
  refine codeAny_builtinAt F.entry ?_
  unfold Builtin.«BaseException.__new__»
  refine PySem.wpAt_bind ?_
  show PySem.wpAt _ _ _ (stack >>= _) _ _ _
  refine PySem.wpAt_bind (PySem.wpAt_stack fun p below => PySem.wpAt_of_wpAny ?_)
  wp_walk
  refine PySem.wpAt_of_wpAny ?_
  rw [F.owner]
  repeat (first | with_reducible refine wpAny_madeHere_exc F.canon hC ?_ | with_reducible refine wpAny_loadPart_at hC ?_ | (with_reducible refine wpAny_isSubtype_exc hC ?_; first | rw [hcB] | rw [hcA] | rw [hcN]) | wp_step)
  show R _ _
  rw [Heap.size_push]
  exact hq
end

section
variable {prog : Program} {w : World} {A : Around} {E : Value → Shared → Prop} {h : Heap} {g : Array GenState} {d : Drawn} {t : Nat} {os : OsState}
variable {nm q : Str} {C N : Addr} {bs bm bmB : List Value} {hdct : Bool} {sn : List Str} {sub : List Value} {ab : Bool} {col : Option Bool} {dd : Option Addr} {k0 k1 k2 k3 k5 : Option Value} {B newId initId : String}

theorem x_type_call {K : Frag} (F : ExcBaseFacts B newId initId bmB) (T : ExcLine B bm) {rest : List Value} {fI : Addr} {Q : Fin → Shared → Prop}
    (hC : h.get? C = some (excClassObj nm q C N bs bm hdct sn sub ab col dd k0 k1 k2 k3 k5 newId)) (X : K.In h) (hi : findIn K (.ref C) "__init__" = some (some (.ref fI))) (hf : typeIn K (.ref fI) = some (.type "function"))
    (hq : ∀ h' e, Heap.MadeExcOf h h' e (.ref C) rest →
      wpAny (model prog w) A (call (.ref fI) (.ref e :: rest)) (fun r s' => r = .none ∧ Q (.done (.ret (.ref e))) s') E ⟨h', g, d, t, os⟩) (hrest : rest.length ≤ sizeLine) :
    wpAny (model prog w) A (Builtin.«type.__call__» ⟨.ref C :: rest, []⟩) Q E ⟨h, g, d, t, os⟩ := by
  repeat (first | with_reducible refine wpAny_loadPart_at hC ?_ | with_reducible refine wpAny_madeBy_exc hC ?_ | wp_step)
  refine codeAny_call_builtin_code (Code.quiet_builtin _ F.quiet) (x_check_new F T hC ?_)
  refine x_new F T hC ?_ hrest
  show wpAny _ _ _ _ _ _
  have hk : ∀ b o, h.get? b = some o → ((h.push { cls := .type "tuple", data := .seq rest.toArray }).push { cls := .ref C, data := .fields #[.ref h.objs.size, .none, .none, .none, .bool false, .none] }).get? b = some o :=
    fun b o e => Heap.get?_push_of_some _ (Heap.get?_push_of_some _ e)
  have hC₁ := hk _ _ hC
  have X₁ := X.keeps hk
  have hget : ((h.push { cls := .type "tuple", data := .seq rest.toArray }).push
      { cls := .ref C, data := .fields #[.ref h.objs.size, .none, .none, .none, .bool false, .none] }).get? (h.objs.size + 1) = some
      { cls := .ref C, data := .fields #[.ref h.objs.size, .none, .none, .none, .bool false, .none] } := by heap_get
  have hcC : (Value.ref C :: bm).contains (.ref C) = true := by simp
  unfold isInstance
  repeat (first | with_reducible refine wpAny_loadPart_at hget ?_ | (with_reducible refine wpAny_isSubtype_exc hC₁ ?_; rw [hcC]) | wp_step)
  show wpAny _ _ (typeLookup (.ref C) _) _ _ _
  refine (looks_findIn X₁ hi).here ?_
  refine wpAny_holding (wpAny_bind ?_)
  refine (bind_fn X₁ (.ref (h.objs.size + 1)) hf).here ?_
  refine wpAny_bind (wpAny_mono (hq _ (h.objs.size + 1) ⟨hk, Heap.get?_none_of_le (Nat.le_succ _), h.objs.size, hget, Heap.get?_none_of_le (Nat.le_refl _), ?_⟩) (fun r s' hr => ?_) fun _ _ x => x)
  · exact Heap.get?_push_of_some _ (Heap.get?_push_at rfl rfl)
  · obtain ⟨rfl, hQ⟩ := hr
    wp_walk
    exact hQ

theorem x_call {K : Frag} (F : ExcBaseFacts B newId initId bmB) (T : ExcLine B bm) {rest : List Value} {fI : Addr} {Q : Value → Shared → Prop}
    (hC : h.get? C = some (excClassObj nm q C N bs bm hdct sn sub ab col dd k0 k1 k2 k3 k5 newId)) (X : K.In h) (hi : findIn K (.ref C) "__init__" = some (some (.ref fI))) (hf : typeIn K (.ref fI) = some (.type "function"))
    (hq : ∀ h' e, Heap.MadeExcOf h h' e (.ref C) rest →
      wpAny (model prog w) (A.under (.builtin "type.__call__" ⟨.ref C :: rest, []⟩)) (call (.ref fI) (.ref e :: rest)) (fun r s' => r = .none ∧ Q (.ref e) s') E ⟨h', g, d, t, os⟩) (hrest : rest.length ≤ sizeLine) :
    wpAny (model prog w) A (call (.ref C) rest) Q E ⟨h, g, d, t, os⟩ := by
  have f1 := tc_lookup
  have f2 := tc_bind (.ref C)
  have hT : (⟨h, g, d, t, os⟩ : Shared).TypeIs (.ref C) "type" := ⟨_, hC, rfl⟩
  refine wpAny_call (codeAny_of_tree ?_)
  show wpAny _ _ (callAny (.ref C) _) _ _ _
  repeat (any_goals (first | assumption | with_reducible refine wpAny_loadPart_at hC ?_ | wp_step))
  refine ⟨rfl, ?_⟩
  refine codeAny_call_builtin_at (Code.quiet_builtin _ (by decide +kernel)) entry_typeCall (wpAny_check_type_call_sub hC (x_type_call (hrest := hrest) F T hC X hi hf fun h' e hm => ?_))
  exact hq h' e hm
end

section
variable {M : Model} {A : Around} {E : Value → Shared → Prop} {env : Env}
variable {nm q : Str} {C N : Addr} {bs bm : List Value} {hdct : Bool} {sn : List Str} {sub : List Value} {ab : Bool} {col : Option Bool} {dd : Option Addr} {k0 k1 k2 k3 k5 : Option Value} {newId : String}
theorem x_raiseStmt {s : Shared} {x : Sem Value} {Q : Flow → Shared → Prop} (hbase : bm.contains (.type "BaseException") = true) (hh : A.handled = none)
    (h : wpAny M A x (fun v s₁ => ∃ e t od osl, v = .ref e ∧ s₁.heap.get? C = some (excClassObj nm q C N bs bm hdct sn sub ab col dd k0 k1 k2 k3 k5 newId) ∧
      s₁.heap.get? e = some ⟨.ref C, od, .fields #[.ref t, .none, .none, .none, .bool false, .none], osl⟩ ∧ E (.ref e) s₁) E s) :
    wpAny M A (raiseStmt env (some x) none) Q E s := by
  have hcB : (Value.ref C :: bm).contains (.type "BaseException") = true := by rw [List.contains_cons, hbase, Bool.or_true]
  unfold raiseStmt
  refine wpAny_bind (wpAny_mono h (fun v s₁ h₁ => ?_) fun _ _ x => x)
  obtain ⟨e, t, od, osl, rfl, hC, he, hE⟩ := h₁
  obtain ⟨hp, g, d, tk, os⟩ := s₁
  repeat (first | with_reducible refine wpAny_loadPart_at he ?_ | with_reducible refine wpAny_loadPart_at hC ?_ | (with_reducible refine wpAny_isSubtype_exc hC ?_; rw [hcB]) | wp_step)
  exact wpAny_raiseNew_none hh hE
end

/-! ### X2 -/
section
local macro_rules | `(tactic| walk_at "no such key") => `(tactic| fail)
local macro_rules | `(tactic| walk_at "no such key") => `(tactic| fail)
local macro_rules | `(tactic| walk_at "no such key") => `(tactic| fail)
local macro_rules | `(tactic| walk_at "no such key") => `(tactic| fail)
local macro_rules | `(tactic| walk_at "no such key") => `(tactic| fail)
local macro_rules | `(tactic| walk_at "no such key") => `(tactic| fail)
local macro_rules | `(tactic| walk_at "no such key") => `(tactic| fail)
local macro_rules | `(tactic| walk_at "no such key") => `(tactic| fail)
local macro_rules | `(tactic| walk_at "no such key") => `(tactic| fail)
local macro_rules | `(tactic| walk_at "no such key") => `(tactic| fail)
local macro_rules | `(tactic| walk_at "no such key") => `(tactic| fail)
local macro_rules | `(tactic| walk_at "no such key") => `(tactic| fail)
local macro_rules | `(tactic| walk_at "no such key") => `(tactic| fail)
local macro_rules | `(tactic| walk_at "no such key") => `(tactic| fail)
local macro_rules | `(tactic| walk_at "no such key") => `(tactic| fail)
local macro_rules | `(tactic| walk_at "no such key") => `(tactic| fail)
local macro_rules | `(tactic| walk_at "no such key") => `(tactic| fail)
local macro_rules | `(tactic| walk_at "no such key") => `(tactic| fail)
local macro_rules | `(tactic| walk_at "no such key") => `(tactic| fail)
section
open Builtin Builtin.ObjectAttr
variable {prog : Program} {w : World} {A : Around} {K : Frag} {C x : Addr} {s : Shared} {h₀ : Heap} {L : Addr} {m : Str → Option Value} {R : Result → Shared → Prop}
theorem x_osa {fs : Array Value} {sl : Array (Option Value)} {cd : ClassData} {name : Str} {tk : Tok} {v : Value} (X : K.In s.heap) (hx : s.heap.get? x = some ⟨.ref C, none, .fields fs, sl⟩)
    (hc : clsIn K C = some cd) (hd' : cd.hasDict = true) (hp : refuseLoop (.ref x) "__setattr__" cd.mro = pure ()) (ho : subIn K (.ref C) (.type "object") = some true) (ht : takerIn K C name = some none)
    (h : R (.ok (.ret .none)) { s with heap := ((s.heap.push emptyDict).update x (fun o => { o with dict := some s.heap.objs.size })).update s.heap.objs.size (Obj.putName name (PyData.keyHash w.params name) (.str name s.toks) v), toks := s.toks + 1 }) :
    codeAny (model prog w) A (.call (.builtin "object.__setattr__") ⟨[.ref x, .str name tk, v], []⟩) R s := by
  have SF := PySem.F.store_object
  have I : PySem.W.InstAt s.heap x ⟨.ref C, none, .fields fs, sl⟩ C none := ⟨hx, rfl, rfl, trivial⟩
  have sub : Looks (model prog w) s.heap (isInstance (.ref x) (.type "object")) true := I.type.andThen (looks_subIn X ho)
  refine codeAny_call_builtin SF.slot.plain SF.entry (@check_slot (model prog w) _ _ s "object.__setattr__" "object" "__setattr__" (.ref x) [.str name tk, v] [] _ SF.kind SF.split sub (SF.args (.ref x) (.str name tk) v) ?_)
  obtain ⟨attr, ha, hr⟩ := Option.bind_eq_some_iff.mp ht
  have hm' : Looks (model prog w) s.heap (mroOf (.ref C)) cd.mro := (looks_clsIn X hc).andThen .now
  have L3 : Looks (model prog w) s.heap (storeTaker? attr) none := by
    cases attr with
    | none => exact .now
    | some a =>
      obtain ⟨b, hb, hr⟩ := Option.map_eq_some_iff.mp hr
      refine (looks_takesIn X hb).andThen ?_
      cases b
      · exact .now
      · cases hr
  rw [osa_eq, refuse_eq]
  refine wpAny_bind (wpAny_bind (I.type.here (wpAny_bind (hm'.here ?_))))
  rw [hp]
  refine wpAny_pure (wpAny_bind (I.type.here (wpAny_bind ((looks_findIn X ha).here (wpAny_bind (L3.here ?_))))))
  refine wpAny_bind (wpAny_pure (wpAny_bind (wpAny_bind (wpAny_loadPart hx (wpAny_bind ((looks_clsIn X hc).here ?_))))))
  rw [hd']
  have hne : x ≠ s.heap.objs.size := Nat.ne_of_lt (Heap.lt_size hx)
  have hx1 := Heap.get?_push_of_some emptyDict hx
  have D : ((s.heap.push emptyDict).update x (fun o => { o with dict := some s.heap.objs.size })).get? s.heap.objs.size = some emptyDict :=
    (Heap.get?_update_other _ _ hne).trans (Heap.get?_push_size _ rfl)
  have D' := Heap.get?_update_self (Obj.putName name (PyData.keyHash w.params name) (.str name s.toks) v) D rfl
  show wpAny _ _ (alloc emptyDict >>= fun d => update x (fun o => { o with dict := some d }) >>= fun _ => dictMade (.ref C) x d) _ _ _
  refine wpAny_bind (wpAny_alloc (wpAny_bind (wpAny_updatePart hx1 ?_)))
  refine wpAny_pure (a := some s.heap.objs.size) ?_
  show wpAny _ _ (storeInDict s.heap.objs.size (Value.str name tk) name v) _ _ _
  unfold storeInDict
  refine wpAny_bind (wpAny_pure (wpAny_bind ?_))
  unfold nsSet
  refine wpAny_bind (wpAny_bind (wpAny_askSetting (wpAny_pure (wpAny_bind (wpAny_mkText (wpAny_bind (wpAny_loadPart D ?_)))))))
  refine wpAny_updatePart D ?_
  refine wpAny_bind (wpAny_lookBehind D' ?_ ?_)
  · rw [show Obj.putName name (PyData.keyHash w.params name) (Value.str name s.toks) v emptyDict = { cls := .type "dict", data := .dict #[⟨PyData.keyHash w.params name, .str name s.toks, v⟩] 1 } from rfl]
    exact pastItsLine_dict (by show 1 ≤ sizeLine + 1; omega)
  · exact wpAny_pure h
theorem x_setattr {E : Value → Shared → Prop} {Q : Unit → Shared → Prop} {fs : Array Value} {sl : Array (Option Value)} {cd : ClassData} {name : Str} {v : Value} {rest : List (Addr × Obj)} (F : Fr h₀ L s.heap m) (X₀ : K.In h₀) (N : News h₀ L s.heap ((x, ⟨.ref C, none, .fields fs, sl⟩) :: rest)) (hR : ∀ p ∈ rest, p.1 ≠ x)
    (hs : findIn K (.ref C) "__setattr__" = some (some (.builtin "object.__setattr__"))) (hc : clsIn K C = some cd) (hd' : cd.hasDict = true) (hp : ∀ y, refuseLoop (.ref y) "__setattr__" cd.mro = pure ()) (ho : subIn K (.ref C) (.type "object") = some true) (ht : takerIn K C name = some none)
    (h : ∀ dx od h', Fr h₀ L h' m → News h₀ L h' ((dx, od) :: (x, ⟨.ref C, some dx, .fields fs, sl⟩) :: rest) → Q () { s with heap := h', toks := s.toks + 1 + 1 }) :
    wpAny (model prog w) A (setAttr (.ref x) name v) Q E s := by
  have hx := (N _ (.head _)).1
  have X := X₀.keeps F.keep
  have I : PySem.W.InstAt s.heap x ⟨.ref C, none, .fields fs, sl⟩ C none := ⟨hx, rfl, rfl, trivial⟩
  refine set_plain X I hs (x_osa (s := { s with toks := s.toks + 1 }) X hx hc hd' (hp x) ho ht ?_)
  have F1 := F.push emptyDict
  have N1 := N.push F emptyDict
  have lt : ∀ p ∈ ((x, (⟨.ref C, none, .fields fs, sl⟩ : Obj)) :: rest), p.1 ≠ s.heap.objs.size := fun p hq => Nat.ne_of_lt (Heap.lt_size (N p hq).1)
  obtain ⟨F2, N2⟩ := news_upd (pre := [(s.heap.objs.size, emptyDict)]) (post := rest) (o' := ⟨.ref C, some s.heap.objs.size, .fields fs, sl⟩) (f := fun o => { o with dict := some s.heap.objs.size }) F1 N1
    (fun p hq => by rw [List.mem_singleton.mp hq]; exact (lt _ (.head _)).symm) hR rfl rfl
  obtain ⟨F3, N3⟩ := news_upd (pre := []) (post := (x, ⟨.ref C, some s.heap.objs.size, .fields fs, sl⟩) :: rest) (o' := { cls := .type "dict", data := .dict #[⟨PyData.keyHash w.params name, .str name (s.toks + 1), v⟩] 1 }) (f := Obj.putName name (PyData.keyHash w.params name) (.str name (s.toks + 1)) v) F2 N2
    (fun p hq => nomatch hq) (fun p hq => by
      rcases List.mem_cons.mp hq with rfl | hq
      · exact Nat.ne_of_lt (Heap.lt_size hx)
      · exact lt _ (.tail _ hq)) rfl rfl
  exact h _ _ _ F3 N3
end
local macro_rules | `(tactic| k_all) => `(tactic| assumption)
local macro_rules | `(tactic| walk_at "setAttr ref") => `(tactic| (k_here; k_dflt (refine' x_setattr ?F ?X ?N ?R ?hs ?hc ?hd ?hp ?ho ?ht ?_; (case F => k_asm); (case X => k_asm); (case N => k_asm); (case R => assumption); (case hs => k_is); (case hc => k_is); (case hd => rfl); (case hp => intro y; kernel_rfl); (case ho => k_is); (case ht => k_is)); intro dx' od' h' F' N'; (try k_sweep)))
abbrev excO (t : Addr) : Obj := { cls := .ref 44, data := .fields #[.ref t, .none, .none, .none, .bool false, .none] }
abbrev excD (t dx : Addr) : Obj := { cls := .ref 44, dict := some dx, data := .fields #[.ref t, .none, .none, .none, .bool false, .none] }
set_option maxHeartbeats 2000000 in
theorem init_c (w : World) (x t : Addr) (v : Str) (tv : Tok) (R : List (Addr × Obj)) (hR : ∀ p ∈ R, p.1 ≠ x) :
    Ctr w 1 28 [.ref x, .str v tv] ((x, excO t) :: R) (fun r news' => r = .none ∧ ∃ dx od, news' = (dx, od) :: (x, excD t dx) :: R) := by
  unfold Ctr; k_fill
  intro dp un gd cn cs a ccd cl outer A₀ base h₀ L m s Q E mean mg mb B F X N T hk hd hu hret
  refine wpAny_call ?_
  k_dflt cell_enter
  k_steps
  exact hret _ _ _ _ ⟨rfl, _, _, rfl⟩ (by k_asm) (by k_asm)
end

/-! ### X3 -/
def XInit (prog : Program) (w : World) (A : Around) (C fI : Addr) (oC : Obj) (E : Value → Shared → Prop) (vs : List Value) (s₂ : Shared) : Prop :=
  vs.length ≤ sizeLine ∧ ∀ h' e, Heap.MadeExcOf s₂.heap h' e (.ref C) vs → wpAny (model prog w) (A.under (.builtin "type.__call__" ⟨.ref C :: vs, []⟩)) (call (.ref fI) (.ref e :: vs))
    (fun r s' => r = .none ∧ ∃ t od osl, s'.heap.get? C = some oC ∧ s'.heap.get? e = some ⟨.ref C, od, .fields #[.ref t, .none, .none, .none, .bool false, .none], osl⟩ ∧ E (.ref e) s') E { s₂ with heap := h' }
section
variable {prog : Program} {w : World} {A : Around} {E : Value → Shared → Prop} {s : Shared} {env : Env} {K : Frag} {h₀ : Heap} {L a : Addr} {cn : Str} {cs : Scope} {ccd : Value} {m mg mb : Str → Option Value} {p : Program} {loose : List Str}
variable {nm q : Str} {C N : Addr} {bs bm bmB : List Value} {hdct : Bool} {sn : List Str} {sub : List Value} {ab : Bool} {col : Option Bool} {dd : Option Addr} {k0 k1 k2 k3 k5 : Option Value} {B newId initId : String}
theorem x_raise {x : Str} {np cpos pos : Pos} {e₀ : Expr} {rest : List Expr} {fI : Addr} {Q : Flow → Shared → Prop} (F : Fr h₀ L s.heap m) (X : K.In h₀) (T : TopRead p loose mg mb h₀) (ex : nsIn K mainGlobals x = some (some (.ref C)))
    (hC : K.lookup C = some (excClassObj nm q C N bs bm hdct sn sub ab col dd k0 k1 k2 k3 k5 newId)) (FB : ExcBaseFacts B newId initId bmB) (TL : ExcLine B bm) (hh : A.handled = none)
    (hi : findIn K (.ref C) "__init__" = some (some (.ref fI))) (hf : typeIn K (.ref fI) = some (.type "function"))
    (h : wpAny (model prog w) A (spliced (backTo cpos (starEach (e₀ :: rest) (envOf cn cs L a ccd)))) (fun vs s₂ => K.In s₂.heap ∧ XInit prog w A C fI (excClassObj nm q C N bs bm hdct sn sub ab col dd k0 k1 k2 k3 k5 newId) E vs s₂) E s)
    (he : starEach (e₀ :: rest) (envOf cn cs L a ccd) = (false, eval e₀ (envOf cn cs L a ccd)) :: starEach rest (envOf cn cs L a ccd) := by rfl)
    (hplain : (backTo cpos (starEach rest (envOf cn cs L a ccd))).any (·.1) = false := by rfl)
    (hk : cs.kind = .function := by rfl) (hx : (envOf cn cs L a ccd).kindOf x = some .globalImplicit := by rfl) (hd : (x == ("__debug__" : Str)) = false := by decide) :
    wpAny (model prog w) A (exec (.Raise (some (.Call (.Name x np) (e₀ :: rest) [] cpos)) none pos) (envOf cn cs L a ccd)) Q E s := by
  have h' : wpAny (model prog w) A (evalArgs (.ref C) true (backTo cpos (starEach (e₀ :: rest) (envOf cn cs L a ccd))) []) (fun a s₂ => a.kw = [] ∧ K.In s₂.heap ∧ XInit prog w A C fI (excClassObj nm q C N bs bm hdct sn sub ab col dd k0 k1 k2 k3 k5 newId) E a.pos s₂) E s := by
    rw [he] at h ⊢
    exact Calls.evalArgs_plain (wpAny_mono h (fun vs s₂ h₂ => ⟨rfl, h₂.1, h₂.2⟩) fun _ _ y => y)
  have hpl : (backTo cpos (starEach (e₀ :: rest) (envOf cn cs L a ccd))).any (·.1) = false := by rw [he]; show (false || (backTo cpos (starEach rest (envOf cn cs L a ccd))).any (·.1)) = false; rw [hplain]; rfl
  rw [arm_exec_Raise]
  refine wpAny_bind (wpAny_standAt (x_raiseStmt (C := C) (nm := nm) (q := q) (N := N) (bs := bs) (bm := bm) (hdct := hdct) (sn := sn) (sub := sub) (ab := ab) (col := col) (dd := dd) (k0 := k0) (k1 := k1) (k2 := k2) (k3 := k3) (k5 := k5) (newId := newId) TL.hasBase hh
    (wpAny_bind (wpAny_mono (wpAny_Call_ofName (name_K F X T ex ?_ hk hx hd)) (fun v s₃ h₃ => wpAny_bind (wpAny_standAt (wpAny_pure h₃))) fun _ _ x => x))))
  unfold callWith
  refine wpAny_bind (wpAny_holding (wpAny_mono h' (fun a s₂ h₂ => wpAny_bind (wpAny_standAt ?_)) fun _ _ x => x))
  obtain ⟨apos, akw⟩ := a
  obtain ⟨hkw, X₂, hlen, h₂⟩ := h₂
  obtain rfl : akw = [] := hkw
  have hC₂ := X₂ _ _ hC
  obtain ⟨hp, g, d, tk, os⟩ := s₂
  simp only [hpl]
  refine wpAny_bind (wpAny_keeperOf_exc hC₂ ?_)
  refine wpAny_bind (x_call (K := K) FB TL hC₂ X₂ hi hf (fun h' e hm => ?_) hlen)
  refine wpAny_mono (h₂ h' e hm) (fun r s' hr => ?_) fun _ _ y => y
  obtain ⟨rfl, t, od, osl, c1, c2, c3⟩ := hr
  exact ⟨rfl, wpAny_bind (wpAny_holding (wpAny_point (wpAny_pure ⟨e, t, od, osl, rfl, c1, c2, c3⟩)))⟩
end

/-! ### X4 -/
abbrev tupO (vs : List Value) : Obj := { cls := .type "tuple", data := .seq vs.toArray }
theorem x_init_use {w : World} {oC : Obj} {dp un : Nat} {gd : Option (List Code)} {cn : Str} {cs : Scope} {L a : Addr} {ccd : Value} {cl : List (Str × Addr)} {outer : List Env} {A₀ : Around} {base h₀ : Heap} {m : Str → Option Value} {s : Shared} {E : Value → Shared → Prop} {mean : ExcName → Option Value} {mg mb : Str → Option Value} {news : List (Addr × Obj)} {v : Str} {tv : Tok}
    (B : Below A₀ base outer h₀) (F : Fr h₀ L s.heap m) (X : (Mine.hd.heap_39 w.params).In h₀) (N : News h₀ L s.heap news)
    (T : Top Mine.hd.view_39 (looseW Mine.hd.view_39 [Str.ofString "MIN_INT", Str.ofString "MAX_INT", Str.ofString "WORD"]) mean mg mb h₀) (hk : cs.kind = .function)
    (hC : (Mine.hd.heap_39 w.params).lookup 44 = some oC)
    (hd : dp + 2 < recursionLimit) (hu : un + 16 < cLine)
    (h : ∀ (e t dx : Addr) (od : Obj) (h' : Heap) (tk' : Nat), Fr h₀ L h' m → News h₀ L h' ((dx, od) :: (e, excD t dx) :: (t, tupO [.str v tv]) :: news) → (∀ p ∈ news, p.1 ≠ e ∧ p.1 ≠ t) → t ≠ e → E (.ref e) { s with heap := h', toks := tk' }) :
    XInit PySem.Challenge.rw_xm0743_01.row.prog w (ktrTop dp un gd cn cs L a ccd cl outer) 44 28 oC E [.str v tv] s := by
  refine ⟨by show 1 ≤ sizeLine; rw [sizeLine_eq]; decide, fun h₁ e hm => ?_⟩
  obtain ⟨t, he, htn, ht⟩ := hm.there
  have F₁ : Fr h₀ L h₁ m := ⟨F.ns.keeps hm.keeps, fun b o q => hm.keeps _ _ (F.keep b o q), F.above⟩
  have h0n : ∀ b, s.heap.get? b = none → h₀.get? b = none := fun b hb => by
    cases hq : h₀.get? b with
    | none => rfl
    | some o' => have := F.keep b o' hq; rw [hb] at this; cases this
  obtain ⟨oL, _, _, hL, _⟩ := F.ns
  have heL : e ≠ L := fun q => by have := hm.new; rw [q, hL] at this; cases this
  have htL : t ≠ L := fun q => by rw [q, hL] at htn; cases htn
  have hte : t ≠ e := fun q => by rw [q, he] at ht; cases ht
  have hne : ∀ p ∈ news, p.1 ≠ e ∧ p.1 ≠ t := fun p hp => ⟨(fun q => by have := (N p hp).1; rw [q, hm.new] at this; cases this), (fun q => by have := (N p hp).1; rw [q, htn] at this; cases this)⟩
  have N₁ : News h₀ L h₁ ((e, excO t) :: (t, tupO [.str v tv]) :: news) := by
    intro p hp
    rcases List.mem_cons.mp hp with rfl | hp
    · exact ⟨he, heL, h0n _ hm.new⟩
    · rcases List.mem_cons.mp hp with rfl | hp
      · exact ⟨ht, htL, h0n _ htn⟩
      · exact ⟨hm.keeps _ _ (N p hp).1, (N p hp).2⟩
  have C := init_c w e t v tv ((t, tupO [.str v tv]) :: news) (fun p hp => by
    rcases List.mem_cons.mp hp with rfl | hp
    · exact hte
    · exact (hne p hp).1)
  refine ctr_use (dp := dp + 1) (un := un + 1) (s := { s with heap := h₁ }) C B F₁ X N₁ T hk (by omega) (by omega) ?_
  rintro r news' h' tk' ⟨rfl, dx, od, rfl⟩ F' N'
  refine ⟨rfl, t, some dx, #[], (X.keeps F'.keep) _ _ hC, (N' _ (.tail _ (.head _))).1, ?_⟩
  exact h e t dx od h' tk' F' N' hne hte

section
variable {M : Model} {A : Around} {E : Value → Shared → Prop} {s' : Shared} {base g h : Heap} {outer : List Env} {L a e t dx : Addr} {m : Str → Option Value} {name : Str} {scope : Scope} {cd : Value} {Q : Unit → Shared → Prop} {news : List (Addr × Obj)}
/-- a raised object of the ledger leaves its first frame -/
theorem leave_raiseX {C : Addr} {vs : List Value} {od : Obj} {oe : Obj} (K : Below A base outer g) (F : Fr g L s'.heap m) (N : News g L s'.heap ((dx, od) :: (e, oe) :: (t, tupO vs) :: news)) (hcls : oe.cls = .ref C) (hdat : oe.data = .fields #[.ref t, .none, .none, .none, .bool false, .none])
    (hne : ∀ p ∈ news, p.1 ≠ e ∧ p.1 ≠ t) (hte : t ≠ e)
    (hQ : ∀ h' t, RaisedS base g outer e (.ref C) t vs news h' → RaisedK base outer e (.ref C) t vs news h' → g.UpToSlots h' → Q () { s' with heap := h' }) (hk : scope.kind = .function := by rfl) :
    wpAny M (A.deeper (envOf name scope L a cd)) (leaving (envOf name scope L a cd) (.ref e)) Q E s' := by
  have K' := K.push (name := name) (a := a) (cd := cd) F hk
  have Ne := N _ (.tail _ (.head _))
  have Nt := N _ (.tail _ (.tail _ (.head _)))
  have Nn : ∀ q ∈ news, s'.heap.get? q.1 = some q.2 ∧ q.1 ≠ L ∧ g.get? q.1 = none := fun q hq => N q (.tail _ (.tail _ (.tail _ hq)))
  generalize hfs : (envOf name scope L a cd :: outer).filterMap (·.frame) = fs
  have hin : ∀ env ∈ (envOf name scope L a cd :: outer), ∀ b, env.frame = some b → b ∈ e :: t :: fs := fun env he b hb => .tail _ (.tail _ (hfs ▸ List.mem_filterMap.mpr ⟨env, he, hb⟩))
  have inFs : ∀ b ∈ fs, b = L ∨ ∃ o, g.get? b = some o := fun b hb => by
    rw [← hfs] at hb
    rcases kts_mem hb with z | z
    · exact .inl z
    · obtain ⟨o, ho, _⟩ := (K.frames.mem z).2
      exact .inr ⟨o, ho⟩
  have notFs : ∀ b, b ≠ L → g.get? b = none → b ∉ fs := fun b hL hg hb => by
    rcases inFs b hb with z | ⟨o, ho⟩
    · exact hL z
    · rw [hg] at ho; cases ho
  have notAll : ∀ b, b ≠ e → b ≠ t → b ∉ fs → b ∉ e :: t :: fs := fun b h1 h2 h3 hb => by
    rcases List.mem_cons.mp hb with z | hb
    · exact h1 z
    · rcases List.mem_cons.mp hb with z | hb
      · exact h2 z
      · exact h3 hb
  have gne : ∀ b o, g.get? b = some o → b ≠ e ∧ b ≠ t := fun b o q => ⟨(fun z => by rw [z, Ne.2.2] at q; cases q), (fun z => by rw [z, Nt.2.2] at q; cases q)⟩
  have st : base.StaysIn (hideAll s'.heap (e :: t :: fs)) := fun b o q => hideAll_get _ (F.keep b o (K.stays b o q)) (notAll b (gne b o (K.stays b o q)).1 (gne b o (K.stays b o q)).2 fun hm => by
    rw [← hfs] at hm
    rw [(K'.frames.mem hm).1] at q; cases q)
  have sg : ∀ b o, g.get? b = some o → b ∉ outer.filterMap (·.frame) → (hideAll s'.heap (e :: t :: fs)).get? b = some o := fun b o q nm => hideAll_get _ (F.keep b o q) (notAll b (gne b o q).1 (gne b o q).2 fun hm => by
    rw [← hfs] at hm
    rcases kts_mem hm with z | z
    · rw [z, kts_self F] at q
      cases q
    · exact nm z)
  have hl : ∀ q ∈ news, (hideAll s'.heap (e :: t :: fs)).get? q.1 = some q.2 ∧ g.get? q.1 = none ∧ base.get? q.1 = none := fun q hq =>
    ⟨hideAll_get _ (Nn q hq).1 (notAll _ (hne q hq).1 (hne q hq).2 (notFs _ (Nn q hq).2.1 (Nn q hq).2.2)), (Nn q hq).2.2, fresh_of_stays K.stays (Nn q hq).2.2⟩
  refine wpAny_leaving_firstW (base := hideAll s'.heap (e :: t :: fs)) (a0 := .ref t) K'.stack (funFrames_hide K'.frames hin) rfl Ne.1 (fun b o q => of_hideAll _ q) (hideAll_none _ (.head _)) hdat rfl rfl fun h' hL => ?_
  obtain ⟨k1, ⟨_, _, k2⟩, k3, k4⟩ := hL
  have R : RaisedS base g outer e (.ref C) t vs news h' := ⟨⟨_, st, sg, hl, ⟨k1, hideAll_none _ (.head _), k2, hcls ▸ k3⟩, hideAll_none _ (.tail _ (.head _))⟩, Heap.TupAt.of_slots ⟨_, _, Nt.1, rfl, rfl⟩ k4⟩
  exact hQ h' t R R.toK ((Heap.UpToSlots.of_keeps F.keep).trans k4)
end

/-! ### T6 -/
section
local macro_rules | `(tactic| walk_at "no such key") => `(tactic| fail)
local macro_rules | `(tactic| walk_at "no such key") => `(tactic| fail)
local macro_rules | `(tactic| walk_at "no such key") => `(tactic| fail)
local macro_rules | `(tactic| walk_at "no such key") => `(tactic| fail)
local macro_rules | `(tactic| walk_at "no such key") => `(tactic| fail)
local macro_rules | `(tactic| walk_at "no such key") => `(tactic| fail)
local macro_rules | `(tactic| walk_at "no such key") => `(tactic| fail)
local macro_rules | `(tactic| walk_at "no such key") => `(tactic| fail)
local macro_rules | `(tactic| walk_at "no such key") => `(tactic| fail)
local macro_rules | `(tactic| walk_at "no such key") => `(tactic| fail)
local macro_rules | `(tactic| walk_at "no such key") => `(tactic| fail)
local macro_rules | `(tactic| walk_at "no such key") => `(tactic| fail)
local macro_rules | `(tactic| walk_at "no such key") => `(tactic| fail)
local macro_rules | `(tactic| walk_at "no such key") => `(tactic| fail)
local macro_rules | `(tactic| walk_at "no such key") => `(tactic| fail)
local macro_rules | `(tactic| walk_at "no such key") => `(tactic| fail)
local macro_rules | `(tactic| walk_at "no such key") => `(tactic| fail)
local macro_rules | `(tactic| walk_at "no such key") => `(tactic| fail)
local macro_rules | `(tactic| walk_at "no such key") => `(tactic| fail)
local macro_rules | `(tactic| walk_at "no such key") => `(tactic| fail)
abbrev CtrS (w : World) (k : Nat) (f : Addr) (vs : List Value) (news : List (Addr × Obj)) (Ret : Value → List (Addr × Obj) → Prop) : Prop :=
  ∀ (dp un : Nat) (gd : Option (List Code)) (cn : Str) (cs : Scope) (a : Addr) (ccd : Value) (outer : List Env) (A₀ : Around) (base h₀ : Heap) (L : Addr) (m : Str → Option Value) (s : Shared) (Q E : Value → Shared → Prop) (mean : ExcName → Option Value) (mg mb : Str → Option Value),
    Below A₀ base outer h₀ → Fr h₀ L s.heap m → (Mine.hd.heap_39 w.params).In h₀ → News h₀ L s.heap news →
    Top Mine.hd.view_39 (looseW Mine.hd.view_39 [Str.ofString "MIN_INT", Str.ofString "MAX_INT", Str.ofString "WORD"]) mean mg mb h₀ →
    (Mine.hd.heap_39 w.params).In base → Top Mine.hd.view_39 (looseW Mine.hd.view_39 [Str.ofString "MIN_INT", Str.ofString "MAX_INT", Str.ofString "WORD"]) mean mg mb base → KtsDicts (outer.filterMap (·.frame)) h₀ →
    cs.kind = .function → dp + k < recursionLimit → un + 8 * k < cLine →
    (∀ (h₀' : Heap) (v : Value) (news' : List (Addr × Obj)) (h' : Heap) (tk' : Nat), Ret v news' → KtsTurn (outer.filterMap (·.frame)) h₀ h₀' → Fr h₀' L h' m → News h₀' L h' news' → Below A₀ base outer h₀' → (Mine.hd.heap_39 w.params).In h₀' →
      Top Mine.hd.view_39 (looseW Mine.hd.view_39 [Str.ofString "MIN_INT", Str.ofString "MAX_INT", Str.ofString "WORD"]) mean mg mb h₀' → KtsDicts (outer.filterMap (·.frame)) h₀' → Q v { s with heap := h', toks := tk' }) →
    wpAny (model PySem.Challenge.rw_xm0743_01.row.prog w) (ktrTop dp un gd cn cs L a ccd [] outer) (call (.ref f) vs) Q E s
theorem out1 {n : Int} (h : inWF n = false) (h2 : -9223372036854775808 ≤ n) : (!decide (n < 9223372036854775808)) = true := by
  unfold inWF at h
  have := of_decide_eq_false h
  rw [Bool.not_eq_true', decide_eq_false_iff_not]
  omega
theorem out2 {n : Int} (h2 : ¬ -9223372036854775808 ≤ n) : (!decide (-9223372036854775808 ≤ n)) = true := by
  rw [Bool.not_eq_true', decide_eq_false_iff_not]
  exact h2
set_option maxRecDepth 100000 in
set_option maxHeartbeats 2000000 in
theorem in_range_c (w : World) (n : Int) (t : Tok) (news : List (Addr × Obj)) :
    Ctr w 1 53 [.int n t] news (fun v news' => (v = .bool (inWF n)) ∧ news' = news) := by
  unfold Ctr; k_fill
  intro dp un gd cn cs a ccd cl outer A₀ base h₀ L m s Q E mean mg mb B F X N T hk hd hu hret
  refine wpAny_call ?_
  k_dflt cell_enter
  k_steps
  · exact hret _ _ _ _ ⟨vb (decide_eq_decide.mpr ⟨fun h => ⟨by assumption, by omega⟩, fun h => by omega⟩), rfl⟩ (by k_asm) (by k_asm)
  · exact hret _ _ _ _ ⟨vb (decide_eq_decide.mpr ⟨fun h => absurd h (by assumption), fun h => h.1⟩), rfl⟩ (by k_asm) (by k_asm)
local macro_rules | `(tactic| walk_at "binaryOp Pow int int") => `(tactic| (k_here; with_reducible (first | refine pow_lit pow_31 (by decide) ?_ | refine pow_lit pow_32 (by decide) ?_ | refine pow_lit pow_62 (by decide) ?_ | refine pow_lit pow_63 (by decide) ?_ | refine pow_lit pow_64 (by decide) ?_)))
local macro_rules | `(tactic| walk_at "call ref") => `(tactic| (k_here; (with_reducible show wpAny _ _ (call (Value.ref 123) _) _ _ _); k_dflt (refine wpAny_call ?_; refine' code_def ?k1 ?k2 ?k3 ?k4 ?k5 ?kA ?kF ?kK ?k6 ?k7 ?k8 ?k9 ?kB ?_ ?c2 ?c3 ?c4 ?c5; (case kA => exact rfl); (case kF => exact rfl); (case kK => first | exact rfl | assumption); (case k1 => k_asm); (case k2 => k_asm); (case k3 => k_asm); (case k4 => k_asm); (case k5 => k_asm); (case k6 => k_is); (case k7 => k_is); (case k8 => first | ktr_room | (dsimp only [Around.mark, Around.deeper, ktrTop]; omega)); (case k9 => exact BindsTo.of_eq rfl); (case c5 => decide); (case kB => exact locs rfl); (case c2 => exact rfl); (case c3 => exact rfl); (case c4 => exact rfl); k_whole; intro g' L' h' FG' F' N' B' X' T'; (try dsimp only); (try k_lift B'); (try k_fold))))
local macro_rules | `(tactic| walk_at "eval Call") => `(tactic| (k_here; k_dflt (refine Call_ ?_)))
local macro_rules | `(tactic| walk_at "call ref") => `(tactic| (k_here; (with_reducible show wpAny _ _ (call (Value.ref 123) _) _ _ _); k_dflt (refine' ctr_useP (is_word_c _ _ _ _) ?B ?F ?X ?N ?T ?hk ?hd ?hu ?_; (case B => k_asm); (case F => k_asm); (case X => k_asm); (case N => k_asm); (case T => k_asm); (case hk => first | exact rfl | assumption); (case hd => ktr_room); (case hu => ktr_units); k_whole); intro v' h' tk' hr' F' N'; subst hr'; (try k_sweep)))
local macro_rules | `(tactic| walk_at "call ref") => `(tactic| (k_here; (with_reducible show wpAny _ _ (call (Value.ref 53) _) _ _ _); k_dflt (refine' ctr_useP (in_range_c _ _ _ _) ?B ?F ?X ?N ?T ?hk ?hd ?hu ?_; (case B => k_asm); (case F => k_asm); (case X => k_asm); (case N => k_asm); (case T => k_asm); (case hk => first | exact rfl | assumption); (case hd => ktr_room); (case hu => ktr_units); k_whole); intro v' h' tk' hr' F' N'; subst hr'; (try k_sweep)))
local macro_rules | `(tactic| walk_at "call ref") => `(tactic| (k_here; (with_reducible show wpAny _ _ (call (Value.ref 60) _) _ _ _); k_dflt (refine wpAny_call ?_; refine' code_defS ?k1 ?k2 ?k3 ?k4 ?k5 ?XB ?TB ?D ?T0 ?kA ?k6 ?k7 ?k8 ?k9 ?kB ?_ ?cK ?c2 ?c3 ?c4 ?c5; (case kA => exact rfl); (case k2 => k_asm); (case k1 => k_asm); (case XB => assumption); (case TB => assumption); (case D => assumption); (case T0 => exact KtsTurn.refl); (case k3 => k_asm); (case k4 => k_asm); (case k5 => k_asm); (case k6 => k_is); (case k7 => k_is); (case k8 => ktr_room); (case k9 => exact BindsTo.of_eq rfl); (case kB => exact locs rfl); (case cK => first | exact rfl | assumption); (case c2 => exact rfl); (case c3 => exact rfl); (case c4 => exact rfl); (case c5 => decide); k_whole; intro g' L' h' FG' F' N' B' X' T' D'; (try dsimp only); (try k_lift B'); (try k_fold))))
local macro_rules | `(tactic| walk_at "exec Raise some none") => `(tactic| (k_here; k_dflt (refine' x_raise ?F ?X ?T ?ex ?hC PySem.F.excBase_Exception ?TL ?hh ?hi ?hf ?_ ?a ?b ?c ?d ?e; (case F => k_asm); (case X => k_asm); (case T => k_asm); (case ex => k_is); (case hC => k_is); (case TL => exact ⟨by decide +kernel, by decide +kernel, by decide +kernel, by decide +kernel⟩); (case hh => rfl); (case hi => k_is); (case hf => k_is); (case a => rfl); (case b => rfl); (case c => rfl); (case d => rfl); (case e => decide))))
local macro_rules | `(tactic| walk_at "XInit") => `(tactic| (k_here; k_dflt (refine' x_init_use ?B ?F ?X ?N ?T ?hk ?hC ?hd ?hu ?_; (case B => k_asm); (case F => k_asm); (case X => k_asm); (case N => k_asm); (case T => k_asm); (case hk => first | exact rfl | assumption); (case hC => k_is); (case hd => ktr_room); (case hu => ktr_units)); intro e' t' dx' od' h' tk' F' N' hn' hte'; (try k_sweep)))
local macro_rules | `(tactic| walk_at "leaving ref") => `(tactic| (k_here; k_dflt (refine' leave_raiseX ?K ?F ?N ?c1 ?c2 ?hne ?hte ?_; (case K => k_asm); (case F => k_asm); (case N => k_asm); (case c1 => exact rfl); (case c2 => exact rfl); (case hne => assumption); (case hte => assumption)); intro h' t' S' R' U'; (try dsimp only at S' R' U' ⊢)))
set_option maxRecDepth 100000 in
set_option maxHeartbeats 2000000 in
theorem in_word_c (w : World) (n : Int) (t : Tok) (news : List (Addr × Obj)) :
    CtrS w 6 151 [.int n t] news (fun v news' => v = .bool true ∧ news' = news) := by
  unfold CtrS; k_fill
  intro dp un gd cn cs a ccd outer A₀ base h₀ L m s Q E mean mg mb B F X N T XB TB D hk hd hu hret
  refine wpAny_call ?_
  k_dflt (refine' code_defS ?k1 ?k2 ?k3 ?k4 ?k5 ?XB ?TB ?D ?T0 ?kA ?k6 ?k7 ?k8 ?k9 ?kB ?_ ?cK ?c2 ?c3 ?c4 ?c5; (case kA => exact rfl); (case k2 => k_asm); (case k1 => k_asm); (case XB => assumption); (case TB => assumption); (case D => assumption); (case T0 => exact KtsTurn.refl); (case k3 => k_asm); (case k4 => k_asm); (case k5 => k_asm); (case k6 => k_is); (case k7 => k_is); (case k8 => ktr_room); (case k9 => exact BindsTo.of_eq rfl); (case kB => exact locs rfl); (case cK => first | exact rfl | assumption); (case c2 => exact rfl); (case c3 => exact rfl); (case c4 => exact rfl); (case c5 => decide); k_whole; intro g' L' h' FG' F' N' B' X' T' D'; (try dsimp only); (try k_lift B'); (try k_fold))
  k_steps
  · exact hret h₀ _ _ _ _ ⟨vb (by assumption), rfl⟩ KtsTurn.refl (by k_asm) (by k_asm) B X T D
  · exact absurd rfl (by assumption : n ≠ n)
  · exact hret _ _ _ _ _ ⟨vb (out1 (by assumption) (by assumption)), rfl⟩ (by assumption) (by k_asm) (by k_asm) (by k_asm) (by k_asm) (by k_asm) (by k_asm)
  · exact hret _ _ _ _ _ ⟨vb (out2 (by assumption)), rfl⟩ (by assumption) (by k_asm) (by k_asm) (by k_asm) (by k_asm) (by k_asm) (by k_asm)
end

/-! ### L1 -/
/-- the names behind a turn: x holds v -/
abbrev mx (m : Str → Option Value) (x : Str) (v : Value) : Str → Option Value := fun y => if y = x then some v else m y
def BodyEnd (P : Heap → Prop) (L : Addr) (m' : Str → Option Value) (led : List (Addr × Obj)) (s : Shared) (Q : Flow → Shared → Prop) (f : Flow) (s₃ : Shared) : Prop :=
  match f with
  | .next => ∃ g' h' tk, s₃ = { s with heap := h', toks := tk } ∧ P g' ∧ Fr g' L h' m' ∧ News g' L h' led
  | .ret v => Q (.ret v) s₃
  | _ => False
section
variable {prog : Program} {w : World} {A : Around} {E : Value → Shared → Prop} {Q : Flow → Shared → Prop} {s : Shared} {name : Str} {scope : Scope} {L a l : Addr} {cd : Value} {x : Str} {px pos : Pos} {iter : Expr} {body : List Stmt} {g : Heap} {m : Str → Option Value} {news : List (Addr × Obj)} {vs : List Value} {n0 : Nat}
theorem same_led {g' h h₁ : Heap} {I : Addr} {o o₁ : Obj} {m' : Str → Option Value} (F : Fr g' L h m') (N : News g' L h ((I, o) :: news)) (hI : ∀ p ∈ news, p.1 ≠ I) (hk : ∀ b o, b ≠ I → h.get? b = some o → h₁.get? b = some o) (ho : h₁.get? I = some o₁) :
    Fr g' L h₁ m' ∧ News g' L h₁ ((I, o₁) :: news) := by
  have NI := N _ (.head _)
  refine ⟨⟨?_, fun b o' e => hk b o' (fun z => by have := NI.2.2; rw [← z, e] at this; cases this) (F.keep b o' e), F.above⟩, fun p hp => ?_⟩
  · obtain ⟨oL, es, ep, hL, r⟩ := F.ns
    exact ⟨oL, es, ep, hk _ _ (fun z => NI.2.1 z.symm) hL, r⟩
  · rcases List.mem_cons.mp hp with rfl | hp
    · exact ⟨ho, NI.2⟩
    · exact ⟨hk _ _ (hI p hp) (N p (.tail _ hp)).1, (N p (.tail _ hp)).2⟩
theorem for_list (P : Heap → Prop) (hA : A.handled = none) (P0 : P g) (F : Fr g L s.heap m) (N : News g L s.heap news) (hl : (l, listOf vs.toArray n0) ∈ news) (hne : vs ≠ [])
    (hbody : ∀ (v : Value) (g' : Heap) (I : Addr) (o : Obj) (h' : Heap) (tk : Nat) (E' : Value → Shared → Prop), v ∈ vs → P g' → Fr g' L h' (mx m x v) → News g' L h' ((I, o) :: news) → (∀ p ∈ news, p.1 ≠ I) →
      wpAny (model prog w) A (execs body (envOf name scope L a cd)) (BodyEnd P L (mx m x v) ((I, o) :: news) s Q) E' { s with heap := h', toks := tk })
    (hrest : ∀ (v : Value) (g' h' : Heap) (tk : Nat), P g' → Fr g' L h' (mx m x v) → News g' L h' news → Q .next { s with heap := h', toks := tk })
    (hk : scope.kind = .function := by rfl) (hlo : (envOf name scope L a cd).kindOf x = some .local := by rfl) :
    wpAny (model prog w) A (pyIter (.ref l)) (fun it s₂ => codeAny (model prog w) A (.forLoop (.Name x px) it body [] (envOf name scope L a cd)) (fun r s' => match r with | .ok f => Q f s' | .error e => cameBackBy (model prog w) A (envOf name scope L a cd) E e s') s₂) E s := by
  have hl0 := News.isList N hl
  refine wpAny_pyIter_list hl0 ?_
  have F1 := F.push { cls := .type "list_iterator", data := .fields #[.ref l, .int 0 0] }
  have N1 := N.push F { cls := .type "list_iterator", data := .fields #[.ref l, .int 0 0] }
  have hI : ∀ p ∈ news, p.1 ≠ s.heap.objs.size := fun p hp => Nat.ne_of_lt (Heap.lt_size (N p hp).1)
  generalize s.heap.objs.size = I at N1 hI ⊢
  refine codeAny_forLoop (fun k s' => ∃ g' m' h' tk i o, s' = { s with heap := h', toks := tk } ∧ P g' ∧ Fr g' L h' m' ∧ News g' L h' ((I, o) :: news) ∧ o.cls = .type "list_iterator" ∧ o.data = .fields #[.ref l, .int (i : Nat) 0] ∧
    ((i = 0 ∧ m' = m) ∨ (0 < i ∧ ∃ v, m' = mx m x v)) ∧ i ≤ vs.length ∧ k = vs.length + 1 - i) ?_ (vs.length + 1) ⟨g, m, _, s.toks, 0, _, rfl, P0, F1, N1, rfl, rfl, .inl ⟨rfl, rfl⟩, Nat.zero_le _, rfl⟩ (by intro _; rfl)
  rintro k s' ⟨g', m', h', tk, i, o, rfl, hP, F', N', hc, hd, hm, hi, rfl⟩
  have hit : h'.IsListIter I l i := ⟨o, (N' _ (.head _)).1, hc, hd⟩
  have hlist : h'.IsList l vs.toArray := News.isList (N := fun p hp => N' p (.tail _ hp)) hl
  by_cases hlt : i < vs.length
  · refine wpAny_pyNext_list_item hit hlist (x := vs[i]) (by simp [hlt]) fun h₁ hit₁ hsb => ?_
    obtain ⟨o₁, ho₁, hc₁, hd₁⟩ := hit₁
    obtain ⟨F₁, N₁⟩ := same_led F' N' hI (fun b o' hb e => (hsb.2 b hb).trans e) ho₁
    dsimp only
    refine wpAny_assign_Name (stN F₁ N₁ (fun h₂ F₂ N₂ => ?_) hk hlo)
    have em : (fun y => if y = x then some vs[i] else m' y) = mx m x vs[i] := by
      rcases hm with ⟨_, rfl⟩ | ⟨_, v, rfl⟩
      · rfl
      · funext y
        by_cases hy : y = x <;> simp [mx, hy]
    rw [em] at F₂
    refine wpAny_mono (hbody vs[i] g' I o₁ h₂ _ _ (List.getElem_mem hlt) hP F₂ N₂ hI) (fun f s₃ h₃ => ?_) fun _ _ y => y
    cases f with
    | next =>
      obtain ⟨g₃, h₃', tk₃, rfl, P₃, F₃, N₃⟩ := h₃
      exact ⟨vs.length + 1 - (i + 1), by omega, g₃, _, h₃', tk₃, i + 1, o₁, rfl, P₃, F₃, N₃, hc₁, hd₁, .inr ⟨Nat.succ_pos _, _, rfl⟩, hlt, rfl⟩
    | ret v => exact h₃
    | brk => exact h₃.elim
    | cont => exact h₃.elim
  · have hin : i = vs.length := by omega
    subst hin
    refine wpAny_pyNext_list_end hA hit hlist (by simp) fun h₁ hext => wpAny_execs_nil ?_
    rcases hm with ⟨h0, _⟩ | ⟨_, v, rfl⟩
    · exact absurd (List.length_eq_zero_iff.mp h0) hne
    · have NI := N' _ (.head _)
      refine hrest v g' h₁ tk hP ⟨?_, fun b o' e => hext b o' (fun z => by have := NI.2.2; rw [← z, e] at this; cases this) (F'.keep b o' e), F'.above⟩ fun p hp => ⟨hext _ _ (hI p hp) (N' p (.tail _ hp)).1, (N' p (.tail _ hp)).2⟩
      obtain ⟨oL, es, ep, hL, r⟩ := F'.ns
      exact ⟨oL, es, ep, hext _ _ (fun z => NI.2.1 z.symm) hL, r⟩
def LoopWords (prog : Program) (w : World) (A : Around) (env : Env) (target : Expr) (body : List Stmt) (Q : Flow → Shared → Prop) (E : Value → Shared → Prop) (xv : Value) (s₁ : Shared) : Prop :=
  wpAny (model prog w) A (pyIter xv) (fun it s₂ => codeAny (model prog w) A (.forLoop target it body [] env) (fun r s' => match r with | .ok f => Q f s' | .error e => cameBackBy (model prog w) A env E e s') s₂) E s₁
theorem For_words {env : Env} {target : Expr} (h : wpAny (model prog w) A (eval iter env) (fun xv s₁ => LoopWords prog w A env target body Q E xv s₁) E s)
    (hs : ∀ x, foldedSetIterable iter env x = pure x := by intro _; rfl) :
    wpAny (model prog w) A (exec (.For target iter body [] pos) env) Q E s := wpAny_For h hs
end

/-! ### T7 -/
section
local macro_rules | `(tactic| walk_at "no such key") => `(tactic| fail)
local macro_rules | `(tactic| walk_at "no such key") => `(tactic| fail)
local macro_rules | `(tactic| walk_at "no such key") => `(tactic| fail)
local macro_rules | `(tactic| walk_at "no such key") => `(tactic| fail)
local macro_rules | `(tactic| walk_at "no such key") => `(tactic| fail)
local macro_rules | `(tactic| walk_at "no such key") => `(tactic| fail)
local macro_rules | `(tactic| walk_at "no such key") => `(tactic| fail)
local macro_rules | `(tactic| walk_at "no such key") => `(tactic| fail)
local macro_rules | `(tactic| walk_at "no such key") => `(tactic| fail)
local macro_rules | `(tactic| walk_at "no such key") => `(tactic| fail)
local macro_rules | `(tactic| walk_at "no such key") => `(tactic| fail)
local macro_rules | `(tactic| walk_at "no such key") => `(tactic| fail)
local macro_rules | `(tactic| walk_at "no such key") => `(tactic| fail)
local macro_rules | `(tactic| walk_at "no such key") => `(tactic| fail)
local macro_rules | `(tactic| walk_at "no such key") => `(tactic| fail)
local macro_rules | `(tactic| walk_at "no such key") => `(tactic| fail)
local macro_rules | `(tactic| walk_at "no such key") => `(tactic| fail)
local macro_rules | `(tactic| walk_at "no such key") => `(tactic| fail)
local macro_rules | `(tactic| walk_at "no such key") => `(tactic| fail)
local macro_rules | `(tactic| walk_at "no such key") => `(tactic| fail)
local macro_rules | `(tactic| walk_at "no such key") => `(tactic| fail)
local macro_rules | `(tactic| walk_at "no such key") => `(tactic| fail)
local macro_rules | `(tactic| walk_at "no such key") => `(tactic| fail)
local macro_rules | `(tactic| walk_at "no such key") => `(tactic| fail)
local macro_rules | `(tactic| walk_at "no such key") => `(tactic| fail)
local macro_rules | `(tactic| walk_at "no such key") => `(tactic| fail)
local macro_rules | `(tactic| walk_at "no such key") => `(tactic| fail)
local macro_rules | `(tactic| walk_at "no such key") => `(tactic| fail)
local macro_rules | `(tactic| walk_at "no such key") => `(tactic| fail)
theorem ctrS_use {w : World} {k : Nat} {f : Addr} {vs : List Value} {news : List (Addr × Obj)} {P : Value → Prop} {dp un : Nat} {gd : Option (List Code)} {cn : Str} {cs : Scope} {L a : Addr} {ccd : Value} {outer : List Env} {A₀ : Around} {base h₀ g₀ : Heap} {m : Str → Option Value} {s : Shared} {Q E : Value → Shared → Prop} {mean : ExcName → Option Value} {mg mb : Str → Option Value}
    (C : CtrS w k f vs news (fun v news' => P v ∧ news' = news)) (B : Below A₀ base outer h₀) (F : Fr h₀ L s.heap m) (X : (Mine.hd.heap_39 w.params).In h₀) (N : News h₀ L s.heap news)
    (T : Top Mine.hd.view_39 (looseW Mine.hd.view_39 [Str.ofString "MIN_INT", Str.ofString "MAX_INT", Str.ofString "WORD"]) mean mg mb h₀) (XB : (Mine.hd.heap_39 w.params).In base) (TB : Top Mine.hd.view_39 (looseW Mine.hd.view_39 [Str.ofString "MIN_INT", Str.ofString "MAX_INT", Str.ofString "WORD"]) mean mg mb base) (D : KtsDicts (outer.filterMap (·.frame)) h₀) (T0 : KtsTurn (outer.filterMap (·.frame)) g₀ h₀) (hk : cs.kind = .function)
    (hd : dp + k < recursionLimit) (hu : un + 8 * k < cLine)
    (h : ∀ (h₀' : Heap) (v : Value) (h' : Heap) (tk' : Nat), P v → KtsTurn (outer.filterMap (·.frame)) g₀ h₀' → Fr h₀' L h' m → News h₀' L h' news → Below A₀ base outer h₀' → (Mine.hd.heap_39 w.params).In h₀' → Top Mine.hd.view_39 (looseW Mine.hd.view_39 [Str.ofString "MIN_INT", Str.ofString "MAX_INT", Str.ofString "WORD"]) mean mg mb h₀' → KtsDicts (outer.filterMap (·.frame)) h₀' → Q v { s with heap := h', toks := tk' }) :
    wpAny (model PySem.Challenge.rw_xm0743_01.row.prog w) (ktrTop dp un gd cn cs L a ccd [] outer) (call (.ref f) vs) Q E s :=
  C dp un gd cn cs a ccd outer A₀ base h₀ L m s Q E mean mg mb B F X N T XB TB D hk hd hu fun h₀' v news' h' tk' hr kT F' N' B' X' T' D' => by
    obtain ⟨hp, e⟩ := hr
    subst e
    exact h h₀' v h' tk' hp (T0.trans kT) F' N' B' X' T' D'
theorem sh_nat {n p : Int} (h : -9223372036854775808 ≤ n ∧ n < 9223372036854775808) : (shiftF n p).natAbs < 2 ^ 64 := by
  have := shift_inW (p := p) h
  unfold InW at this
  omega
theorem body_end {P : Heap → Prop} {L : Addr} {m' : Str → Option Value} {led : List (Addr × Obj)} {s : Shared} {Q : Flow → Shared → Prop} {g' h' : Heap} {tk : Nat} (F : Fr g' L h' m') (N : News g' L h' led) (hP : P g') :
    BodyEnd P L m' led s Q .next { s with heap := h', toks := tk } := ⟨g', h', tk, rfl, hP, F, N⟩
theorem no_add {a g : Int} (h : wrapF (a + g) ≠ wrapF (a + wrapF g)) : False := h (law_add a g)
theorem no_mul {a g : Int} (h : wrapF (a * g) ≠ wrapF (a * wrapF g)) : False := h (law_mul a g)
theorem no_left {n f s : Int} (h : shiftF (shiftF n f) s ≠ shiftF n (f + s)) (hf : 0 ≤ f) (hs : 0 ≤ s) : False := h (law_left hf hs)
theorem no_right {n f s : Int} (h : shiftF (shiftF n (-f)) (-s) ≠ shiftF n (-f - s)) (hn : -9223372036854775808 ≤ n ∧ n < 9223372036854775808) (hf : 0 ≤ f) (hs : 0 ≤ s) : False := h (law_rshift hn hf hs)
theorem vq {Q : Value → Shared → Prop} {s : Shared} {b : Bool} (h : b = true) (hq : Q (.bool true) s) : Q (.bool b) s := by subst h; exact hq
abbrev RightC (w : World) (src : Addr) (news R : List (Addr × Obj)) : Prop :=
  ∀ (dp un : Nat) (gd : Option (List Code)) (cn : Str) (cs : Scope) (a : Addr) (ccd : Value) (A₀ : Around) (base h₀ : Heap) (L : Addr) (m : Str → Option Value) (s : Shared) (Q E : Value → Shared → Prop) (mean : ExcName → Option Value) (mg mb : Str → Option Value),
    Below A₀ base [] h₀ → Fr h₀ L s.heap m → (Mine.hd.heap_39 w.params).In h₀ → News h₀ L s.heap news → Top Mine.hd.view_39 (looseW Mine.hd.view_39 [Str.ofString "MIN_INT", Str.ofString "MAX_INT", Str.ofString "WORD"]) mean mg mb h₀ → (Mine.hd.heap_39 w.params).In base → Top Mine.hd.view_39 (looseW Mine.hd.view_39 [Str.ofString "MIN_INT", Str.ofString "MAX_INT", Str.ofString "WORD"]) mean mg mb base →
    cs.kind = .function → dp + 10 < recursionLimit → un + 80 < cLine →
    (∀ (h' : Heap) (tk' : Nat), Fr h₀ L h' m → News h₀ L h' R → Q (.bool true) { s with heap := h', toks := tk' }) →
    wpAny (model PySem.Challenge.rw_xm0743_01.row.prog w) (ktrTop dp un gd cn cs L a ccd [] []) (call (.ref 158) [.ref src]) Q E s
local macro_rules | `(tactic| k_all) => `(tactic| assumption)
local macro_rules | `(tactic| walk_at "eval Call") => `(tactic| (k_here; k_dflt (refine Call_ ?_)))
local macro_rules | `(tactic| walk_at "binaryOp Pow int int") => `(tactic| (k_here; with_reducible (first | refine pow_lit pow_31 (by decide) ?_ | refine pow_lit pow_32 (by decide) ?_ | refine pow_lit pow_62 (by decide) ?_ | refine pow_lit pow_63 (by decide) ?_ | refine pow_lit pow_64 (by decide) ?_)))
local macro_rules | `(tactic| walk_at "call ref") => `(tactic| (k_here; (with_reducible show wpAny _ _ (call (Value.ref 95) _) _ _ _); k_dflt (refine' ctr_use (take_u ?U ?hs ?ht ?ht2) ?B ?F ?X ?N ?T ?hk ?hd ?hu ?_; (case B => k_asm); (case F => k_asm); (case X => k_asm); (case N => k_asm); (case T => k_asm); (case hk => first | exact rfl | assumption); (case U => k_updF); (case ht => omega); (case ht2 => omega); (case hs => assumption); (case hd => ktr_room); (case hu => ktr_units); k_whole); intro v' news' h' tk' hr' F' N'; (obtain ⟨o', ⟨d', t', x', tx', y', ty', e1', hd1', hd2', hs', e2'⟩, e3'⟩ := hr'); subst e1'; subst e2'; subst e3'; (try dsimp only at N'); (try k_sweep)))
local macro_rules | `(tactic| walk_at "call ref") => `(tactic| (k_here; (with_reducible show wpAny _ _ (call (Value.ref 109) _) _ _ _); k_dflt (refine' ctr_use (near_u ?U ?hs) ?B ?F ?X ?N ?T ?hk ?hd ?hu ?_; (case B => k_asm); (case F => k_asm); (case X => k_asm); (case N => k_asm); (case T => k_asm); (case hk => first | exact rfl | assumption); (case U => k_updF); (case hs => assumption); (case hd => ktr_room); (case hu => ktr_units); k_whole); intro v' news' h' tk' hr' F' N'; (obtain ⟨o', ⟨d', t', x', tx', y', ty', e1', hd1', hs', e2'⟩, e3'⟩ := hr'); subst e1'; subst e2'; subst e3'; (try dsimp only at N'); (try k_sweep)))
local macro_rules | `(tactic| walk_at "call ref") => `(tactic| (k_here; (with_reducible show wpAny _ _ (call (Value.ref 116) _) _ _ _); k_dflt (refine' ctr_use (number_u ?U ?hs) ?B ?F ?X ?N ?T ?hk ?hd ?hu ?_; (case B => k_asm); (case F => k_asm); (case X => k_asm); (case N => k_asm); (case T => k_asm); (case hk => first | exact rfl | assumption); (case U => k_updF); (case hs => assumption); (case hd => ktr_room); (case hu => ktr_units); k_whole); intro v' news' h' tk' hr' F' N'; (obtain ⟨o', ⟨d', t', x', tx', y', ty', e1', hd1', hs', e2'⟩, e3'⟩ := hr'); subst e1'; subst e2'; subst e3'; (try dsimp only at N'); (try k_sweep)))
local macro_rules | `(tactic| walk_at "call ref") => `(tactic| (k_here; (with_reducible show wpAny _ _ (call (Value.ref 102) _) _ _ _); k_dflt (refine' ctr_use (one_u (P := fun z => 63 ≤ z ∧ z ≤ 128) ?U ?hs ?hl ?hne ?hl0 ?hl1 ?hV) ?B ?F ?X ?N ?T ?hk ?hd ?hu ?_; (case B => k_asm); (case F => k_asm); (case X => k_asm); (case N => k_asm); (case T => k_asm); (case hk => first | exact rfl | assumption); (case U => k_updF); (case hl => k_mem); (case hne => k_ne); (case hl0 => exact Nat.le_of_ble_eq_true rfl); (case hl1 => exact Nat.le_of_ble_eq_true rfl); (case hV => repeat (first | exact List.forall_mem_nil _ | refine List.forall_mem_cons.mpr ⟨⟨_, _, rfl, by decide⟩, ?_⟩)); (case hs => assumption); (case hd => ktr_room); (case hu => ktr_units); k_whole); intro v' news' h' tk' hr' F' N'; (obtain ⟨o', ⟨d', t', x', tx', y', ty', e1', hd1', hs', e2'⟩, e3'⟩ := hr'); subst e1'; subst e2'; subst e3'; (try dsimp only at N'); (try k_sweep)))
local macro_rules | `(tactic| walk_at "call ref") => `(tactic| (k_here; (with_reducible show wpAny _ _ (call (Value.ref 67) _) _ _ _); k_dflt (refine' ctr_useP (wrapped_c _ _ _ _) ?B ?F ?X ?N ?T ?hk ?hd ?hu ?_; (case B => k_asm); (case F => k_asm); (case X => k_asm); (case N => k_asm); (case T => k_asm); (case hk => first | exact rfl | assumption); (case hd => ktr_room); (case hu => ktr_units); k_whole); intro v' h' tk' hr' F' N'; (obtain ⟨t', e1'⟩ := hr'); subst e1'; (try k_sweep)))
local macro_rules | `(tactic| walk_at "call ref") => `(tactic| (k_here; (with_reducible show wpAny _ _ (call (Value.ref 81) _) _ _ _); k_dflt (refine' ctr_useP (shifted_c _ _ _ _ _ _ ?e1 ?e2) ?B ?F ?X ?N ?T ?hk ?hd ?hu ?_; (case B => k_asm); (case F => k_asm); (case X => k_asm); (case N => k_asm); (case T => k_asm); (case hk => first | exact rfl | assumption); (case hd => ktr_room); (case hu => ktr_units); (case e1 => first | omega | exact sh_nat (by assumption)); (case e2 => omega); k_whole); intro v' h' tk' hr' F' N'; (obtain ⟨t', e1'⟩ := hr'); subst e1'; (try k_sweep)))
local macro_rules | `(tactic| walk_at "call ref") => `(tactic| (k_here; (with_reducible show wpAny _ _ (call (Value.ref 130) _) _ _ _); k_dflt (refine' ctr_useP (wraps_c _ _ _ _) ?B ?F ?X ?N ?T ?hk ?hd ?hu ?_; (case B => k_asm); (case F => k_asm); (case X => k_asm); (case N => k_asm); (case T => k_asm); (case hk => first | exact rfl | assumption); (case hd => ktr_room); (case hu => ktr_units); k_whole); intro v' h' tk' hr' F' N'; subst hr'; (try k_sweep)))
local macro_rules | `(tactic| walk_at "call ref") => `(tactic| (k_here; (with_reducible show wpAny _ _ (call (Value.ref 137) _) _ _ _); k_dflt (refine' ctr_useP (shifts_c _ _ _ _ _ _ ?e1 ?e2) ?B ?F ?X ?N ?T ?hk ?hd ?hu ?_; (case B => k_asm); (case F => k_asm); (case X => k_asm); (case N => k_asm); (case T => k_asm); (case hk => first | exact rfl | assumption); (case hd => ktr_room); (case hu => ktr_units); (case e1 => assumption); (case e2 => exact ⟨by omega, by omega⟩); k_whole); intro v' h' tk' hr' F' N'; subst hr'; (try k_sweep)))
local macro_rules | `(tactic| walk_at "call ref") => `(tactic| (k_here; (with_reducible show wpAny _ _ (call (Value.ref 144) _) _ _ _); k_dflt (refine' ctr_useP (divides_c _ _ _ _ _ _ ?e1 ?e2) ?B ?F ?X ?N ?T ?hk ?hd ?hu ?_; (case B => k_asm); (case F => k_asm); (case X => k_asm); (case N => k_asm); (case T => k_asm); (case hk => first | exact rfl | assumption); (case hd => ktr_room); (case hu => ktr_units); (case e1 => assumption); (case e2 => assumption); k_whole); intro v' h' tk' hr' F' N'; subst hr'; (try k_sweep)))
local macro_rules | `(tactic| walk_at "call ref") => `(tactic| (k_here; (with_reducible show wpAny _ _ (call (Value.ref 151) _) _ _ _); k_dflt (refine' ctrS_use (in_word_c _ _ _ _) ?B ?F ?X ?N ?T ?XB ?TB ?D ?T0 ?hk ?hd ?hu ?_; (case B => k_asm); (case F => k_asm); (case X => k_asm); (case N => k_asm); (case T => k_asm); (case XB => assumption); (case TB => assumption); (case D => k_asm); (case T0 => first | assumption | exact KtsTurn.refl); (case hk => first | exact rfl | assumption); (case hd => ktr_room); (case hu => ktr_units); k_whole); intro g' v' h' tk' hr' kT' F' N' B' X' T' D'; subst hr'; (try k_sweep)))
local macro_rules | `(tactic| walk_at "exec For Name List cons nil") => `(tactic| (k_here; k_dflt (refine For_words ?_)))
set_option maxRecDepth 100000 in
set_option maxHeartbeats 4000000 in
theorem right_c (w : World) (src : Addr) (x y : Int) (tx ty : Tok) (n : Nat) (R : List (Addr × Obj)) (hR : ∀ p ∈ R, p.1 ≠ src) (hs : SrcOk x y) : RightC w src ((src, srcO x tx y ty n) :: R) R := by
  unfold RightC; k_fill
  intro dp un gd cn cs a ccd A₀ base h₀ L m s Q E mean mg mb B F X N T XB TB hk hd hu hret
  refine wpAny_call ?_
  k_dflt (refine' code_defS0 ?k1 ?k2 ?k3 ?k4 ?k5 ?kA ?k6 ?k7 ?k8 ?k9 ?kB ?_ ?cK ?c2 ?c3 ?c4 ?c5; (case kA => exact rfl); (case k2 => k_asm); (case k1 => k_asm); (case k3 => k_asm); (case k4 => k_asm); (case k5 => k_asm); (case k6 => k_is); (case k7 => k_is); (case k8 => ktr_room); (case k9 => exact BindsTo.of_eq rfl); (case kB => exact locs rfl); (case cK => assumption); (case c2 => exact rfl); (case c3 => exact rfl); (case c4 => exact rfl); (case c5 => decide); k_whole; intro g' L' h' FG' F' N' B' X' T' D'; (try dsimp only); (try k_lift B'); (try k_fold))
  k_steps
  unfold LoopWords
  refine for_list (fun g'' => KtsTurn ([envOf cn cs L a ccd].filterMap (·.frame)) g' g'' ∧ Below (ktrTop dp un gd cn cs L a ccd [] []) base [envOf cn cs L a ccd] g'' ∧ (Mine.hd.heap_39 w.params).In g'' ∧ Top Mine.hd.view_39 (looseW Mine.hd.view_39 [Str.ofString "MIN_INT", Str.ofString "MAX_INT", Str.ofString "WORD"]) mean mg mb g'' ∧ KtsDicts ([envOf cn cs L a ccd].filterMap (·.frame)) g'') rfl ⟨KtsTurn.refl, B', X', T', D'⟩ (by k_asm) (by k_asm) (by k_mem) (by simp) ?_ ?_
  · intro v g2 I o h2 tk2 E2 hv P2 F2 N2 hI2
    obtain ⟨kT2, B2, X2, T2, D2⟩ := P2
    obtain ⟨z, tz, rfl⟩ : ∃ z tz, v = .int z tz := by
      simp only [List.mem_cons, List.not_mem_nil, or_false] at hv
      rcases hv with rfl | rfl | rfl | rfl <;> exact ⟨_, _, rfl⟩
    clear B' X' T' D'
    k_fold
    k_steps
    refine' body_end ?pF ?pN ?pP
    case pF => k_asm
    case pN => k_asm
    case pP => exact ⟨by k_asm, by k_asm, by k_asm, by k_asm, by k_asm⟩
  · intro v g2 h2 tk2 P2 F2 N2
    obtain ⟨kT2, B2, X2, T2, D2⟩ := P2
    clear B' X' T' D'
    k_steps
    · exact (no_add (by assumption)).elim
    · exact (no_mul (by assumption)).elim
    · exact (no_left (by assumption) (by assumption) (by assumption)).elim
    · exact (no_right (by assumption) (by assumption) (by assumption) (by assumption)).elim
    all_goals rename News _ _ _ _ => N9
    · exact vq (beq_iff_eq.mpr (by assumption)) (hret _ _ (by k_asm) (fun p hp => N9 p (by repeat (first | exact hp | refine List.Mem.tail _ ?_))))
    · exact hret _ _ (by k_asm) (fun p hp => N9 p (by repeat (first | exact hp | refine List.Mem.tail _ ?_)))
    · exact vq (beq_iff_eq.mpr (by assumption)) (hret _ _ (by k_asm) (fun p hp => N9 p (by repeat (first | exact hp | refine List.Mem.tail _ ?_))))
    · exact hret _ _ (by k_asm) (fun p hp => N9 p (by repeat (first | exact hp | refine List.Mem.tail _ ?_)))
end

/-! ### T8 -/
section
local macro_rules | `(tactic| walk_at "no such key") => `(tactic| fail)
local macro_rules | `(tactic| walk_at "no such key") => `(tactic| fail)
local macro_rules | `(tactic| walk_at "no such key") => `(tactic| fail)
local macro_rules | `(tactic| walk_at "no such key") => `(tactic| fail)
local macro_rules | `(tactic| walk_at "no such key") => `(tactic| fail)
local macro_rules | `(tactic| walk_at "no such key") => `(tactic| fail)
local macro_rules | `(tactic| walk_at "no such key") => `(tactic| fail)
local macro_rules | `(tactic| walk_at "no such key") => `(tactic| fail)
local macro_rules | `(tactic| walk_at "no such key") => `(tactic| fail)
local macro_rules | `(tactic| walk_at "no such key") => `(tactic| fail)
local macro_rules | `(tactic| walk_at "no such key") => `(tactic| fail)
local macro_rules | `(tactic| walk_at "no such key") => `(tactic| fail)
local macro_rules | `(tactic| walk_at "no such key") => `(tactic| fail)
local macro_rules | `(tactic| walk_at "no such key") => `(tactic| fail)
local macro_rules | `(tactic| walk_at "no such key") => `(tactic| fail)
local macro_rules | `(tactic| walk_at "no such key") => `(tactic| fail)
local macro_rules | `(tactic| walk_at "no such key") => `(tactic| fail)
local macro_rules | `(tactic| walk_at "no such key") => `(tactic| fail)
local macro_rules | `(tactic| walk_at "no such key") => `(tactic| fail)
local macro_rules | `(tactic| walk_at "no such key") => `(tactic| fail)
local macro_rules | `(tactic| walk_at "no such key") => `(tactic| fail)
local macro_rules | `(tactic| walk_at "no such key") => `(tactic| fail)
local macro_rules | `(tactic| walk_at "no such key") => `(tactic| fail)
local macro_rules | `(tactic| walk_at "no such key") => `(tactic| fail)
local macro_rules | `(tactic| walk_at "no such key") => `(tactic| fail)
local macro_rules | `(tactic| walk_at "no such key") => `(tactic| fail)
local macro_rules | `(tactic| walk_at "no such key") => `(tactic| fail)
local macro_rules | `(tactic| walk_at "no such key") => `(tactic| fail)
local macro_rules | `(tactic| walk_at "no such key") => `(tactic| fail)
local macro_rules | `(tactic| walk_at "no such key") => `(tactic| fail)
local macro_rules | `(tactic| walk_at "no such key") => `(tactic| fail)
local macro_rules | `(tactic| walk_at "no such key") => `(tactic| fail)
local macro_rules | `(tactic| walk_at "no such key") => `(tactic| fail)
local macro_rules | `(tactic| walk_at "no such key") => `(tactic| fail)
local macro_rules | `(tactic| walk_at "no such key") => `(tactic| fail)
local macro_rules | `(tactic| walk_at "no such key") => `(tactic| fail)
local macro_rules | `(tactic| walk_at "no such key") => `(tactic| fail)
local macro_rules | `(tactic| walk_at "no such key") => `(tactic| fail)
local macro_rules | `(tactic| walk_at "no such key") => `(tactic| fail)
local macro_rules | `(tactic| walk_at "no such key") => `(tactic| fail)
local macro_rules | `(tactic| walk_at "no such key") => `(tactic| fail)
local macro_rules | `(tactic| walk_at "no such key") => `(tactic| fail)
theorem pow10_18 : (10 : Int) ^ (18 : Int).toNat = 1000000000000000000 := by decide
theorem pow10_lit {prog : Program} {w : World} {A : Around} {E : Value → Shared → Prop} {s : Shared} {Q : Value → Shared → Prop} {t u : Tok}
    (h : Q (.int 1000000000000000000 s.toks) { s with toks := s.toks + 1 }) : wpAny (model prog w) A (binaryOp .Pow (.int 10 t) (.int 18 u)) Q E s :=
  pow_int_small (by decide) (by decide) (by decide) (by rw [pow10_18]; exact h)
theorem pool_ok (c : Int) : 0 ≤ (if -1 - c > c then -1 - c else c) * (if decide (1000000000000000000 ≤ (if -1 - c > c then -1 - c else c)) = true then 1 else 0) := by
  refine Int.mul_nonneg ?_ ?_
  · split <;> omega
  · generalize (if -1 - c > c then -1 - c else c) = z
    split <;> omega
abbrev PoolC (w : World) (l : Addr) (vs : List Value) (ns : List Int) (k : Int) (t : Tok) (news : List (Addr × Obj)) : Prop :=
  ∀ (dp un : Nat) (gd : Option (List Code)) (cn : Str) (cs : Scope) (a : Addr) (ccd : Value) (cl : List (Str × Addr)) (outer : List Env) (A₀ : Around) (base h₀ : Heap) (L : Addr) (m : Str → Option Value) (s : Shared) (Q E : Value → Shared → Prop) (mean : ExcName → Option Value) (mg mb : Str → Option Value),
    Below A₀ base outer h₀ → Fr h₀ L s.heap m → (Mine.hd.heap_39 w.params).In h₀ → News h₀ L s.heap news → Top Mine.hd.view_39 (looseW Mine.hd.view_39 [Str.ofString "MIN_INT", Str.ofString "MAX_INT", Str.ofString "WORD"]) mean mg mb h₀ → base.IsList l vs.toArray → IntsAre vs ns → ns.length ≤ 63 → 0 ≤ k ∧ k ≤ 3 → cs.kind = .function → dp + 3 < recursionLimit → un + 24 < cLine →
    (∀ (src : Addr) (x : Int) (tx : Tok) (y : Int) (ty : Tok) (h' : Heap) (tk' : Nat), SrcOk x y → (∀ p ∈ news, p.1 ≠ src) → Fr h₀ L h' m → News h₀ L h' ((src, srcO x tx y ty 0) :: news) → Q (.ref src) { s with heap := h', toks := tk' }) →
    wpAny (model PySem.Challenge.rw_xm0743_01.row.prog w) (ktrTop dp un gd cn cs L a ccd cl outer) (call (.ref 88) [.ref l, .int k t]) Q E s
local macro_rules | `(tactic| walk_at "binaryOp Pow int int") => `(tactic| (k_here; with_reducible (refine pow10_lit ?_)))
set_option maxRecDepth 100000 in
set_option maxHeartbeats 2000000 in
theorem pool_c (w : World) (l : Addr) (vs : List Value) (ns : List Int) (k : Int) (t : Tok) (news : List (Addr × Obj)) : PoolC w l vs ns k t news := by
  unfold PoolC; k_fill
  intro dp un gd cn cs a ccd cl outer A₀ base h₀ L m s Q E mean mg mb B F X N T hl hi hlen hkk hk hd hu hret
  refine wpAny_call ?_
  k_dflt cell_enter
  k_steps
  all_goals exact hret _ _ _ _ _ _ _ ⟨pool_ok _, (fmod_pos_facts _ (by decide)).1, (fmod_pos_facts _ (by decide)).2⟩ (fun p hp => Nat.ne_of_lt ((by assumption : ∀ p ∈ news, p.1 < _) p hp)) (by k_asm) (by k_asm)
end

/-! ### T9 -/
section
local macro_rules | `(tactic| walk_at "no such key") => `(tactic| fail)
local macro_rules | `(tactic| walk_at "no such key") => `(tactic| fail)
local macro_rules | `(tactic| walk_at "no such key") => `(tactic| fail)
local macro_rules | `(tactic| walk_at "no such key") => `(tactic| fail)
local macro_rules | `(tactic| walk_at "no such key") => `(tactic| fail)
local macro_rules | `(tactic| walk_at "no such key") => `(tactic| fail)
local macro_rules | `(tactic| walk_at "no such key") => `(tactic| fail)
local macro_rules | `(tactic| walk_at "no such key") => `(tactic| fail)
local macro_rules | `(tactic| walk_at "no such key") => `(tactic| fail)
local macro_rules | `(tactic| walk_at "no such key") => `(tactic| fail)
local macro_rules | `(tactic| walk_at "no such key") => `(tactic| fail)
local macro_rules | `(tactic| walk_at "no such key") => `(tactic| fail)
local macro_rules | `(tactic| walk_at "no such key") => `(tactic| fail)
local macro_rules | `(tactic| walk_at "no such key") => `(tactic| fail)
local macro_rules | `(tactic| walk_at "no such key") => `(tactic| fail)
local macro_rules | `(tactic| walk_at "no such key") => `(tactic| fail)
local macro_rules | `(tactic| walk_at "no such key") => `(tactic| fail)
local macro_rules | `(tactic| walk_at "no such key") => `(tactic| fail)
local macro_rules | `(tactic| walk_at "no such key") => `(tactic| fail)
local macro_rules | `(tactic| walk_at "no such key") => `(tactic| fail)
local macro_rules | `(tactic| walk_at "no such key") => `(tactic| fail)
local macro_rules | `(tactic| walk_at "no such key") => `(tactic| fail)
local macro_rules | `(tactic| walk_at "no such key") => `(tactic| fail)
local macro_rules | `(tactic| walk_at "no such key") => `(tactic| fail)
local macro_rules | `(tactic| walk_at "no such key") => `(tactic| fail)
local macro_rules | `(tactic| walk_at "no such key") => `(tactic| fail)
local macro_rules | `(tactic| walk_at "no such key") => `(tactic| fail)
local macro_rules | `(tactic| walk_at "no such key") => `(tactic| fail)
local macro_rules | `(tactic| walk_at "no such key") => `(tactic| fail)
local macro_rules | `(tactic| walk_at "no such key") => `(tactic| fail)
local macro_rules | `(tactic| walk_at "no such key") => `(tactic| fail)
local macro_rules | `(tactic| walk_at "no such key") => `(tactic| fail)
local macro_rules | `(tactic| walk_at "no such key") => `(tactic| fail)
local macro_rules | `(tactic| walk_at "no such key") => `(tactic| fail)
local macro_rules | `(tactic| walk_at "no such key") => `(tactic| fail)
local macro_rules | `(tactic| walk_at "no such key") => `(tactic| fail)
local macro_rules | `(tactic| walk_at "no such key") => `(tactic| fail)
local macro_rules | `(tactic| walk_at "no such key") => `(tactic| fail)
local macro_rules | `(tactic| walk_at "no such key") => `(tactic| fail)
local macro_rules | `(tactic| walk_at "no such key") => `(tactic| fail)
local macro_rules | `(tactic| walk_at "no such key") => `(tactic| fail)
local macro_rules | `(tactic| walk_at "no such key") => `(tactic| fail)
local macro_rules | `(tactic| walk_at "no such key") => `(tactic| fail)
theorem turn_nil {h₀ g' h : Heap} {L : Addr} {m : Str → Option Value} {news : List (Addr × Obj)} (T : KtsTurn [] h₀ g') (F : Fr g' L h m) (N : News g' L h news) : Fr h₀ L h m ∧ News h₀ L h news := by
  have up : ∀ b o, h₀.get? b = some o → g'.get? b = some o := fun b o e => T.other b o e (by simp)
  refine ⟨⟨F.ns, fun b o e => F.keep b o (up b o e), T.size ▸ F.above⟩, fun p hp => ⟨(N p hp).1, (N p hp).2.1, ?_⟩⟩
  cases q : h₀.get? p.1 with
  | none => rfl
  | some o => have := (N p hp).2.2; rw [up _ _ q] at this; cases this
theorem in_word_0 {w : World} {n : Int} {t : Tok} {news : List (Addr × Obj)} {dp un : Nat} {gd : Option (List Code)} {cn : Str} {cs : Scope} {L a : Addr} {ccd : Value} {A₀ : Around} {base h₀ : Heap} {m : Str → Option Value} {s : Shared} {Q E : Value → Shared → Prop} {mean : ExcName → Option Value} {mg mb : Str → Option Value}
    (B : Below A₀ base [] h₀) (F : Fr h₀ L s.heap m) (X : (Mine.hd.heap_39 w.params).In h₀) (N : News h₀ L s.heap news)
    (T : Top Mine.hd.view_39 (looseW Mine.hd.view_39 [Str.ofString "MIN_INT", Str.ofString "MAX_INT", Str.ofString "WORD"]) mean mg mb h₀) (XB : (Mine.hd.heap_39 w.params).In base) (TB : Top Mine.hd.view_39 (looseW Mine.hd.view_39 [Str.ofString "MIN_INT", Str.ofString "MAX_INT", Str.ofString "WORD"]) mean mg mb base) (hk : cs.kind = .function)
    (hd : dp + 6 < recursionLimit) (hu : un + 48 < cLine)
    (h : ∀ (h' : Heap) (tk' : Nat), Fr h₀ L h' m → News h₀ L h' news → Q (.bool true) { s with heap := h', toks := tk' }) :
    wpAny (model PySem.Challenge.rw_xm0743_01.row.prog w) (ktrTop dp un gd cn cs L a ccd [] []) (call (.ref 151) [.int n t]) Q E s := by
  refine ctrS_use (g₀ := h₀) (in_word_c w n t news) B F X N T XB TB ktsDicts_nil KtsTurn.refl hk hd hu fun h₀' v h' tk' hv kT F' N' _ _ _ _ => ?_
  subst hv
  obtain ⟨F₁, N₁⟩ := turn_nil kT F' N'
  exact h h' tk' F₁ N₁
theorem pool_use {w : World} {l : Addr} {vs : List Value} {ns : List Int} {k : Int} {t : Tok} {news : List (Addr × Obj)} {dp un : Nat} {gd : Option (List Code)} {cn : Str} {cs : Scope} {L a : Addr} {ccd : Value} {cl : List (Str × Addr)} {outer : List Env} {A₀ : Around} {base h₀ : Heap} {m : Str → Option Value} {s : Shared} {Q E : Value → Shared → Prop} {mean : ExcName → Option Value} {mg mb : Str → Option Value}
    (B : Below A₀ base outer h₀) (F : Fr h₀ L s.heap m) (X : (Mine.hd.heap_39 w.params).In h₀) (N : News h₀ L s.heap news) (T : Top Mine.hd.view_39 (looseW Mine.hd.view_39 [Str.ofString "MIN_INT", Str.ofString "MAX_INT", Str.ofString "WORD"]) mean mg mb h₀) (hl : base.IsList l vs.toArray) (hi : IntsAre vs ns) (hlen : ns.length ≤ 63) (hk2 : 0 ≤ k ∧ k ≤ 3) (hk : cs.kind = .function)
    (hd : dp + 3 < recursionLimit) (hu : un + 24 < cLine)
    (h : ∀ (src : Addr) (x : Int) (tx : Tok) (y : Int) (ty : Tok) (h' : Heap) (tk' : Nat), SrcOk x y → (∀ p ∈ news, p.1 ≠ src) → Fr h₀ L h' m → News h₀ L h' ((src, srcO x tx y ty 0) :: news) → Q (.ref src) { s with heap := h', toks := tk' }) :
    wpAny (model PySem.Challenge.rw_xm0743_01.row.prog w) (ktrTop dp un gd cn cs L a ccd cl outer) (call (.ref 88) [.ref l, .int k t]) Q E s :=
  pool_c w l vs ns k t news dp un gd cn cs a ccd cl outer A₀ base h₀ L m s Q E mean mg mb B F X N T hl hi hlen hk2 hk hd hu h
theorem right_use {w : World} {src : Addr} {x y : Int} {tx ty : Tok} {n : Nat} {R : List (Addr × Obj)} {dp un : Nat} {gd : Option (List Code)} {cn : Str} {cs : Scope} {L a : Addr} {ccd : Value} {A₀ : Around} {base h₀ : Heap} {m : Str → Option Value} {s : Shared} {Q E : Value → Shared → Prop} {mean : ExcName → Option Value} {mg mb : Str → Option Value}
    (B : Below A₀ base [] h₀) (F : Fr h₀ L s.heap m) (X : (Mine.hd.heap_39 w.params).In h₀) (N : News h₀ L s.heap ((src, srcO x tx y ty n) :: R)) (T : Top Mine.hd.view_39 (looseW Mine.hd.view_39 [Str.ofString "MIN_INT", Str.ofString "MAX_INT", Str.ofString "WORD"]) mean mg mb h₀) (XB : (Mine.hd.heap_39 w.params).In base) (TB : Top Mine.hd.view_39 (looseW Mine.hd.view_39 [Str.ofString "MIN_INT", Str.ofString "MAX_INT", Str.ofString "WORD"]) mean mg mb base)
    (hR : ∀ p ∈ R, p.1 ≠ src) (hs : SrcOk x y) (hk : cs.kind = .function) (hd : dp + 10 < recursionLimit) (hu : un + 80 < cLine)
    (h : ∀ (h' : Heap) (tk' : Nat), Fr h₀ L h' m → News h₀ L h' R → Q (.bool true) { s with heap := h', toks := tk' }) :
    wpAny (model PySem.Challenge.rw_xm0743_01.row.prog w) (ktrTop dp un gd cn cs L a ccd [] []) (call (.ref 158) [.ref src]) Q E s :=
  right_c w src x y tx ty n R hR hs dp un gd cn cs a ccd A₀ base h₀ L m s Q E mean mg mb B F X N T XB TB hk hd hu h
local macro_rules | `(tactic| walk_at "eval Call") => `(tactic| (k_here; k_dflt (refine Call_ ?_)))
local macro_rules | `(tactic| walk_at "call ref") => `(tactic| (k_here; (with_reducible show wpAny _ _ (call (Value.ref 74) _) _ _ _); k_dflt (refine' ctr_useP (divided_c _ _ _ _ _ _ ?e1 ?e2) ?B ?F ?X ?N ?T ?hk ?hd ?hu ?_; (case B => k_asm); (case F => k_asm); (case X => k_asm); (case N => k_asm); (case T => k_asm); (case hk => first | exact rfl | assumption); (case hd => first | ktr_room | decide); (case hu => first | ktr_units | decide); (case e1 => decide); (case e2 => decide); k_whole); intro v' h' tk' hr' F' N'; (obtain ⟨t', e1'⟩ := hr'); subst e1'; (try k_sweep)))
local macro_rules | `(tactic| walk_at "call ref") => `(tactic| (k_here; (with_reducible show wpAny _ _ (call (Value.ref 81) _) _ _ _); k_dflt (refine' ctr_useP (shifted_c _ _ _ _ _ _ ?e1 ?e2) ?B ?F ?X ?N ?T ?hk ?hd ?hu ?_; (case B => k_asm); (case F => k_asm); (case X => k_asm); (case N => k_asm); (case T => k_asm); (case hk => first | exact rfl | assumption); (case hd => first | ktr_room | decide); (case hu => first | ktr_units | decide); (case e1 => decide); (case e2 => decide); k_whole); intro v' h' tk' hr' F' N'; (obtain ⟨t', e1'⟩ := hr'); subst e1'; (try k_sweep)))
local macro_rules | `(tactic| walk_at "binaryOp Pow int int") => `(tactic| (k_here; with_reducible (first | refine pow_lit pow_31 (by decide) ?_ | refine pow_lit pow_32 (by decide) ?_ | refine pow_lit pow_62 (by decide) ?_ | refine pow_lit pow_63 (by decide) ?_ | refine pow_lit pow_64 (by decide) ?_)))
local macro_rules | `(tactic| walk_at "call ref") => `(tactic| (k_here; (with_reducible show wpAny _ _ (call (Value.ref 151) _) _ _ _); k_dflt (refine' in_word_0 ?B ?F ?X ?N ?T ?XB ?TB ?hk ?hd ?hu ?_; (case B => k_asm); (case F => k_asm); (case X => k_asm); (case N => k_asm); (case T => k_asm); (case XB => assumption); (case TB => assumption); (case hk => first | exact rfl | assumption); (case hd => first | ktr_room | decide); (case hu => first | ktr_units | decide); k_whole); intro h' tk' F' N'; (try k_sweep)))
local macro_rules | `(tactic| walk_at "call ref") => `(tactic| (k_here; (with_reducible show wpAny _ _ (call (Value.ref 88) _) _ _ _); k_dflt (refine' pool_use ?B ?F ?X ?N ?T ?hl ?hi ?hlen ?hk2 ?hk ?hd ?hu ?_; (case B => k_asm); (case F => k_asm); (case X => k_asm); (case N => k_asm); (case T => k_asm); (case hl => assumption); (case hi => assumption); (case hlen => omega); (case hk2 => omega); (case hk => first | exact rfl | assumption); (case hd => first | ktr_room | decide); (case hu => first | ktr_units | decide); k_whole); intro src' x' tx' y' ty' h' tk' hs' hR' F' N'; (try k_sweep)))
local macro_rules | `(tactic| walk_at "call ref") => `(tactic| (k_here; (with_reducible show wpAny _ _ (call (Value.ref 158) _) _ _ _); k_dflt (refine' right_use ?B ?F ?X ?N ?T ?XB ?TB ?hR ?hs ?hk ?hd ?hu ?_; (case B => k_asm); (case F => k_asm); (case X => k_asm); (case N => k_asm); (case T => k_asm); (case XB => assumption); (case TB => assumption); (case hR => assumption); (case hs => assumption); (case hk => first | exact rfl | assumption); (case hd => first | ktr_room | decide); (case hu => first | ktr_units | decide); k_whole); intro h' tk' F' N'; (try k_sweep)))
set_option maxRecDepth 100000 in
set_option maxHeartbeats 4000000 in
theorem holds0 : PySem.Challenge.rw_xm0743_01.Holds := Mine.hd (by
  (k_with "pyIter ref" => k_search (fun _ => True))
  k_go0
  all_goals try k_fold
  k_steps
  done)
end

end Mine

set_option maxRecDepth 100000 in
theorem PySem.Challenge.cw_xm0743_01_holds : PySem.Challenge.rw_xm0743_01.Holds :=
  Mine.holds0
