import PyProof.Rows.All
import Wide.All
import OpenK.AllK
import Wide.FinOn
import Lean
import PySem.Challenge.RW_xm0815_01
set_option Elab.async false
set_option linter.unusedVariables false
set_option compiler.extract_closed false
section PHead
open PySem PySem.W PyProof.Rows
namespace Mine
set_option maxRecDepth 100000 in
set_option maxHeartbeats 8000000 in
open_top hd for PySem.Challenge.rw_xm0815_01
end Mine
end PHead
section PBase
open PySem PySem.W PyProof.Rows PySem.Calls
namespace Mine
set_option maxRecDepth 100000
set_option maxHeartbeats 8000000
theorem kf : PySem.Challenge.rw_xm0815_01 = PySem.Challenge.rw_xm0815_01 ∧ hd.heap_39 = hd.heap_39 := by
  k_fill
  exact ⟨rfl, rfl⟩

/-- the ledger news' is news with d's object turned to o' (or less) -/
def UpdM (d : Addr) (o' : Obj) (news news' : List (Addr × Obj)) : Prop := ∀ p ∈ news', p = (d, o') ∨ (p ∈ news ∧ p.1 ≠ d)
theorem UpdM.of {d : Addr} {o o' : Obj} {news news' : List (Addr × Obj)} (U : Upd d o o' news news') : UpdM d o' news news' := by
  obtain ⟨pre, post, rfl, rfl, h1, h2⟩ := U.split
  intro p hp
  rcases List.mem_append.mp hp with h | h
  · exact .inr ⟨List.mem_append.mpr (.inl h), h1 p h⟩
  · rcases List.mem_cons.mp h with h | h
    · exact .inl h
    · exact .inr ⟨List.mem_append.mpr (.inr (.tail _ h)), h2 p h⟩
def restOf (d : Addr) (news : List (Addr × Obj)) : List (Addr × Obj) := news.filter fun p => decide (p.1 ≠ d)
theorem restOf_ne {d : Addr} {news : List (Addr × Obj)} : ∀ p ∈ restOf d news, p.1 ≠ d := fun p hp => by
  simpa using (List.mem_filter.mp hp).2
theorem restOf_mem {d : Addr} {news : List (Addr × Obj)} : ∀ p ∈ restOf d news, p ∈ news := fun _ hp => (List.mem_filter.mp hp).1
theorem mem_restOf {d : Addr} {p : Addr × Obj} {news : List (Addr × Obj)} (h : p ∈ news) (hn : p.1 ≠ d) : p ∈ restOf d news := List.mem_filter.mpr ⟨h, by simpa using hn⟩
theorem news_rest {h₀ h : Heap} {L d : Addr} {o : Obj} {news : List (Addr × Obj)} (N : News h₀ L h news) (hm : (d, o) ∈ news) : News h₀ L h ((d, o) :: restOf d news) := fun p hp => by
  rcases List.mem_cons.mp hp with rfl | hp
  · exact N _ hm
  · exact N _ (restOf_mem p hp)
theorem news_back {h₀ h : Heap} {L d : Addr} {o' : Obj} {news news' : List (Addr × Obj)} (N : News h₀ L h ((d, o') :: restOf d news)) (U : UpdM d o' news news') : News h₀ L h news' := fun p hp => by
  rcases U p hp with rfl | ⟨h, hn⟩
  · exact N _ (.head _)
  · exact N _ (.tail _ (mem_restOf h hn))
theorem news_sub {h₀ h : Heap} {L : Addr} {news news' : List (Addr × Obj)} (N : News h₀ L h news) (hs : ∀ p ∈ news', p ∈ news) : News h₀ L h news' := fun p hp => N p (hs p hp)
theorem fmod_lo {x y : Int} (hy : 0 < y) : 0 ≤ Int.fmod x y := Int.fmod_nonneg_of_pos x hy
theorem fmod_hi {x y : Int} (hy : 0 < y) : Int.fmod x y < y := Int.fmod_lt_of_pos x hy
theorem fdiv_lo {x y : Int} (hx : 0 ≤ x) (hy : 0 < y) : 0 ≤ Int.fdiv x y := Int.fdiv_nonneg hx (Int.le_of_lt hy)

theorem barn_lo (x : Int) : 0 ≤ Int.fmod x 65257 + 89 := by have := fmod_lo (x := x) (y := 65257) (by decide); omega
theorem barn_hi (x : Int) : Int.fmod x 65257 + 89 ≤ 70000 := by have := fmod_hi (x := x) (y := 65257) (by decide); omega

local macro_rules | `(tactic| k_all) => `(tactic| assumption)

section
variable {w : World} {mean : ExcName → Option Value} {mg mb : Str → Option Value} {dp un : Nat} {gd : Option (List Code)} {cn : Str} {cs : Scope} {a : Addr} {ccd : Value} {cl : List (Str × Addr)} {outer : List Env} {A₀ : Around} {base h₀ : Heap} {L : Addr} {m : Str → Option Value} {news : List (Addr × Obj)} {s : Shared} {Q E : Value → Shared → Prop}

theorem straw_raw {barn : Addr} {v0 v1 y : Int} {t0 t1 ty : Tok} {n : Nat}
  (B : Below A₀ base outer h₀) (F : Fr h₀ L s.heap m) (X : (hd.heap_39 w.params).In h₀) (N : News h₀ L s.heap ((barn, listOf [.int v0 t0, .int v1 t1].toArray n) :: news)) (T : Top hd.view_39 (looseW hd.view_39 []) mean mg mb h₀) (hk : cs.kind = .function) (hd : dp + 3 < recursionLimit)
  (hne : ∀ p ∈ news, p.1 ≠ barn)
  (h0 : 0 ≤ v0) (h1 : 0 ≤ v1) (h2 : v1 ≤ 70000) (hy : 1 ≤ y) (hy2 : y ≤ 1000)
  (ret : ∀ r u0 u1 t t0' t1' h' tk', 0 ≤ r → r < y → 0 ≤ u0 → 0 ≤ u1 → u1 ≤ 70000 → Fr h₀ L h' m → News h₀ L h' ((barn, listOf [.int u0 t0', .int u1 t1'].toArray n) :: news) → Q (.int r t) {s with heap := h', toks := tk'}) :
  wpAny (model PySem.Challenge.rw_xm0815_01.row.prog w) (ktrTop dp un gd cn cs L a ccd cl outer) (call (.ref 183) [.ref barn, .int y ty]) Q E s := by
  refine wpAny_call ?_
  k_dflt ktr_enter
  k_steps
  · refine ret _ _ _ _ _ _ _ _ (fmod_lo (by omega)) (fmod_hi (by omega)) ?_ ?_ ?_ (by k_asm) (by k_asm)
    · exact fdiv_lo h0 (by omega)
    · exact h1
    · exact h2
  · refine ret _ _ _ _ _ _ _ _ (fmod_lo (by omega)) (fmod_hi (by omega)) ?_ ?_ ?_ (by k_asm) (by k_asm)
    · exact h0
    · exact fmod_lo (by decide)
    · exact Int.le_of_lt (Int.lt_of_lt_of_le (fmod_hi (by decide)) (by decide))

theorem straw_call {barn : Addr} {v0 v1 y : Int} {t0 t1 ty : Tok} {n : Nat}
  (B : Below A₀ base outer h₀) (F : Fr h₀ L s.heap m) (X : (hd.heap_39 w.params).In h₀) (N : News h₀ L s.heap news) (T : Top hd.view_39 (looseW hd.view_39 []) mean mg mb h₀) (hk : cs.kind = .function) (hd : dp + 3 < recursionLimit)
  (hm : (barn, listOf [.int v0 t0, .int v1 t1].toArray n) ∈ news)
  (h0 : 0 ≤ v0) (h1 : 0 ≤ v1) (h2 : v1 ≤ 70000) (hy : 1 ≤ y) (hy2 : y ≤ 1000)
  (ret : ∀ r u0 u1 t t0' t1' h' tk', 0 ≤ r → r < y → 0 ≤ u0 → 0 ≤ u1 → u1 ≤ 70000 → Fr h₀ L h' m → (∀ news', UpdM barn (listOf [.int u0 t0', .int u1 t1'].toArray n) news news' → News h₀ L h' news') → Q (.int r t) {s with heap := h', toks := tk'}) :
  wpAny (model PySem.Challenge.rw_xm0815_01.row.prog w) (ktrTop dp un gd cn cs L a ccd cl outer) (call (.ref 183) [.ref barn, .int y ty]) Q E s :=
  straw_raw B F X (news_rest N hm) T hk hd restOf_ne h0 h1 h2 hy hy2 fun r u0 u1 t t0' t1' h' tk' a1 a2 a3 a4 a5 F' N' => ret r u0 u1 t t0' t1' h' tk' a1 a2 a3 a4 a5 F' fun _ U => news_back N' U

theorem barn_call {l : Addr} {vs : List Value} {ns : List Int}
  (B : Below A₀ base outer h₀) (F : Fr h₀ L s.heap m) (X : (hd.heap_39 w.params).In h₀) (N : News h₀ L s.heap news) (T : Top hd.view_39 (looseW hd.view_39 []) mean mg mb h₀) (hk : cs.kind = .function) (hd : dp + 3 < recursionLimit)
  (hl : base.IsList l vs.toArray) (hi : IntsAre vs ns) (hlen : ns.length ≤ 63)
  (ret : ∀ q u0 u1 t0' t1' n h' tk', 0 ≤ u0 → 0 ≤ u1 → u1 ≤ 70000 → (∀ p ∈ news, p.1 < q) → Fr h₀ L h' m → News h₀ L h' ((q, listOf [.int u0 t0', .int u1 t1'].toArray n) :: news) → Q (.ref q) {s with heap := h', toks := tk'}) :
  wpAny (model PySem.Challenge.rw_xm0815_01.row.prog w) (ktrTop dp un gd cn cs L a ccd cl outer) (call (.ref 176) [.ref l]) Q E s := by
  have hlen2 : (ns.length : Int) < 2 ^ 62 := by omega
  refine wpAny_call ?_
  k_dflt ktr_enter
  rename Below _ _ _ _ => B'
  k_lift B'
  k_steps
  all_goals refine ret _ _ _ _ _ _ _ _ ?_ (barn_lo _) (barn_hi _) (by assumption) (by k_asm) (by k_asm)
  all_goals first | with_reducible assumption | exact Int.le_refl 0 | omega
end
end Mine
end PBase
section PFrame
open PySem PySem.W PyProof.Rows PySem.Calls
namespace Mine
set_option maxRecDepth 100000
set_option maxHeartbeats 2000000
local macro_rules | `(tactic| k_mem) => `(tactic| first | exact List.Mem.head _ | assumption | (refine' List.mem_cons_of_mem _ ?_; k_mem))
theorem comp_end_same {h₀ : Heap} {L I C D : Addr} {m : Str → Option Value} {s₁ : Shared} {oI oC oD : Obj} {S : List (Addr × Obj) → Prop} {rest : Value → List (Addr × Obj) → Prop} {y : Value} {h' : Heap} {tk : Nat} {news' : List (Addr × Obj)}
    (F : Fr h₀ L h' m) (N : News h₀ L h' ((I, oI) :: (C, oC) :: (D, oD) :: news')) (off : LCg.Off3 I C D news') (hS : S news') (r : rest y news') :
    LCg.CompEnd h₀ L m s₁ I oI C oC D oD S rest y { s₁ with heap := h', toks := tk } := LCg.CompEnd.intro F N news' (fun _ h => h) off hS r
local macro_rules | `(tactic| walk_at "CompEnd") => `(tactic| (with_unfolding_all refine' comp_end_same (by k_asm) (by k_asm) (by with_reducible assumption) (by lcg_src) ?_))
abbrev ent (w : World) (k : Str) (t : Tok) (v : Value) : DictEntry := { hash := PyData.keyHash w.params k, key := .str k t, val := v }
abbrev compD (w : World) (i ca cd : Int) (k : Fin 4 → Tok) (t : Fin 4 → Tok) : Obj :=
  dictOf [ent w (Str.ofString "ident") (k 0) (.int i (t 0)), ent w (Str.ofString "across") (k 1) (.int ca (t 1)), ent w (Str.ofString "down") (k 2) (.int cd (t 2)), ent w (Str.ofString "quant") (k 3) (.int 0 (t 3))] 4
abbrev frameD (w : World) (W H : Int) (l : Addr) (k : Fin 6 → Tok) (t : Fin 6 → Tok) : Obj :=
  dictOf [ent w (Str.ofString "kind") (k 0) (.str (Str.ofString "baseline") (t 0)), ent w (Str.ofString "precision") (k 1) (.int 8 (t 1)), ent w (Str.ofString "height") (k 2) (.int H (t 2)), ent w (Str.ofString "width") (k 3) (.int W (t 3)),
    ent w (Str.ofString "components") (k 4) (.ref l), ent w (Str.ofString "n") (k 5) (.int 2 (t 5))] 6
/-- the frame and its two components stand in the ledger -/
structure FrW (w : World) (news : List (Addr × Obj)) (fr dfr l c0 c1 d0 d1 : Addr) (W H ca cd : Int) (kf tf : Fin 6 → Tok) (k0 t0 k1 t1 : Fin 4 → Tok) (n : Nat) : Prop where
  m1 : (fr, instObj 125 dfr) ∈ news
  m2 : (dfr, frameD w W H l kf tf) ∈ news
  m3 : (l, listOf [.ref c0, .ref c1].toArray n) ∈ news
  m4 : (c0, instObj 59 d0) ∈ news
  m5 : (d0, compD w 1 ca cd k0 t0) ∈ news
  m6 : (c1, instObj 59 d1) ∈ news
  m7 : (d1, compD w 2 1 1 k1 t1) ∈ news
section
variable {w : World} {mean : ExcName → Option Value} {mg mb : Str → Option Value} {dp un : Nat} {gd : Option (List Code)} {cn : Str} {cs : Scope} {a : Addr} {ccd : Value} {cl : List (Str × Addr)} {outer : List Env} {A₀ : Around} {base h₀ : Heap} {L : Addr} {m : Str → Option Value} {news : List (Addr × Obj)} {s : Shared} {Q E : Value → Shared → Prop}

theorem allLt_mem {d : Addr} : ∀ {l : List (Addr × Obj)}, AllLt d l → ∀ p ∈ l, p.1 < d
  | [], _, _, h => nomatch h
  | q :: r, x, p, h => by
    rcases List.mem_cons.mp h with rfl | h
    · exact x.1
    · exact allLt_mem x.2 p h
local macro_rules | `(tactic| walk_at "my lt") => `(tactic| first | assumption | (rename AllLt _ _ => hl9; exact allLt_mem hl9) | (rename (_ ∧ AllLt _ _) => hl9; exact allLt_mem hl9.2) | (rename (_ ∧ _ ∧ AllLt _ _) => hl9; exact allLt_mem hl9.2.2))
theorem news_drop2 {h₀ h : Heap} {L : Addr} {x y : Addr × Obj} {l : List (Addr × Obj)} (N : News h₀ L h (x :: y :: l)) : News h₀ L h (x :: l) := fun p hp => by
  rcases List.mem_cons.mp hp with rfl | hp
  · exact N _ (.head _)
  · exact N _ (.tail _ (.tail _ hp))
theorem parts_call {x y : Int} {tx ty : Tok}
  (B : Below A₀ base outer h₀) (F : Fr h₀ L s.heap m) (X : (hd.heap_39 w.params).In h₀) (N : News h₀ L s.heap news) (T : Top hd.view_39 (looseW hd.view_39 []) mean mg mb h₀) (hk : cs.kind = .function) (hd : dp + 3 < recursionLimit)
  (hx : 0 ≤ x) (hx2 : x ≤ 1000) (hy : 1 ≤ y) (hy2 : y ≤ 1000)
  (ret : ∀ t h' tk', Fr h₀ L h' m → News h₀ L h' news → Q (.int (Int.fdiv (x + y - 1) y) t) {s with heap := h', toks := tk'}) :
  wpAny (model PySem.Challenge.rw_xm0815_01.row.prog w) (ktrTop dp un gd cn cs L a ccd cl outer) (call (.ref 42) [.int x tx, .int y ty]) Q E s := by
  refine wpAny_call ?_
  k_dflt ktr_enter
  k_steps
  exact ret _ _ _ (by k_asm) (by k_asm)

theorem most_across_call {fr dfr l c0 c1 d0 d1 : Addr} {W H ca cd : Int} {kf tf : Fin 6 → Tok} {k0 t0 k1 t1 : Fin 4 → Tok} {n : Nat}
  (B : Below A₀ base outer h₀) (F : Fr h₀ L s.heap m) (X : (hd.heap_39 w.params).In h₀) (N : News h₀ L s.heap news) (T : Top hd.view_39 (looseW hd.view_39 []) mean mg mb h₀) (hk : cs.kind = .function) (hd : dp + 3 < recursionLimit)
  (hF : FrW w news fr dfr l c0 c1 d0 d1 W H ca cd kf tf k0 t0 k1 t1 n)
  (h1 : 1 ≤ ca) (h2 : ca ≤ 100)
  (ret : ∀ M t h' tk', M = ca → Fr h₀ L h' m → News h₀ L h' news → Q (.int M t) {s with heap := h', toks := tk'}) :
  wpAny (model PySem.Challenge.rw_xm0815_01.row.prog w) (ktrTop dp un gd cn cs L a ccd cl outer) (call (.ref 82) [.ref fr]) Q E s := by
  obtain ⟨m1, m2, m3, m4, m5, m6, m7⟩ := hF
  refine wpAny_call ?_
  k_dflt ktr_enter
  k_steps
  exact ret _ _ _ _ (by omega) (by k_asm) (news_sub (by k_asm) (fun _ h => List.mem_cons_of_mem _ h))

theorem most_down_call {fr dfr l c0 c1 d0 d1 : Addr} {W H ca cd : Int} {kf tf : Fin 6 → Tok} {k0 t0 k1 t1 : Fin 4 → Tok} {n : Nat}
  (B : Below A₀ base outer h₀) (F : Fr h₀ L s.heap m) (X : (hd.heap_39 w.params).In h₀) (N : News h₀ L s.heap news) (T : Top hd.view_39 (looseW hd.view_39 []) mean mg mb h₀) (hk : cs.kind = .function) (hd : dp + 3 < recursionLimit)
  (hF : FrW w news fr dfr l c0 c1 d0 d1 W H ca cd kf tf k0 t0 k1 t1 n)
  (h1 : 1 ≤ cd) (h2 : cd ≤ 100)
  (ret : ∀ M t h' tk', M = cd → Fr h₀ L h' m → News h₀ L h' news → Q (.int M t) {s with heap := h', toks := tk'}) :
  wpAny (model PySem.Challenge.rw_xm0815_01.row.prog w) (ktrTop dp un gd cn cs L a ccd cl outer) (call (.ref 87) [.ref fr]) Q E s := by
  obtain ⟨m1, m2, m3, m4, m5, m6, m7⟩ := hF
  refine wpAny_call ?_
  k_dflt ktr_enter
  k_steps
  exact ret _ _ _ _ (by omega) (by k_asm) (news_sub (by k_asm) (fun _ h => List.mem_cons_of_mem _ h))

local macro_rules | `(tactic| walk_at "call ref") => `(tactic| (k_here; (with_reducible show wpAny _ _ (call (Value.ref 42) _) _ _ _); (k_dflt (refine' parts_call (by k_asm) (by k_asm) (by k_asm) (by k_asm) (by k_asm) (by first | exact rfl | assumption) (by ktr_room) (by omega) (by omega) (by omega) (by omega) ?_)); (intro t' h' tk' F' N'); (try k_sweep)))
local macro_rules | `(tactic| walk_at "call ref") => `(tactic| (k_here; (with_reducible show wpAny _ _ (call (Value.ref 82) _) _ _ _); (k_dflt (refine' most_across_call (by k_asm) (by k_asm) (by k_asm) (by k_asm) (by k_asm) (by first | exact rfl | assumption) (by ktr_room) (by exact FrW.mk (by k_mem) (by k_mem) (by k_mem) (by k_mem) (by k_mem) (by k_mem) (by k_mem)) (by omega) (by omega) ?_)); (intro M' t' h' tk' hM' F' N'); (subst hM'); (try k_sweep)))
local macro_rules | `(tactic| walk_at "call ref") => `(tactic| (k_here; (with_reducible show wpAny _ _ (call (Value.ref 87) _) _ _ _); (k_dflt (refine' most_down_call (by k_asm) (by k_asm) (by k_asm) (by k_asm) (by k_asm) (by first | exact rfl | assumption) (by ktr_room) (by exact FrW.mk (by k_mem) (by k_mem) (by k_mem) (by k_mem) (by k_mem) (by k_mem) (by k_mem)) (by omega) (by omega) ?_)); (intro M' t' h' tk' hM' F' N'); (subst hM'); (try k_sweep)))

theorem mcus_across_call {fr dfr l c0 c1 d0 d1 : Addr} {W H ca cd : Int} {kf tf : Fin 6 → Tok} {k0 t0 k1 t1 : Fin 4 → Tok} {n : Nat}
  (B : Below A₀ base outer h₀) (F : Fr h₀ L s.heap m) (X : (hd.heap_39 w.params).In h₀) (N : News h₀ L s.heap news) (T : Top hd.view_39 (looseW hd.view_39 []) mean mg mb h₀) (hk : cs.kind = .function) (hd : dp + 6 < recursionLimit)
  (hF : FrW w news fr dfr l c0 c1 d0 d1 W H ca cd kf tf k0 t0 k1 t1 n)
  (h1 : 1 ≤ ca) (h2 : ca ≤ 3) (h3 : 1 ≤ W) (h4 : W ≤ 9)
  (ret : ∀ t h' tk', Fr h₀ L h' m → News h₀ L h' news → Q (.int (Int.fdiv (W + 2 * ca - 1) (2 * ca)) t) {s with heap := h', toks := tk'}) :
  wpAny (model PySem.Challenge.rw_xm0815_01.row.prog w) (ktrTop dp un gd cn cs L a ccd cl outer) (call (.ref 94) [.ref fr]) Q E s := by
  obtain ⟨m1, m2, m3, m4, m5, m6, m7⟩ := hF
  refine wpAny_call ?_
  k_dflt ktr_enter
  k_steps
  exact ret _ _ _ (by k_asm) (by k_asm)

theorem mcus_down_call {fr dfr l c0 c1 d0 d1 : Addr} {W H ca cd : Int} {kf tf : Fin 6 → Tok} {k0 t0 k1 t1 : Fin 4 → Tok} {n : Nat}
  (B : Below A₀ base outer h₀) (F : Fr h₀ L s.heap m) (X : (hd.heap_39 w.params).In h₀) (N : News h₀ L s.heap news) (T : Top hd.view_39 (looseW hd.view_39 []) mean mg mb h₀) (hk : cs.kind = .function) (hd : dp + 6 < recursionLimit)
  (hF : FrW w news fr dfr l c0 c1 d0 d1 W H ca cd kf tf k0 t0 k1 t1 n)
  (h1 : 1 ≤ cd) (h2 : cd ≤ 3) (h3 : 1 ≤ H) (h4 : H ≤ 9)
  (ret : ∀ t h' tk', Fr h₀ L h' m → News h₀ L h' news → Q (.int (Int.fdiv (H + 2 * cd - 1) (2 * cd)) t) {s with heap := h', toks := tk'}) :
  wpAny (model PySem.Challenge.rw_xm0815_01.row.prog w) (ktrTop dp un gd cn cs L a ccd cl outer) (call (.ref 101) [.ref fr]) Q E s := by
  obtain ⟨m1, m2, m3, m4, m5, m6, m7⟩ := hF
  refine wpAny_call ?_
  k_dflt ktr_enter
  k_steps
  exact ret _ _ _ (by k_asm) (by k_asm)

local macro_rules | `(tactic| walk_at "call ref") => `(tactic| (k_here; (with_reducible show wpAny _ _ (call (Value.ref 94) _) _ _ _); (k_dflt (refine' mcus_across_call (by k_asm) (by k_asm) (by k_asm) (by k_asm) (by k_asm) (by first | exact rfl | assumption) (by ktr_room) (by exact FrW.mk (by k_mem) (by k_mem) (by k_mem) (by k_mem) (by k_mem) (by k_mem) (by k_mem)) (by omega) (by omega) (by omega) (by omega) ?_)); (intro t' h' tk' F' N'); (try k_sweep)))
local macro_rules | `(tactic| walk_at "call ref") => `(tactic| (k_here; (with_reducible show wpAny _ _ (call (Value.ref 101) _) _ _ _); (k_dflt (refine' mcus_down_call (by k_asm) (by k_asm) (by k_asm) (by k_asm) (by k_asm) (by first | exact rfl | assumption) (by ktr_room) (by exact FrW.mk (by k_mem) (by k_mem) (by k_mem) (by k_mem) (by k_mem) (by k_mem) (by k_mem)) (by omega) (by omega) (by omega) (by omega) ?_)); (intro t' h' tk' F' N'); (try k_sweep)))

theorem item_mem {prog : Program} {w : World} {A : Around} {E : Value → Shared → Prop} {s : Shared} {h₀ : Heap} {L : Addr} {news : List (Addr × Obj)} {value slice : PySem.Expr} {l : Addr} {vs : List Value} {n : Nat} {k : Int} {u : Tok} {v : Value} {Q : Value → Shared → Prop}
    (N : News h₀ L s.heap news) (hm : (l, listOf vs.toArray n) ∈ news) (h0 : 0 ≤ k) (hhi : k < 2 ^ 60) (hx : vs[k.toNat]? = some v) (h : Q v s)
    (hs : subscripted slice false (.ref l) (.int k u) = operate [.ref l, .int k u] (getItem (.ref l) (.int k u)) := by with_unfolding_all rfl) :
    wpAny (model prog w) A (subscriptTail value slice (.ref l) (.int k u)) Q E s :=
  item_litK (PySem.IsL.isList (n := n) (N _ hm).1) h0 (Int.lt_of_lt_of_le hhi (by decide)) hx h hs
local macro_rules | `(tactic| walk_at "subscriptTail") => `(tactic| (k_here; (with_reducible show wpAny _ _ (subscriptTail _ _ (Value.ref _) (Value.int _ _)) _ _ _); k_dflt (refine' item_mem (by k_asm) (by k_mem) (by omega) (by omega) (by with_reducible assumption) ?_ (by with_unfolding_all rfl); k_whole)))
abbrev tupObj (vs : List Value) (n : Nat) : Obj := { cls := .type "tuple", data := .seq vs.toArray n }
theorem plane_size_call {fr dfr l c0 c1 d0 d1 : Addr} {W H ca cd : Int} {kf tf : Fin 6 → Tok} {k0 t0 k1 t1 : Fin 4 → Tok} {n : Nat} {i x y : Int} {ti : Tok} {c dc : Addr} {kc tc : Fin 4 → Tok} {j : Int}
  (B : Below A₀ base outer h₀) (F : Fr h₀ L s.heap m) (X : (hd.heap_39 w.params).In h₀) (N : News h₀ L s.heap news) (T : Top hd.view_39 (looseW hd.view_39 []) mean mg mb h₀) (hk : cs.kind = .function) (hd : dp + 6 < recursionLimit)
  (hF : FrW w news fr dfr l c0 c1 d0 d1 W H ca cd kf tf k0 t0 k1 t1 n)
  (h1 : 1 ≤ ca) (h2 : ca ≤ 3) (h3 : 1 ≤ W) (h4 : W ≤ 9) (h5 : 1 ≤ cd) (h6 : cd ≤ 3) (h7 : 1 ≤ H) (h8 : H ≤ 9)
  (hi0 : 0 ≤ i) (hi1 : i < 2) (hc : ([.ref c0, .ref c1] : List Value)[i.toNat]? = some (.ref c)) (mc : (c, instObj 59 dc) ∈ news) (md : (dc, compD w j x y kc tc) ∈ news)
  (hx0 : 0 ≤ W * x) (hx1 : W * x ≤ 900) (hy0 : 0 ≤ H * y) (hy1 : H * y ≤ 900)
  (ret : ∀ q u t n h' tk', (∀ p ∈ news, p.1 < q) → Fr h₀ L h' m → News h₀ L h' ((q, tupObj [.int (Int.fdiv (W * x + ca - 1) ca) u, .int (Int.fdiv (H * y + cd - 1) cd) t] n) :: news) → Q (.ref q) {s with heap := h', toks := tk'}) :
  wpAny (model PySem.Challenge.rw_xm0815_01.row.prog w) (ktrTop dp un gd cn cs L a ccd cl outer) (call (.ref 108) [.ref fr, .int i ti]) Q E s := by
  obtain ⟨m1, m2, m3, m4, m5, m6, m7⟩ := hF
  refine wpAny_call ?_
  k_dflt ktr_enter
  k_steps
  exact ret _ _ _ _ _ _ (by assumption) (by k_asm) (by k_asm)
local macro_rules | `(tactic| walk_at "call ref") => `(tactic| (k_here; (with_reducible show wpAny _ _ (call (Value.ref 108) _) _ _ _); (k_dflt (refine' plane_size_call (by k_asm) (by k_asm) (by k_asm) (by k_asm) (by k_asm) (by first | exact rfl | assumption) (by ktr_room) (by exact FrW.mk (by k_mem) (by k_mem) (by k_mem) (by k_mem) (by k_mem) (by k_mem) (by k_mem)) (by omega) (by omega) (by omega) (by omega) (by omega) (by omega) (by omega) (by omega) (by omega) (by omega) (by assumption) (by k_mem) (by k_mem) (by assumption) (by assumption) (by assumption) (by assumption) ?_)); (intro q' u' t' n' h' tk' l1 F' N'); (try k_lt l1); (try k_sweep)))

theorem blocks_call {fr dfr l c0 c1 d0 d1 : Addr} {W H ca cd : Int} {kf tf : Fin 6 → Tok} {k0 t0 k1 t1 : Fin 4 → Tok} {n : Nat} {i x y : Int} {ti : Tok} {c dc : Addr} {kc tc : Fin 4 → Tok} {j : Int}
  (B : Below A₀ base outer h₀) (F : Fr h₀ L s.heap m) (X : (hd.heap_39 w.params).In h₀) (N : News h₀ L s.heap news) (T : Top hd.view_39 (looseW hd.view_39 []) mean mg mb h₀) (hk : cs.kind = .function) (hd : dp + 9 < recursionLimit)
  (hF : FrW w news fr dfr l c0 c1 d0 d1 W H ca cd kf tf k0 t0 k1 t1 n)
  (h1 : 1 ≤ ca) (h2 : ca ≤ 3) (h3 : 1 ≤ W) (h4 : W ≤ 9) (h5 : 1 ≤ cd) (h6 : cd ≤ 3) (h7 : 1 ≤ H) (h8 : H ≤ 9)
  (hi0 : 0 ≤ i) (hi1 : i < 2) (hc : ([.ref c0, .ref c1] : List Value)[i.toNat]? = some (.ref c)) (mc : (c, instObj 59 dc) ∈ news) (md : (dc, compD w j x y kc tc) ∈ news)
  (hx0 : 0 ≤ W * x) (hx1 : W * x ≤ 900) (hy0 : 0 ≤ H * y) (hy1 : H * y ≤ 900)
  (hw0 : 0 ≤ Int.fdiv (W * x + ca - 1) ca) (hw1 : Int.fdiv (W * x + ca - 1) ca ≤ 950) (hh0 : 0 ≤ Int.fdiv (H * y + cd - 1) cd) (hh1 : Int.fdiv (H * y + cd - 1) cd ≤ 950)
  (ret : ∀ q u t n h' tk', (∀ p ∈ news, p.1 < q) → Fr h₀ L h' m → News h₀ L h' ((q, tupObj [.int (Int.fdiv (Int.fdiv (W * x + ca - 1) ca + 2 - 1) 2) u, .int (Int.fdiv (Int.fdiv (H * y + cd - 1) cd + 2 - 1) 2) t] n) :: news) → Q (.ref q) {s with heap := h', toks := tk'}) :
  wpAny (model PySem.Challenge.rw_xm0815_01.row.prog w) (ktrTop dp un gd cn cs L a ccd cl outer) (call (.ref 115) [.ref fr, .int i ti]) Q E s := by
  obtain ⟨m1, m2, m3, m4, m5, m6, m7⟩ := hF
  refine wpAny_call ?_
  k_dflt ktr_enter
  k_steps
  exact ret _ _ _ _ _ _ (by walk_at "my lt") (by k_asm) (by first | k_asm | exact news_drop2 (by k_asm))

theorem padded_call {fr dfr l c0 c1 d0 d1 : Addr} {W H ca cd : Int} {kf tf : Fin 6 → Tok} {k0 t0 k1 t1 : Fin 4 → Tok} {n : Nat} {i x y : Int} {ti : Tok} {c dc : Addr} {kc tc : Fin 4 → Tok} {j : Int}
  (B : Below A₀ base outer h₀) (F : Fr h₀ L s.heap m) (X : (hd.heap_39 w.params).In h₀) (N : News h₀ L s.heap news) (T : Top hd.view_39 (looseW hd.view_39 []) mean mg mb h₀) (hk : cs.kind = .function) (hd : dp + 9 < recursionLimit)
  (hF : FrW w news fr dfr l c0 c1 d0 d1 W H ca cd kf tf k0 t0 k1 t1 n)
  (h1 : 1 ≤ ca) (h2 : ca ≤ 3) (h3 : 1 ≤ W) (h4 : W ≤ 9) (h5 : 1 ≤ cd) (h6 : cd ≤ 3) (h7 : 1 ≤ H) (h8 : H ≤ 9)
  (hi0 : 0 ≤ i) (hi1 : i < 2) (hc : ([.ref c0, .ref c1] : List Value)[i.toNat]? = some (.ref c)) (mc : (c, instObj 59 dc) ∈ news) (md : (dc, compD w j x y kc tc) ∈ news)
  (hw0 : 0 ≤ Int.fdiv (W + 2 * ca - 1) (2 * ca)) (hw1 : Int.fdiv (W + 2 * ca - 1) (2 * ca) ≤ 950) (hh0 : 0 ≤ Int.fdiv (H + 2 * cd - 1) (2 * cd)) (hh1 : Int.fdiv (H + 2 * cd - 1) (2 * cd) ≤ 950) (hx0 : 0 ≤ x) (hx1 : x ≤ 3) (hy0 : 0 ≤ y) (hy1 : y ≤ 3)
  (ret : ∀ q u t n h' tk', (∀ p ∈ news, p.1 < q) → Fr h₀ L h' m → News h₀ L h' ((q, tupObj [.int (Int.fdiv (W + 2 * ca - 1) (2 * ca) * x) u, .int (Int.fdiv (H + 2 * cd - 1) (2 * cd) * y) t] n) :: news) → Q (.ref q) {s with heap := h', toks := tk'}) :
  wpAny (model PySem.Challenge.rw_xm0815_01.row.prog w) (ktrTop dp un gd cn cs L a ccd cl outer) (call (.ref 122) [.ref fr, .int i ti]) Q E s := by
  obtain ⟨m1, m2, m3, m4, m5, m6, m7⟩ := hF
  refine wpAny_call ?_
  k_dflt ktr_enter
  k_steps
  exact ret _ _ _ _ _ _ (by walk_at "my lt") (by k_asm) (by first | k_asm | exact news_drop2 (by k_asm))
end
end Mine
end PFrame
section PGrid
open PySem PySem.W PyProof.Rows PySem.Calls
namespace Mine
set_option maxRecDepth 100000
set_option maxHeartbeats 2000000
local macro_rules | `(tactic| k_mem) => `(tactic| first | exact List.Mem.head _ | assumption | (refine' List.mem_cons_of_mem _ ?_; k_mem))
local macro_rules | `(tactic| k_all) => `(tactic| assumption)
local macro_rules | `(tactic| walk_at "subscriptTail") => `(tactic| (k_here; (with_reducible show wpAny _ _ (subscriptTail _ _ (Value.ref _) (Value.int _ _)) _ _ _); k_dflt (refine' item_mem (by k_asm) (by k_mem) (by omega) (by omega) (by first | with_reducible assumption | exact rfl) ?_ (by with_unfolding_all rfl); k_whole)))
local macro_rules | `(tactic| walk_at "my lt") => `(tactic| first | assumption | (rename AllLt _ _ => hl9; exact allLt_mem hl9) | (rename (_ ∧ AllLt _ _) => hl9; exact allLt_mem hl9.2) | (rename (_ ∧ _ ∧ AllLt _ _) => hl9; exact allLt_mem hl9.2.2) | (rename (_ ∧ _ ∧ _ ∧ AllLt _ _) => hl9; exact allLt_mem hl9.2.2.2))
abbrev gridD (w : World) (P : Addr) (k0 k1 t0 : Tok) : Obj := dictOf [ent w (Str.ofString "many") k0 (.int 4 t0), ent w (Str.ofString "planes") k1 (.ref P)] 2
abbrev C4 := Int × Int × Int × Int
abbrev c4 (q : C4) (t0 t1 t2 t3 : Tok) : List Value := [.int q.1 t0, .int q.2.1 t1, .int q.2.2.1 t2, .int q.2.2.2 t3]

theorem set_any {prog : Program} {w : World} {A : Around} {E : Value → Shared → Prop} {s : Shared} {h₀ : Heap} {L D : Addr} {m : Str → Option Value} {news news' : List (Addr × Obj)} {vs : List Value} {n : Nat} {k : Int} {t : Tok} {v : Value} {Q : Unit → Shared → Prop}
    (F : Fr h₀ L s.heap m) (N : News h₀ L s.heap news) (U : Upd D (listOf vs.toArray n) (listOf (vs.set k.toNat v).toArray n) news news') (h0 : 0 ≤ k) (h1 : k < vs.length) (hfit : k < 2 ^ 60)
    (h : ∀ h', Fr h₀ L h' m → News h₀ L h' news' → Q () { s with heap := h' }) : wpAny (model prog w) A (setItem (.ref D) (.int k t) v) Q E s := by
  obtain ⟨pre, post, rfl, rfl, a, b⟩ := U.split
  have z := N (D, listOf vs.toArray n) (List.mem_append.mpr (.inr (.head _)))
  have hs : vs.toArray.size = vs.length := List.size_toArray ..
  refine ki_setAt z.1 h0 (Int.lt_of_lt_of_le hfit (by decide)) (by omega) (h _ (F.change (Heap.SameBut.update ..) z.2.1 z.2.2) (ki_turn _ N a b ?_ ?_))
  · show vs.toArray.setIfInBounds k.toNat v = (vs.set k.toNat v).toArray
    apply Array.toList_inj.mp
    simp
  · simp

section
variable {w : World} {mean : ExcName → Option Value} {mg mb : Str → Option Value} {dp un : Nat} {gd : Option (List Code)} {cn : Str} {cs : Scope} {a : Addr} {ccd : Value} {cl : List (Str × Addr)} {outer : List Env} {A₀ : Around} {base h₀ : Heap} {L : Addr} {m : Str → Option Value} {news : List (Addr × Obj)} {s : Shared} {Q E : Value → Shared → Prop}

local macro_rules | `(tactic| walk_at "setItem ref int") => `(tactic| (k_here; (with_reducible show wpAny _ _ (setItem (Value.ref _) (Value.int _ _) _) _ _ _); k_dflt (refine' set_any (by k_asm) (by k_asm) (by k_upd) (by omega) (by omega) (by omega) ?_; k_whole); intro h' F' N'; (try k_sweep)))

theorem put_raw {g dg P q r b : Addr} {ps rs vs : List Value} {n1 n2 n3 n4 : Nat} {k0 k1 t0 : Tok} {i j x : Int} {ti tj tx u0 u1 u2 u3 : Tok} {z : C4}
  (B : Below A₀ base outer h₀) (F : Fr h₀ L s.heap m) (X : (hd.heap_39 w.params).In h₀) (N : News h₀ L s.heap ((r, listOf vs.toArray n3) :: news)) (T : Top hd.view_39 (looseW hd.view_39 []) mean mg mb h₀) (hk : cs.kind = .function) (hd : dp + 3 < recursionLimit)
  (hne : ∀ p ∈ news, p.1 ≠ r)
  (m1 : (g, instObj 165 dg) ∈ news) (m2 : (dg, gridD w P k0 k1 t0) ∈ news) (m3 : (P, listOf ps.toArray n1) ∈ news) (m4 : (q, listOf rs.toArray n2) ∈ news) (m5 : (b, listOf (c4 z u0 u1 u2 u3).toArray n4) ∈ news)
  (hi0 : 0 ≤ i) (hi1 : i < 2) (hq : ps[i.toNat]? = some (.ref q)) (hj0 : 0 ≤ j) (hj1 : j < 1000) (hr : rs[j.toNat]? = some (.ref r)) (hx0 : 0 ≤ x) (hx1 : x < 1000) (hx2 : x < vs.length)
  (ret : ∀ c n h' tk', (∀ p ∈ news, p.1 < c) → r < c → Fr h₀ L h' m → News h₀ L h' ((c, listOf (c4 z u0 u1 u2 u3).toArray n) :: (r, listOf (vs.set x.toNat (.ref c)).toArray n3) :: news) → Q .none {s with heap := h', toks := tk'}) :
  wpAny (model PySem.Challenge.rw_xm0815_01.row.prog w) (ktrTop dp un gd cn cs L a ccd cl outer) (call (.ref 162) [.ref g, .int i ti, .int x tx, .int j tj, .ref b]) Q E s := by
  refine wpAny_call ?_
  k_dflt ktr_enter
  k_steps
  exact ret _ _ _ _ (by walk_at "my lt") (by rename (_ ∧ AllLt _ _) => hl9; exact hl9.1) (by k_asm) (by k_asm)

theorem get_none {g dg P q r : Addr} {ps rs vs : List Value} {n1 n2 n3 : Nat} {k0 k1 t0 : Tok} {i j x : Int} {ti tj tx : Tok}
  (B : Below A₀ base outer h₀) (F : Fr h₀ L s.heap m) (X : (hd.heap_39 w.params).In h₀) (N : News h₀ L s.heap news) (T : Top hd.view_39 (looseW hd.view_39 []) mean mg mb h₀) (hk : cs.kind = .function) (hd : dp + 3 < recursionLimit)
  (m1 : (g, instObj 165 dg) ∈ news) (m2 : (dg, gridD w P k0 k1 t0) ∈ news) (m3 : (P, listOf ps.toArray n1) ∈ news) (m4 : (q, listOf rs.toArray n2) ∈ news) (m5 : (r, listOf vs.toArray n3) ∈ news)
  (hi0 : 0 ≤ i) (hi1 : i < 2) (hq : ps[i.toNat]? = some (.ref q)) (hj0 : 0 ≤ j) (hj1 : j < 1000) (hr : rs[j.toNat]? = some (.ref r)) (hx0 : 0 ≤ x) (hx1 : x < 1000) (hx2 : vs[x.toNat]? = some .none)
  (ret : ∀ c u0 u1 u2 u3 n h' tk', (∀ p ∈ news, p.1 < c) → Fr h₀ L h' m → News h₀ L h' ((c, listOf (c4 (0, 0, 0, 0) u0 u1 u2 u3).toArray n) :: news) → Q (.ref c) {s with heap := h', toks := tk'}) :
  wpAny (model PySem.Challenge.rw_xm0815_01.row.prog w) (ktrTop dp un gd cn cs L a ccd cl outer) (call (.ref 148) [.ref g, .int i ti, .int x tx, .int j tj]) Q E s := by
  refine wpAny_call ?_
  k_dflt ktr_enter
  k_steps
  exact ret _ _ _ _ _ _ _ _ (by walk_at "my lt") (by k_asm) (news_drop2 (by k_asm))

theorem get_some {g dg P q r c : Addr} {ps rs vs : List Value} {n1 n2 n3 : Nat} {k0 k1 t0 : Tok} {i j x : Int} {ti tj tx : Tok}
  (B : Below A₀ base outer h₀) (F : Fr h₀ L s.heap m) (X : (hd.heap_39 w.params).In h₀) (N : News h₀ L s.heap news) (T : Top hd.view_39 (looseW hd.view_39 []) mean mg mb h₀) (hk : cs.kind = .function) (hd : dp + 3 < recursionLimit)
  (m1 : (g, instObj 165 dg) ∈ news) (m2 : (dg, gridD w P k0 k1 t0) ∈ news) (m3 : (P, listOf ps.toArray n1) ∈ news) (m4 : (q, listOf rs.toArray n2) ∈ news) (m5 : (r, listOf vs.toArray n3) ∈ news)
  (hi0 : 0 ≤ i) (hi1 : i < 2) (hq : ps[i.toNat]? = some (.ref q)) (hj0 : 0 ≤ j) (hj1 : j < 1000) (hr : rs[j.toNat]? = some (.ref r)) (hx0 : 0 ≤ x) (hx1 : x < 1000) (hx2 : vs[x.toNat]? = some (.ref c))
  (ret : ∀ h' tk', Fr h₀ L h' m → News h₀ L h' news → Q (.ref c) {s with heap := h', toks := tk'}) :
  wpAny (model PySem.Challenge.rw_xm0815_01.row.prog w) (ktrTop dp un gd cn cs L a ccd cl outer) (call (.ref 148) [.ref g, .int i ti, .int x tx, .int j tj]) Q E s := by
  refine wpAny_call ?_
  k_dflt ktr_enter
  k_steps
  exact ret _ _ (by k_asm) (by k_asm)

theorem padrow_call {b : Addr} {n4 : Nat} {tm u0 u1 u2 u3 : Tok} {z : C4}
  (B : Below A₀ base outer h₀) (F : Fr h₀ L s.heap m) (X : (hd.heap_39 w.params).In h₀) (N : News h₀ L s.heap news) (T : Top hd.view_39 (looseW hd.view_39 []) mean mg mb h₀) (hk : cs.kind = .function) (hd : dp + 3 < recursionLimit)
  (m5 : (b, listOf (c4 z u0 u1 u2 u3).toArray n4) ∈ news)
  (ret : ∀ c u0 u1 u2 u3 n h' tk', (∀ p ∈ news, p.1 < c) → Fr h₀ L h' m → News h₀ L h' ((c, listOf (c4 (z.1, 0, 0, 0) u0 u1 u2 u3).toArray n) :: news) → Q (.ref c) {s with heap := h', toks := tk'}) :
  wpAny (model PySem.Challenge.rw_xm0815_01.row.prog w) (ktrTop dp un gd cn cs L a ccd cl outer) (call (.ref 28) [.ref b, .int 4 tm]) Q E s := by
  dsimp only [c4] at m5
  refine wpAny_call ?_
  k_dflt ktr_enter
  k_steps
  exact ret _ _ _ _ _ _ _ _ (by walk_at "my lt") (by k_asm) (news_drop2 (news_drop2 (news_drop2 (by k_asm))))
end
end Mine
end PGrid
section PData
open PySem PySem.W PyProof.Rows PySem.Calls
namespace Mine
set_option maxRecDepth 100000
set_option maxHeartbeats 2000000
abbrev Led := List (Addr × Obj)
abbrev Tag := Option (Nat × Nat × Nat)
abbrev frz : Tag := some (7, 0, 0)
/-- what is tagged stands in the ledger -/
def Sep (news : Led) (ρ : Addr → Tag) : Prop := ∀ a, ρ a ≠ none → ∃ o, (a, o) ∈ news
theorem Sep.cons {news : Led} {ρ : Addr → Tag} {x : Addr × Obj} (h : Sep news ρ) : Sep (x :: news) ρ := fun a ha => let ⟨o, ho⟩ := h a ha; ⟨o, .tail _ ho⟩
theorem Sep.mono {news news' : Led} {ρ : Addr → Tag} (h : Sep news ρ) (hs : ∀ p ∈ news, p ∈ news') : Sep news' ρ := fun a ha => let ⟨o, ho⟩ := h a ha; ⟨o, hs _ ho⟩
theorem Sep.fresh {news : Led} {ρ : Addr → Tag} {c : Addr} (h : Sep news ρ) (hc : ∀ p ∈ news, p.1 < c) : ρ c = none := by
  cases e : ρ c with
  | none => rfl
  | some t =>
    obtain ⟨o, ho⟩ := h c (by rw [e]; exact Option.some_ne_none t)
    exact absurd (hc _ ho) (Nat.lt_irrefl c)
theorem Sep.off {news : Led} {ρ : Addr → Tag} {c : Addr} (h : Sep news ρ) (hc : ∀ p ∈ news, p.1 ≠ c) : ρ c = none := by
  cases e : ρ c with
  | none => rfl
  | some t =>
    obtain ⟨o, ho⟩ := h c (by rw [e]; exact Option.some_ne_none t)
    exact absurd rfl (hc _ ho)
/-- all but the bad tags' entries stay, with their tags -/
def Keeps (bad : Tag → Prop) (news : Led) (ρ : Addr → Tag) (news' : Led) (ρ' : Addr → Tag) : Prop := ∀ p ∈ news, ¬ bad (ρ p.1) → p ∈ news' ∧ ρ' p.1 = ρ p.1
theorem Keeps.trans {bad : Tag → Prop} {n1 n2 n3 : Led} {ρ1 ρ2 ρ3 : Addr → Tag} (h : Keeps bad n1 ρ1 n2 ρ2) (k : Keeps bad n2 ρ2 n3 ρ3) : Keeps bad n1 ρ1 n3 ρ3 := fun p hp hb => by
  obtain ⟨a, b⟩ := h p hp hb
  obtain ⟨c, d⟩ := k p a (by rw [b]; exact hb)
  exact ⟨c, d.trans b⟩
theorem Keeps.sub {bad : Tag → Prop} {n1 n2 : Led} {ρ : Addr → Tag} (h : ∀ p ∈ n1, p ∈ n2) : Keeps bad n1 ρ n2 ρ := fun p hp _ => ⟨h p hp, rfl⟩
theorem Keeps.weak {bad bad' : Tag → Prop} {n1 n2 : Led} {ρ1 ρ2 : Addr → Tag} (h : Keeps bad n1 ρ1 n2 ρ2) (hb : ∀ t, bad t → bad' t) : Keeps bad' n1 ρ1 n2 ρ2 := fun p hp hn => h p hp fun q => hn (hb _ q)

def CellIn (news : Led) (ρ : Addr → Tag) (v : Value) : Option C4 → Prop
  | none => v = .none
  | some z => ∃ c t0 t1 t2 t3 n, v = .ref c ∧ ρ c = none ∧ (c, listOf (c4 z t0 t1 t2 t3).toArray n) ∈ news
def RowIn (news : Led) (ρ : Addr → Tag) (tg : Tag) (r : Addr) (A : Nat) (Dy : Nat → Option C4) : Prop :=
  ρ r = tg ∧ ∃ (vs : List Value) (n : Nat), (r, listOf vs.toArray n) ∈ news ∧ vs.length = A ∧ ∀ x, x < A → ∃ v, vs[x]? = some v ∧ CellIn news ρ v (Dy x)
def PlaneIn (news : Led) (ρ : Addr → Tag) (t k : Nat) (q : Addr) (A B : Nat) (Dk : Nat → Nat → Option C4) : Prop :=
  ρ q = none ∧ ∃ (rs : List Value) (n : Nat), (q, listOf rs.toArray n) ∈ news ∧ rs.length = B ∧ ∀ y, y < B → ∃ r, rs[y]? = some (Value.ref r) ∧ RowIn news ρ (some (t, k, y)) r A (Dk y)
def TabIn (news : Led) (ρ : Addr → Tag) (t : Nat) (P : Addr) (A B : Nat → Nat) (D : Nat → Nat → Nat → Option C4) : Prop :=
  ρ P = none ∧ ∃ q0 q1 n, (P, listOf [.ref q0, .ref q1].toArray n) ∈ news ∧ PlaneIn news ρ t 0 q0 (A 0) (B 0) (D 0) ∧ PlaneIn news ρ t 1 q1 (A 1) (B 1) (D 1)
def GridIn (w : World) (news : Led) (ρ : Addr → Tag) (g : Addr) (A B : Nat → Nat) (D : Nat → Nat → Nat → Option C4) : Prop :=
  ρ g = none ∧ ∃ dg P k0 k1 t0, ρ dg = none ∧ (g, instObj 165 dg) ∈ news ∧ (dg, gridD w P k0 k1 t0) ∈ news ∧ TabIn news ρ 0 P A B D
def FrameIn (w : World) (news : Led) (ρ : Addr → Tag) (fr : Addr) (W H ca cd : Int) : Prop :=
  ∃ dfr l c0 c1 d0 d1 kf tf k0 t0 k1 t1 n, FrW w news fr dfr l c0 c1 d0 d1 W H ca cd kf tf k0 t0 k1 t1 n ∧ ρ fr = none ∧ ρ dfr = none ∧ ρ l = none ∧ ρ c0 = none ∧ ρ c1 = none ∧ ρ d0 = none ∧ ρ d1 = none
def BarnIn (news : Led) (ρ : Addr → Tag) (barn : Addr) : Prop :=
  ∃ v0 v1 t0 t1 n, (barn, listOf [.int v0 t0, .int v1 t1].toArray n) ∈ news ∧ 0 ≤ v0 ∧ 0 ≤ v1 ∧ v1 ≤ 70000 ∧ ρ barn = some (9, 0, 0)

section
variable {bad : Tag → Prop} {news news' : Led} {ρ ρ' : Addr → Tag}
theorem CellIn.keep (K : Keeps bad news ρ news' ρ') (h0 : ¬ bad none) {v : Value} : ∀ {z : Option C4}, CellIn news ρ v z → CellIn news' ρ' v z
  | none, h => h
  | some z, ⟨c, t0, t1, t2, t3, n, e, hc, hm⟩ => by
    obtain ⟨a, b⟩ := K _ hm (by rw [hc]; exact h0)
    exact ⟨c, t0, t1, t2, t3, n, e, b.trans hc, a⟩
theorem RowIn.keep (K : Keeps bad news ρ news' ρ') (h0 : ¬ bad none) {tg : Tag} (ht : ¬ bad tg) {r : Addr} {A : Nat} {Dy : Nat → Option C4} (h : RowIn news ρ tg r A Dy) : RowIn news' ρ' tg r A Dy := by
  obtain ⟨e, vs, n, hm, hl, hx⟩ := h
  obtain ⟨a, b⟩ := K _ hm (by rw [e]; exact ht)
  exact ⟨b.trans e, vs, n, a, hl, fun x hxA => let ⟨v, hv, hc⟩ := hx x hxA; ⟨v, hv, hc.keep K h0⟩⟩
theorem PlaneIn.keep (K : Keeps bad news ρ news' ρ') (h0 : ¬ bad none) {t k : Nat} (ht : ∀ y, ¬ bad (some (t, k, y))) {q : Addr} {A B : Nat} {Dk : Nat → Nat → Option C4} (h : PlaneIn news ρ t k q A B Dk) : PlaneIn news' ρ' t k q A B Dk := by
  obtain ⟨e, rs, n, hm, hl, hy⟩ := h
  obtain ⟨a, b⟩ := K _ hm (by rw [e]; exact h0)
  exact ⟨b.trans e, rs, n, a, hl, fun y hyB => let ⟨r, hr, hR⟩ := hy y hyB; ⟨r, hr, hR.keep K h0 (ht y)⟩⟩
theorem TabIn.keep (K : Keeps bad news ρ news' ρ') (h0 : ¬ bad none) {t : Nat} (ht : ∀ k y, ¬ bad (some (t, k, y))) {P : Addr} {A B : Nat → Nat} {D : Nat → Nat → Nat → Option C4} (h : TabIn news ρ t P A B D) : TabIn news' ρ' t P A B D := by
  obtain ⟨e, q0, q1, n, hm, p0, p1⟩ := h
  obtain ⟨a, b⟩ := K _ hm (by rw [e]; exact h0)
  exact ⟨b.trans e, q0, q1, n, a, p0.keep K h0 (ht 0), p1.keep K h0 (ht 1)⟩
theorem GridIn.keep (K : Keeps bad news ρ news' ρ') (h0 : ¬ bad none) (ht : ∀ k y, ¬ bad (some (0, k, y))) {w : World} {g : Addr} {A B : Nat → Nat} {D : Nat → Nat → Nat → Option C4} (h : GridIn w news ρ g A B D) : GridIn w news' ρ' g A B D := by
  obtain ⟨e, dg, P, k0, k1, t0, e2, m1, m2, hT⟩ := h
  obtain ⟨a1, b1⟩ := K _ m1 (by rw [e]; exact h0)
  obtain ⟨a2, b2⟩ := K _ m2 (by rw [e2]; exact h0)
  exact ⟨b1.trans e, dg, P, k0, k1, t0, b2.trans e2, a1, a2, hT.keep K h0 ht⟩
theorem FrameIn.keep (K : Keeps bad news ρ news' ρ') (h0 : ¬ bad none) {w : World} {fr : Addr} {W H ca cd : Int} (h : FrameIn w news ρ fr W H ca cd) : FrameIn w news' ρ' fr W H ca cd := by
  obtain ⟨dfr, l, c0, c1, d0, d1, kf, tf, k0, t0, k1, t1, n, ⟨m1, m2, m3, m4, m5, m6, m7⟩, e1, e2, e3, e4, e5, e6, e7⟩ := h
  obtain ⟨a1, b1⟩ := K _ m1 (by rw [e1]; exact h0)
  obtain ⟨a2, b2⟩ := K _ m2 (by rw [e2]; exact h0)
  obtain ⟨a3, b3⟩ := K _ m3 (by rw [e3]; exact h0)
  obtain ⟨a4, b4⟩ := K _ m4 (by rw [e4]; exact h0)
  obtain ⟨a5, b5⟩ := K _ m5 (by rw [e6]; exact h0)
  obtain ⟨a6, b6⟩ := K _ m6 (by rw [e5]; exact h0)
  obtain ⟨a7, b7⟩ := K _ m7 (by rw [e7]; exact h0)
  exact ⟨dfr, l, c0, c1, d0, d1, kf, tf, k0, t0, k1, t1, n, ⟨a1, a2, a3, a4, a5, a6, a7⟩, b1.trans e1, b2.trans e2, b3.trans e3, b4.trans e4, b6.trans e5, b5.trans e6, b7.trans e7⟩
theorem BarnIn.keep (K : Keeps bad news ρ news' ρ') (ht : ¬ bad (some (9, 0, 0))) {barn : Addr} (h : BarnIn news ρ barn) : BarnIn news' ρ' barn := by
  obtain ⟨v0, v1, t0, t1, n, hm, h1, h2, h3, e⟩ := h
  obtain ⟨a, b⟩ := K _ hm (by rw [e]; exact ht)
  exact ⟨v0, v1, t0, t1, n, a, h1, h2, h3, b.trans e⟩
end
abbrev never : Tag → Prop := fun _ => False
theorem TabIn.mono {news news' : Led} {ρ : Addr → Tag} {t : Nat} {P : Addr} {A B : Nat → Nat} {D : Nat → Nat → Nat → Option C4} (h : TabIn news ρ t P A B D) (hs : ∀ p ∈ news, p ∈ news') : TabIn news' ρ t P A B D := h.keep (bad := never) (Keeps.sub hs) id fun _ _ => id
theorem GridIn.mono {news news' : Led} {ρ : Addr → Tag} {w : World} {g : Addr} {A B : Nat → Nat} {D : Nat → Nat → Nat → Option C4} (h : GridIn w news ρ g A B D) (hs : ∀ p ∈ news, p ∈ news') : GridIn w news' ρ g A B D := h.keep (bad := never) (Keeps.sub hs) id fun _ _ => id
theorem FrameIn.mono {news news' : Led} {ρ : Addr → Tag} {w : World} {fr : Addr} {W H ca cd : Int} (h : FrameIn w news ρ fr W H ca cd) (hs : ∀ p ∈ news, p ∈ news') : FrameIn w news' ρ fr W H ca cd := h.keep (bad := never) (Keeps.sub hs) id
theorem BarnIn.mono {news news' : Led} {ρ : Addr → Tag} {barn : Addr} (h : BarnIn news ρ barn) (hs : ∀ p ∈ news, p ∈ news') : BarnIn news' ρ barn := h.keep (bad := never) (Keeps.sub hs) id
def upd (D : Nat → Nat → Nat → Option C4) (k y x : Nat) (v : Option C4) : Nat → Nat → Nat → Option C4 := fun k' y' x' => if k' = k ∧ y' = y ∧ x' = x then v else D k' y' x'
theorem TabIn.ext {news : Led} {ρ : Addr → Tag} {t : Nat} {P : Addr} {A B : Nat → Nat} {D D' : Nat → Nat → Nat → Option C4} (h : TabIn news ρ t P A B D) (e : ∀ k y x, k < 2 → y < B k → x < A k → D k y x = D' k y x) : TabIn news ρ t P A B D' := by
  obtain ⟨e0, q0, q1, n, hm, ⟨a1, rs, n1, b1, c1, d1⟩, ⟨a2, rs2, n2, b2, c2, d2⟩⟩ := h
  refine ⟨e0, q0, q1, n, hm, ⟨a1, rs, n1, b1, c1, fun y hy => ?_⟩, ⟨a2, rs2, n2, b2, c2, fun y hy => ?_⟩⟩
  · obtain ⟨r, hr, e1, vs, n3, hm3, hl, hx⟩ := d1 y hy
    exact ⟨r, hr, e1, vs, n3, hm3, hl, fun x hxA => by rw [← e 0 y x (by decide) hy hxA]; exact hx x hxA⟩
  · obtain ⟨r, hr, e1, vs, n3, hm3, hl, hx⟩ := d2 y hy
    exact ⟨r, hr, e1, vs, n3, hm3, hl, fun x hxA => by rw [← e 1 y x (by decide) hy hxA]; exact hx x hxA⟩
theorem GridIn.ext {w : World} {g : Addr} {news : Led} {ρ : Addr → Tag} {A B : Nat → Nat} {D D' : Nat → Nat → Nat → Option C4} (h : GridIn w news ρ g A B D) (e : ∀ k y x, k < 2 → y < B k → x < A k → D k y x = D' k y x) : GridIn w news ρ g A B D' := by
  obtain ⟨e0, dg, P, k0, k1, t0, e2, m1, m2, hT⟩ := h
  exact ⟨e0, dg, P, k0, k1, t0, e2, m1, m2, hT.ext e⟩
/-- a plane, its row y opened: the row, and how a turn of an item of it is taken up -/
theorem PlaneIn.lens {news : Led} {ρ : Addr → Tag} {t k q A B : Nat} {Dk : Nat → Nat → Option C4} (h : PlaneIn news ρ t k q A B Dk) {y : Nat} (hy : y < B) :
    ∃ (rs : List Value) (n1 : Nat) (r : Addr) (vs : List Value) (n2 : Nat), (q, listOf rs.toArray n1) ∈ news ∧ rs[y]? = some (.ref r) ∧ ρ r = some (t, k, y) ∧ (r, listOf vs.toArray n2) ∈ news ∧ vs.length = A ∧ (∀ x, x < A → ∃ v, vs[x]? = some v ∧ CellIn news ρ v (Dk y x)) ∧
      ∀ (news' : Led) (x : Nat) (v : Value) (z : Option C4) (n : Nat), x < A → (∀ p ∈ news, ρ p.1 ≠ some (t, k, y) → p ∈ news') → (r, listOf (vs.set x v).toArray n) ∈ news' → CellIn news' ρ v z →
        PlaneIn news' ρ t k q A B fun y' x' => if y' = y ∧ x' = x then z else Dk y' x' := by
  obtain ⟨e, rs, n1, hq, hB, hrow⟩ := h
  obtain ⟨r, hr, hρ, vs, n2, hm, hl, hvs⟩ := hrow y hy
  refine ⟨rs, n1, r, vs, n2, hq, hr, hρ, hm, hl, hvs, ?_⟩
  intro news' x v z n hx hK hm' hv
  have K : Keeps (fun tg => tg = some (t, k, y)) news ρ news' ρ := fun p hp hb => ⟨hK p hp hb, rfl⟩
  have h0 : ¬ (fun tg : Tag => tg = some (t, k, y)) none := fun q => by cases q
  refine ⟨e, rs, n1, hK _ hq (by rw [e]; exact fun q => by cases q), hB, fun y' hy' => ?_⟩
  by_cases ey : y' = y
  · subst ey
    refine ⟨r, hr, hρ, vs.set x v, n, hm', by rw [List.length_set]; exact hl, fun x' hx' => ?_⟩
    by_cases ex : x' = x
    · subst ex
      refine ⟨v, ?_, ?_⟩
      · rw [List.getElem?_set_self (by rw [hl]; exact hx)]
      · show CellIn news' ρ v (if y' = y' ∧ x' = x' then z else Dk y' x')
        rw [if_pos ⟨rfl, rfl⟩]; exact hv
    · obtain ⟨u, hu, hc⟩ := hvs x' hx'
      refine ⟨u, ?_, ?_⟩
      · rw [List.getElem?_set_ne (Ne.symm ex)]; exact hu
      · show CellIn news' ρ u (if y' = y' ∧ x' = x then z else Dk y' x')
        rw [if_neg fun q => ex q.2]; exact hc.keep K h0
  · obtain ⟨r', hr', hR⟩ := hrow y' hy'
    refine ⟨r', hr', ?_⟩
    have e2 : (fun x' => if y' = y ∧ x' = x then z else Dk y' x') = Dk y' := by
      funext x'
      rw [if_neg fun q => ey q.1]
    show RowIn news' ρ (some (t, k, y')) r' A (fun x' => if y' = y ∧ x' = x then z else Dk y' x')
    rw [e2]
    exact hR.keep K h0 fun q => by
      simp only [Option.some.injEq, Prod.mk.injEq, true_and] at q
      exact ey q
theorem TabIn.lens {news : Led} {ρ : Addr → Tag} {t : Nat} {P : Addr} {A B : Nat → Nat} {D : Nat → Nat → Nat → Option C4} (h : TabIn news ρ t P A B D) {k y : Nat} (hk : k < 2) (hy : y < B k) :
    ∃ (ps : List Value) (n0 : Nat) (q : Addr) (rs : List Value) (n1 : Nat) (r : Addr) (vs : List Value) (n2 : Nat), (P, listOf ps.toArray n0) ∈ news ∧ ps[k]? = some (.ref q) ∧ (q, listOf rs.toArray n1) ∈ news ∧ rs[y]? = some (.ref r) ∧ ρ r = some (t, k, y) ∧
      (r, listOf vs.toArray n2) ∈ news ∧ ρ P = none ∧ ρ q = none ∧ vs.length = A k ∧ (∀ x, x < A k → ∃ v, vs[x]? = some v ∧ CellIn news ρ v (D k y x)) ∧
      ∀ (news' : Led) (x : Nat) (v : Value) (z : Option C4) (n : Nat), x < A k → (∀ p ∈ news, ρ p.1 ≠ some (t, k, y) → p ∈ news') → (r, listOf (vs.set x v).toArray n) ∈ news' → CellIn news' ρ v z →
        TabIn news' ρ t P A B (upd D k y x z) := by
  obtain ⟨e, q0, q1, n, hm, p0, p1⟩ := h
  match k, hk with
  | 0, _ =>
    obtain ⟨rs, n1, r, vs, n2, a1, a2, a3, a4, a5, a6, a7⟩ := p0.lens hy
    refine ⟨[.ref q0, .ref q1], n, q0, rs, n1, r, vs, n2, hm, rfl, a1, a2, a3, a4, e, p0.1, a5, a6, ?_⟩
    intro news' x v z n' hx hK hm' hv
    have K : Keeps (fun tg => tg = some (t, 0, y)) news ρ news' ρ := fun p hp hb => ⟨hK p hp hb, rfl⟩
    have h0 : ¬ (fun tg : Tag => tg = some (t, 0, y)) none := fun q => by cases q
    refine ⟨e, q0, q1, n, hK _ hm (by rw [e]; exact fun q => by cases q), ?_, ?_⟩
    · have := a7 news' x v z n' hx hK hm' hv
      have e9 : upd D 0 y x z 0 = fun y' x' => if y' = y ∧ x' = x then z else D 0 y' x' := by funext y' x'; simp [upd]
      rw [e9]; exact this
    · have := p1.keep K h0 (fun y' q => by simp at q)
      have e9 : upd D 0 y x z 1 = D 1 := by funext y' x'; simp [upd]
      rw [e9]; exact this
  | 1, _ =>
    obtain ⟨rs, n1, r, vs, n2, a1, a2, a3, a4, a5, a6, a7⟩ := p1.lens hy
    refine ⟨[.ref q0, .ref q1], n, q1, rs, n1, r, vs, n2, hm, rfl, a1, a2, a3, a4, e, p1.1, a5, a6, ?_⟩
    intro news' x v z n' hx hK hm' hv
    have K : Keeps (fun tg => tg = some (t, 1, y)) news ρ news' ρ := fun p hp hb => ⟨hK p hp hb, rfl⟩
    have h0 : ¬ (fun tg : Tag => tg = some (t, 1, y)) none := fun q => by cases q
    refine ⟨e, q0, q1, n, hK _ hm (by rw [e]; exact fun q => by cases q), ?_, ?_⟩
    · have := p0.keep K h0 (fun y' q => by simp at q)
      have e9 : upd D 1 y x z 0 = D 0 := by funext y' x'; simp [upd]
      rw [e9]; exact this
    · have := a7 news' x v z n' hx hK hm' hv
      have e9 : upd D 1 y x z 1 = fun y' x' => if y' = y ∧ x' = x then z else D 1 y' x' := by funext y' x'; simp [upd]
      rw [e9]; exact this
end Mine
end PData
section PCalls
open PySem PySem.W PyProof.Rows PySem.Calls
namespace Mine
set_option maxRecDepth 100000
set_option maxHeartbeats 2000000
theorem tagNe {ρ : Addr → Tag} {a b : Addr} {t : Nat × Nat × Nat} (ha : ρ a = none) (hb : ρ b = some t) : a ≠ b := fun e => by rw [e, hb] at ha; cases ha
section
variable {w : World} {mean : ExcName → Option Value} {mg mb : Str → Option Value} {dp un : Nat} {gd : Option (List Code)} {cn : Str} {cs : Scope} {a : Addr} {ccd : Value} {cl : List (Str × Addr)} {outer : List Env} {A₀ : Around} {base h₀ : Heap} {L : Addr} {m : Str → Option Value} {news : List (Addr × Obj)} {s : Shared} {Q E : Value → Shared → Prop}
variable {ρ : Addr → Tag} {A B' : Nat → Nat} {D : Nat → Nat → Nat → Option C4} {g : Addr}

theorem get_call {i j x : Int} {ti tj tx : Tok}
  (B : Below A₀ base outer h₀) (F : Fr h₀ L s.heap m) (X : (hd.heap_39 w.params).In h₀) (N : News h₀ L s.heap news) (T : Top hd.view_39 (looseW hd.view_39 []) mean mg mb h₀) (hk : cs.kind = .function) (hd : dp + 3 < recursionLimit)
  (hS : Sep news ρ) (hG : GridIn w news ρ g A B' D) (hB : ∀ k, A k < 1000 ∧ B' k < 1000)
  (hi0 : 0 ≤ i) (hi1 : i < 2) (hj0 : 0 ≤ j) (hj1 : j < B' i.toNat) (hx0 : 0 ≤ x) (hx1 : x < A i.toNat)
  (ret : ∀ c z u0 u1 u2 u3 n news' h' tk', z = (D i.toNat j.toNat x.toNat).getD (0, 0, 0, 0) → (∀ p ∈ news, p ∈ news') → (c, listOf (c4 z u0 u1 u2 u3).toArray n) ∈ news' → ρ c = none → Fr h₀ L h' m → News h₀ L h' news' → Q (.ref c) {s with heap := h', toks := tk'}) :
  wpAny (model PySem.Challenge.rw_xm0815_01.row.prog w) (ktrTop dp un gd cn cs L a ccd cl outer) (call (.ref 148) [.ref g, .int i ti, .int x tx, .int j tj]) Q E s := by
  obtain ⟨eg, dg, P, k0, k1, t0, ed, m1, m2, hT⟩ := hG
  have hk2 : i.toNat < 2 := by omega
  have hy2 : j.toNat < B' i.toNat := by omega
  have hx2 : x.toNat < A i.toNat := by omega
  obtain ⟨ps, n0, q, rs, n1, r, vs, n2, a1, a2, a3, a4, a5, a6, a7, a8, a9, b1, b2⟩ := hT.lens hk2 hy2
  have hB1 := hB i.toNat
  obtain ⟨v, hv, hc⟩ := b1 x.toNat hx2
  cases hD : D i.toNat j.toNat x.toNat with
  | none =>
    rw [hD] at hc
    have e : v = .none := hc
    subst e
    refine get_none B F X N T hk hd m1 m2 a1 a3 a6 hi0 hi1 a2 hj0 (by omega) a4 hx0 (by omega) hv ?_
    intro c u0 u1 u2 u3 n h' tk' hlt F' N'
    exact ret c _ u0 u1 u2 u3 n _ h' tk' (by rw [hD]; rfl) (fun p hp => .tail _ hp) (.head _) (hS.fresh hlt) F' N'
  | some z =>
    rw [hD] at hc
    obtain ⟨c, t0, t1, t2, t3, n, e, hcρ, hm⟩ := hc
    subst e
    refine get_some B F X N T hk hd m1 m2 a1 a3 a6 hi0 hi1 a2 hj0 (by omega) a4 hx0 (by omega) hv ?_
    intro h' tk' F' N'
    exact ret c z _ _ _ _ n news h' tk' (by rw [hD]; rfl) (fun p hp => hp) hm hcρ F' N'

theorem put_call {i j x : Int} {ti tj tx : Tok} {b : Addr} {z : C4} {u0 u1 u2 u3 : Tok} {n4 : Nat}
  (B : Below A₀ base outer h₀) (F : Fr h₀ L s.heap m) (X : (hd.heap_39 w.params).In h₀) (N : News h₀ L s.heap news) (T : Top hd.view_39 (looseW hd.view_39 []) mean mg mb h₀) (hk : cs.kind = .function) (hd : dp + 3 < recursionLimit)
  (hS : Sep news ρ) (hG : GridIn w news ρ g A B' D) (hB : ∀ k, A k < 1000 ∧ B' k < 1000)
  (m5 : (b, listOf (c4 z u0 u1 u2 u3).toArray n4) ∈ news) (hb : ρ b = none)
  (hi0 : 0 ≤ i) (hi1 : i < 2) (hj0 : 0 ≤ j) (hj1 : j < B' i.toNat) (hx0 : 0 ≤ x) (hx1 : x < A i.toNat)
  (ret : ∀ news' h' tk', Sep news' ρ → GridIn w news' ρ g A B' (upd D i.toNat j.toNat x.toNat (some z)) → (∀ p ∈ news, ρ p.1 ≠ some (0, i.toNat, j.toNat) → p ∈ news') → Fr h₀ L h' m → News h₀ L h' news' → Q .none {s with heap := h', toks := tk'}) :
  wpAny (model PySem.Challenge.rw_xm0815_01.row.prog w) (ktrTop dp un gd cn cs L a ccd cl outer) (call (.ref 162) [.ref g, .int i ti, .int x tx, .int j tj, .ref b]) Q E s := by
  obtain ⟨eg, dg, P, k0, k1, t0, ed, m1, m2, hT⟩ := hG
  have hk2 : i.toNat < 2 := by omega
  have hy2 : j.toNat < B' i.toNat := by omega
  have hx2 : x.toNat < A i.toNat := by omega
  obtain ⟨ps, n0, q, rs, n1, r, vs, n2, a1, a2, a3, a4, a5, a6, a7, a8, a9, b1, b2⟩ := hT.lens hk2 hy2
  have hB1 := hB i.toNat
  have ne : ∀ {a : Addr}, ρ a = none → a ≠ r := fun h => tagNe h a5
  refine put_raw (q := q) B F X (news_rest N a6) T hk hd restOf_ne (mem_restOf m1 (ne eg)) (mem_restOf m2 (ne ed)) (mem_restOf a1 (ne a7)) (mem_restOf a3 (ne a8)) (mem_restOf m5 (ne hb)) hi0 hi1 a2 hj0 (by omega) a4 hx0 (by omega) (by omega) ?_
  intro c n h' tk' hlt hrc F' N'
  have hcall : ∀ p ∈ news, p.1 < c := fun p hp => by
    by_cases e : p.1 = r
    · rw [e]; exact hrc
    · exact hlt p (mem_restOf hp e)
  have hc0 : ρ c = none := hS.fresh hcall
  have hsub : ∀ p ∈ news, ρ p.1 ≠ some (0, i.toNat, j.toNat) → p ∈ ((c, listOf (c4 z u0 u1 u2 u3).toArray n) :: (r, listOf (vs.set x.toNat (.ref c)).toArray n2) :: restOf r news) := fun p hp hn =>
    .tail _ (.tail _ (mem_restOf hp fun e => hn (by rw [e, a5])))
  refine ret _ h' tk' ?_ ?_ hsub F' N'
  · intro b hb
    obtain ⟨o, ho⟩ := hS b hb
    by_cases e : b = r
    · subst e; exact ⟨_, .tail _ (.head _)⟩
    · exact ⟨o, .tail _ (.tail _ (mem_restOf ho e))⟩
  · refine ⟨eg, dg, P, k0, k1, t0, ed, hsub _ m1 (by rw [eg]; exact fun q => by cases q), hsub _ m2 (by rw [ed]; exact fun q => by cases q), ?_⟩
    exact b2 _ x.toNat (.ref c) (some z) n2 hx2 hsub (.tail _ (.head _)) ⟨c, u0, u1, u2, u3, n, rfl, hc0, .head _⟩
end
end Mine
end PCalls
section PLoop
open PySem PySem.W PyProof.Rows PySem.Calls PySem.Spec
namespace Mine
set_option maxRecDepth 100000
set_option maxHeartbeats 2000000
abbrev isFrz : Tag → Prop := fun t => t = frz
/-- what a loop's turn hands back -/
def TurnEnd (h₀ : Heap) (L : Addr) (x : Str) (stored : List Str) (m₀ : Str → Option Value) (I : Led → (Addr → Tag) → Prop) (nx : Led) (ρ : Addr → Tag) (s₁ : Shared) (Q : Flow → Shared → Prop) (f : Flow) (s₂ : Shared) : Prop :=
  match f with
  | .ret v => Q (.ret v) s₂
  | .brk => Q .next s₂
  | _ => ∃ h' tk m' news' ρ', s₂ = { s₁ with heap := h', toks := tk } ∧ Fr h₀ L h' m' ∧ News h₀ L h' news' ∧ (∀ z, z ≠ x → stored.contains z = false → m' z = m₀ z) ∧ Sep news' ρ' ∧ (∀ p ∈ nx, ρ p.1 = frz → p ∈ news' ∧ ρ' p.1 = frz) ∧ I news' ρ'

section
variable {prog : Program} {w : World} {A : Around} {E : Value → Shared → Prop} {s : Shared} {env : Env} {h₀ : Heap} {x : Str} {body : List Stmt} {Q : Flow → Shared → Prop}
open Classical in
theorem tag_loop {It : Addr} {n : Nat} {P : Nat → Value → Prop} {St : Nat → Heap → Prop} {m₀ : Str → Option Value} {news : Led} {ρ : Addr → Tag} (I : Nat → Led → (Addr → Tag) → Prop) (stored : List Str)
    (W : Walks prog w A It [It] [It] n P St) (hob : ∀ i h, St i h → ∃ o, h.get? It = some o) (hLf : env.locals ≠ It) (hwr : h₀.get? It = none) (hnw : ∀ p ∈ news, p.1 ≠ It) (hst : St 0 s.heap)
    (hI : ∀ i nx ρ nx' ρ', I i nx ρ → Keeps isFrz nx ρ nx' ρ' → I i nx' ρ')
    (F : Fr h₀ env.locals s.heap m₀) (N : News h₀ env.locals s.heap news) (hS : Sep news ρ) (hi : I 0 news ρ)
    (turn : ∀ i v (u : Str → Option Value) nx ρ' h tk, i < n → P i v → Sep nx ρ' → (∀ p ∈ news, ρ p.1 = frz → p ∈ nx ∧ ρ' p.1 = frz) → I i nx ρ' →
      Fr h₀ env.locals h (fun y => if y = x then some v else if stored.contains y then u y else m₀ y) → News h₀ env.locals h nx →
      wpAny (model prog w) A (execs body env) (TurnEnd h₀ env.locals x stored m₀ (I (i + 1)) nx ρ' { s with heap := h, toks := tk } Q) E { s with heap := h, toks := tk })
    (done : ∀ (u : Str → Option Value) nx ρ' h tk, Sep nx ρ' → (∀ p ∈ news, ρ p.1 = frz → p ∈ nx ∧ ρ' p.1 = frz) → I n nx ρ' →
      Fr h₀ env.locals h (fun y => if y = x then u y else if stored.contains y then u y else m₀ y) → News h₀ env.locals h nx → Q .next { s with heap := h, toks := tk }) :
    LoopAtV prog w A h₀ env x body Q E (.ref It) s := by
  refine kdr_loop (fun i m nx => (∀ z, z ≠ x → stored.contains z = false → m z = m₀ z) ∧ ∃ ρ', Sep nx ρ' ∧ (∀ p ∈ news, ρ p.1 = frz → p ∈ nx ∧ ρ' p.1 = frz) ∧ I i nx ρ') W (fun _ h => h) (fun _ h => h)
    (fun i h hs b hb => by rw [List.mem_singleton.mp hb]; exact hob i h hs) (fun hm => hLf (List.mem_singleton.mp hm)) (fun b hb => by rw [List.mem_singleton.mp hb]; exact hwr) (fun p hp hm => hnw p hp (List.mem_singleton.mp hm)) hst F N
    ⟨fun _ _ _ => rfl, ρ, hS, fun p hp e => ⟨hp, e⟩, hi⟩ ?_ ?_
  · rintro i v m₁ nx h tk own hin hP hoff ⟨hm, ρ₁, hS₁, hfz, hIi⟩ F₁ N₁
    let ow : Addr → Prop := fun a => ∃ o, (a, o) ∈ own
    let ρ₂ : Addr → Tag := fun a => if ow a then frz else ρ₁ a
    have offx : ∀ p ∈ nx, ¬ ow p.1 := fun p hp ⟨o, ho⟩ => hoff _ ho p.1 (List.mem_map.mpr ⟨p, hp, rfl⟩) rfl
    have hS₂ : Sep (nx ++ own) ρ₂ := fun a ha => by
      by_cases e : ow a
      · obtain ⟨o, ho⟩ := e; exact ⟨o, List.mem_append.mpr (.inr ho)⟩
      · have ha' : ρ₁ a ≠ none := by simpa [ρ₂, e] using ha
        obtain ⟨o, ho⟩ := hS₁ a ha'
        exact ⟨o, List.mem_append.mpr (.inl ho)⟩
    have ρx : ∀ p ∈ nx, ρ₂ p.1 = ρ₁ p.1 := fun p hp => if_neg (offx p hp)
    have hI₂ : I i (nx ++ own) ρ₂ := hI i _ _ _ _ hIi fun p hp _ => ⟨List.mem_append.mpr (.inl hp), ρx p hp⟩
    have eF : (fun y => if y = x then some v else if stored.contains y then m₁ y else m₀ y) = fun y => if y = x then some v else m₁ y := by
      funext y
      by_cases h1 : y = x
      · simp [h1]
      · simp only [if_neg h1]
        cases h2 : stored.contains y with
        | true => simp
        | false => simp only [Bool.false_eq_true, if_false]; exact (hm y h1 h2).symm
    rw [← eF] at F₁
    refine wpAny_mono (turn i v m₁ (nx ++ own) ρ₂ h tk hin hP hS₂ (fun p hp e => ⟨List.mem_append.mpr (.inl (hfz p hp e).1), (ρx p (hfz p hp e).1).trans (hfz p hp e).2⟩) hI₂ F₁ N₁) (fun f s₂ hq => ?_) fun _ _ e => e
    have fin : (∃ h' tk' m' news' ρ', s₂ = { { s with heap := h, toks := tk } with heap := h', toks := tk' } ∧ Fr h₀ env.locals h' m' ∧ News h₀ env.locals h' news' ∧ (∀ z, z ≠ x → stored.contains z = false → m' z = m₀ z) ∧ Sep news' ρ' ∧ (∀ p ∈ nx ++ own, ρ₂ p.1 = frz → p ∈ news' ∧ ρ' p.1 = frz) ∧ I (i + 1) news' ρ') →
        InvEndG h₀ env.locals (fun m nx => (∀ z, z ≠ x → stored.contains z = false → m z = m₀ z) ∧ ∃ ρ', Sep nx ρ' ∧ (∀ p ∈ news, ρ p.1 = frz → p ∈ nx ∧ ρ' p.1 = frz) ∧ I (i + 1) nx ρ') own { s with heap := h, toks := tk } s₂ := by
      rintro ⟨h', tk', m', news', ρ', e, F', N', hm', hS', hk', hI'⟩
      have ownIn : ∀ p ∈ own, p ∈ news' ∧ ρ' p.1 = frz := fun p hp => hk' p (List.mem_append.mpr (.inr hp)) (if_pos ⟨p.2, hp⟩)
      let nx' : Led := news'.filter fun p => decide (¬ ow p.1)
      have inx : ∀ p ∈ news', ¬ ow p.1 → p ∈ nx' := fun p hp hn => List.mem_filter.mpr ⟨hp, by simpa using hn⟩
      have outx : ∀ p ∈ nx', p ∈ news' ∧ ¬ ow p.1 := fun p hp => ⟨(List.mem_filter.mp hp).1, by simpa using (List.mem_filter.mp hp).2⟩
      let ρ₃ : Addr → Tag := fun a => if ow a then none else ρ' a
      refine ⟨h', tk', m', news', nx', e, F', N', fun p hp => (outx p hp).1, fun p hp => (ownIn p hp).1, ?_, hm', ρ₃, ?_, ?_, ?_⟩
      · intro p hp b hb eb
        obtain ⟨q, hq, rfl⟩ := List.mem_map.mp hb
        exact (outx q hq).2 ⟨p.2, eb ▸ hp⟩
      · intro a ha
        by_cases e1 : ow a
        · exact absurd (if_pos e1) ha
        · have ha' : ρ' a ≠ none := by simpa [ρ₃, e1] using ha
          obtain ⟨o, ho⟩ := hS' a ha'
          exact ⟨o, inx _ ho e1⟩
      · intro p hp e1
        obtain ⟨a1, a2⟩ := hfz p hp e1
        have n1 := offx p a1
        obtain ⟨b1, b2⟩ := hk' p (List.mem_append.mpr (.inl a1)) ((ρx p a1).trans a2)
        exact ⟨inx p b1 n1, (if_neg n1).trans b2⟩
      · refine hI (i + 1) _ _ _ _ hI' fun p hp hn => ?_
        have n1 : ¬ ow p.1 := fun ⟨o, ho⟩ => hn (ownIn (p.1, o) ho).2
        exact ⟨inx p hp n1, if_neg n1⟩
    cases f with
    | ret v => exact hq
    | brk => exact hq
    | next => exact fin hq
    | cont => exact fin hq
  · rintro m₁ nx h tk ⟨hm, ρ₁, hS₁, hfz, hIi⟩ F₁ N₁
    refine done m₁ nx ρ₁ h tk hS₁ hfz hIi ?_ N₁
    have eF : (fun y => if y = x then m₁ y else if stored.contains y then m₁ y else m₀ y) = m₁ := by
      funext y
      by_cases h1 : y = x
      · simp [h1]
      · simp only [if_neg h1]
        cases h2 : stored.contains y with
        | true => simp
        | false => simp only [Bool.false_eq_true, if_false]; exact (hm y h1 h2).symm
    rw [eF]; exact F₁

theorem tag_range {r : Addr} {a₀ b₀ : Int} {t₀ u₀ v₀ : Tok} {n : Nat} {m₀ : Str → Option Value} {news : Led} {ρ : Addr → Tag} (I : Nat → Led → (Addr → Tag) → Prop) (stored : List Str)
    (hh : A.handled = none) (hr : IsRange s.heap r a₀ b₀ 1 t₀ u₀ v₀) (hsmall : Builtin.Range.small a₀ b₀ 1 = true) (hsz : Builtin.Range.rangeSize a₀ b₀ 1 = (n : Int))
    (hI : ∀ i nx ρ nx' ρ', I i nx ρ → Keeps isFrz nx ρ nx' ρ' → I i nx' ρ')
    (F : Fr h₀ env.locals s.heap m₀) (N : News h₀ env.locals s.heap news) (hS : Sep news ρ) (hi : I 0 news ρ)
    (turn : ∀ (i : Nat) (k : Int) t (u : Str → Option Value) nx ρ' h tk, i < n → k = a₀ + (i : Int) → Sep nx ρ' → (∀ p ∈ news, ρ p.1 = frz → p ∈ nx ∧ ρ' p.1 = frz) → I i nx ρ' →
      Fr h₀ env.locals h (fun y => if y = x then some (.int k t) else if stored.contains y then u y else m₀ y) → News h₀ env.locals h nx →
      wpAny (model prog w) A (execs body env) (TurnEnd h₀ env.locals x stored m₀ (I (i + 1)) nx ρ' { s with heap := h, toks := tk } Q) E { s with heap := h, toks := tk })
    (done : ∀ (u : Str → Option Value) nx ρ' h tk, Sep nx ρ' → (∀ p ∈ news, ρ p.1 = frz → p ∈ nx ∧ ρ' p.1 = frz) → I n nx ρ' →
      Fr h₀ env.locals h (fun y => if y = x then u y else if stored.contains y then u y else m₀ y) → News h₀ env.locals h nx → Q .next { s with heap := h, toks := tk }) :
    wpAny (model prog w) A (pyIter (.ref r)) (fun it s₂ => LoopAtV prog w A h₀ env x body Q E it s₂) E s := by
  refine wpAny_pyIter_range hr hsmall ?_
  have W : Walks prog w A s.heap.objs.size [s.heap.objs.size] [s.heap.objs.size] n (fun i v => i < n ∧ ∃ t, v = .int (a₀ + i * 1) t)
      (fun i h => IsRangeIter h s.heap.objs.size (a₀ + (i : Nat) * 1) ((n : Int) - (i : Nat)) 1) := (Walks.range hh _ a₀ 1 n).bound
  refine tag_loop I stored W (fun i h hi => ⟨_, hi⟩) (fun e => absurd F.ns.lt (e ▸ Nat.lt_irrefl _)) (next_is_new F) (fun p hp e => absurd (Heap.lt_size (N p hp).1) (e ▸ Nat.lt_irrefl _))
    (by show IsRangeIter _ _ _ _ _; rw [hsz]; simpa using Heap.get?_push_size _ rfl) hI (F.push _) (fun p hp => ⟨Heap.get?_push_of_some _ (N p hp).1, (N p hp).2⟩) hS hi ?_ ?_
  · rintro i v u nx ρ' h tk hin ⟨_, t, rfl⟩ hS' hfz hIi F' N'
    have e1 : a₀ + (i : Int) * 1 = a₀ + (i : Int) := by omega
    rw [e1] at F'
    exact turn i _ t u nx ρ' h tk hin rfl hS' hfz hIi F' N'
  · intro u nx ρ' h tk hS' hfz hIi F' N'
    exact done u nx ρ' h tk hS' hfz hIi F' N'
end
end Mine
end PLoop
section PDims
open PySem PySem.W PyProof.Rows PySem.Calls
namespace Mine
set_option maxRecDepth 100000
set_option maxHeartbeats 2000000
/-- sizes: padded and seen blocks along one way -/
def pN (W c k : Int) : Int := Int.fdiv (W + 2 * c - 1) (2 * c) * (if k = 0 then c else 1)
def bN (W c k : Int) : Int := Int.fdiv (Int.fdiv (W * (if k = 0 then c else 1) + c - 1) c + 2 - 1) 2
def pA (W c : Int) (k : Nat) : Nat := (pN W c k).toNat
def bA (W c : Int) (k : Nat) : Nat := (bN W c k).toNat
structure FB (W H ca cd : Int) : Prop where
  w0 : 1 ≤ W
  w1 : W ≤ 9
  h0 : 1 ≤ H
  h1 : H ≤ 9
  a0 : 1 ≤ ca
  a1 : ca ≤ 3
  d0 : 1 ≤ cd
  d1 : cd ≤ 3
theorem dims_all : ∀ W : Fin 9, ∀ c : Fin 3, ∀ k : Fin 2, 1 ≤ bN (W.val + 1 : Int) (c.val + 1 : Int) (k.val : Int) ∧ bN (W.val + 1 : Int) (c.val + 1 : Int) (k.val : Int) ≤ pN (W.val + 1 : Int) (c.val + 1 : Int) (k.val : Int) ∧ pN (W.val + 1 : Int) (c.val + 1 : Int) (k.val : Int) ≤ 12 ∧
    0 ≤ Int.fdiv ((W.val + 1 : Int) * (if (k.val : Int) = 0 then (c.val + 1 : Int) else 1) + (c.val + 1 : Int) - 1) (c.val + 1 : Int) ∧ Int.fdiv ((W.val + 1 : Int) * (if (k.val : Int) = 0 then (c.val + 1 : Int) else 1) + (c.val + 1 : Int) - 1) (c.val + 1 : Int) ≤ 900 ∧
    0 ≤ Int.fdiv ((W.val + 1 : Int) + 2 * (c.val + 1 : Int) - 1) (2 * (c.val + 1 : Int)) ∧ Int.fdiv ((W.val + 1 : Int) + 2 * (c.val + 1 : Int) - 1) (2 * (c.val + 1 : Int)) ≤ 900 ∧
    0 ≤ (W.val + 1 : Int) * (if (k.val : Int) = 0 then (c.val + 1 : Int) else 1) ∧ (W.val + 1 : Int) * (if (k.val : Int) = 0 then (c.val + 1 : Int) else 1) ≤ 900 := by decide
theorem dims {W c k : Int} (w0 : 1 ≤ W) (w1 : W ≤ 9) (a0 : 1 ≤ c) (a1 : c ≤ 3) (k0 : 0 ≤ k) (k1 : k < 2) : 1 ≤ bN W c k ∧ bN W c k ≤ pN W c k ∧ pN W c k ≤ 12 ∧
    0 ≤ Int.fdiv (W * (if k = 0 then c else 1) + c - 1) c ∧ Int.fdiv (W * (if k = 0 then c else 1) + c - 1) c ≤ 900 ∧ 0 ≤ Int.fdiv (W + 2 * c - 1) (2 * c) ∧ Int.fdiv (W + 2 * c - 1) (2 * c) ≤ 900 ∧ 0 ≤ W * (if k = 0 then c else 1) ∧ W * (if k = 0 then c else 1) ≤ 900 := by
  have h := dims_all ⟨(W - 1).toNat, by omega⟩ ⟨(c - 1).toNat, by omega⟩ ⟨k.toNat, by omega⟩
  have e1 : (((W - 1).toNat : Nat) : Int) + 1 = W := by omega
  have e2 : (((c - 1).toNat : Nat) : Int) + 1 = c := by omega
  have e3 : ((k.toNat : Nat) : Int) = k := by omega
  dsimp only at h
  rw [e1, e2, e3] at h
  exact h
theorem bA_int {W c k : Int} (w0 : 1 ≤ W) (w1 : W ≤ 9) (a0 : 1 ≤ c) (a1 : c ≤ 3) (k0 : 0 ≤ k) (k1 : k < 2) : bN W c k = ((bA W c k.toNat : Nat) : Int) := by
  have h := dims w0 w1 a0 a1 k0 k1
  unfold bA
  have e3 : ((k.toNat : Nat) : Int) = k := by omega
  rw [e3]; omega
theorem pA_int {W c k : Int} (w0 : 1 ≤ W) (w1 : W ≤ 9) (a0 : 1 ≤ c) (a1 : c ≤ 3) (k0 : 0 ≤ k) (k1 : k < 2) : pN W c k = ((pA W c k.toNat : Nat) : Int) := by
  have h := dims w0 w1 a0 a1 k0 k1
  unfold pA
  have e3 : ((k.toNat : Nat) : Int) = k := by omega
  rw [e3]; omega
theorem dimsN {W c : Int} (w0 : 1 ≤ W) (w1 : W ≤ 9) (a0 : 1 ≤ c) (a1 : c ≤ 3) {k : Nat} (k1 : k < 2) : 1 ≤ bA W c k ∧ bA W c k ≤ pA W c k ∧ pA W c k ≤ 12 := by
  have h := dims w0 w1 a0 a1 (k := (k : Int)) (by omega) (by omega)
  unfold bA pA
  omega
section
variable {w : World} {mean : ExcName → Option Value} {mg mb : Str → Option Value} {dp un : Nat} {gd : Option (List Code)} {cn : Str} {cs : Scope} {a : Addr} {ccd : Value} {cl : List (Str × Addr)} {outer : List Env} {A₀ : Around} {base h₀ : Heap} {L : Addr} {m : Str → Option Value} {news : List (Addr × Obj)} {s : Shared} {Q E : Value → Shared → Prop}
variable {ρ : Addr → Tag} {A B' : Nat → Nat} {D : Nat → Nat → Nat → Option C4} {g fr : Addr} {W H ca cd : Int}

theorem padded_fr {i : Int} {ti : Tok}
  (B : Below A₀ base outer h₀) (F : Fr h₀ L s.heap m) (X : (hd.heap_39 w.params).In h₀) (N : News h₀ L s.heap news) (T : Top hd.view_39 (looseW hd.view_39 []) mean mg mb h₀) (hk : cs.kind = .function) (hd : dp + 9 < recursionLimit)
  (hF : FrameIn w news ρ fr W H ca cd) (hb : FB W H ca cd) (hi0 : 0 ≤ i) (hi1 : i < 2)
  (ret : ∀ q u t n h' tk', (∀ p ∈ news, p.1 < q) → Fr h₀ L h' m → News h₀ L h' ((q, tupObj [.int ((pA W ca i.toNat : Nat) : Int) u, .int ((pA H cd i.toNat : Nat) : Int) t] n) :: news) → Q (.ref q) {s with heap := h', toks := tk'}) :
  wpAny (model PySem.Challenge.rw_xm0815_01.row.prog w) (ktrTop dp un gd cn cs L a ccd cl outer) (call (.ref 122) [.ref fr, .int i ti]) Q E s := by
  obtain ⟨dfr, l, c0, c1, d0, d1, kf, tf, k0, t0, k1, t1, n, hW, _⟩ := hF
  have hW' := hW
  obtain ⟨m1, m2, m3, m4, m5, m6, m7⟩ := hW'
  obtain ⟨w0, w1, x0, x1, a0, a1, y0, y1⟩ := hb
  have q1 := dims w0 w1 a0 a1 hi0 hi1
  have q2 := dims x0 x1 y0 y1 hi0 hi1
  have e1 := pA_int w0 w1 a0 a1 hi0 hi1
  have e2 := pA_int x0 x1 y0 y1 hi0 hi1
  have hi : i = 0 ∨ i = 1 := by omega
  rcases hi with rfl | rfl
  · refine padded_call (c := c0) (dc := d0) (x := ca) (y := cd) B F X N T hk hd hW a0 a1 w0 w1 y0 y1 x0 x1 hi0 hi1 rfl m4 m5 (by omega) (by omega) (by omega) (by omega) (by omega) (by omega) (by omega) (by omega) ?_
    intro q u t n' h' tk' hl F' N'
    refine ret q u t n' h' tk' hl F' ?_
    rw [← e1, ← e2]; exact N'
  · refine padded_call (c := c1) (dc := d1) (x := 1) (y := 1) B F X N T hk hd hW a0 a1 w0 w1 y0 y1 x0 x1 hi0 hi1 rfl m6 m7 (by omega) (by omega) (by omega) (by omega) (by omega) (by omega) (by omega) (by omega) ?_
    intro q u t n' h' tk' hl F' N'
    refine ret q u t n' h' tk' hl F' ?_
    rw [← e1, ← e2]; exact N'

theorem blocks_fr {i : Int} {ti : Tok}
  (B : Below A₀ base outer h₀) (F : Fr h₀ L s.heap m) (X : (hd.heap_39 w.params).In h₀) (N : News h₀ L s.heap news) (T : Top hd.view_39 (looseW hd.view_39 []) mean mg mb h₀) (hk : cs.kind = .function) (hd : dp + 9 < recursionLimit)
  (hF : FrameIn w news ρ fr W H ca cd) (hb : FB W H ca cd) (hi0 : 0 ≤ i) (hi1 : i < 2)
  (ret : ∀ q u t n h' tk', (∀ p ∈ news, p.1 < q) → Fr h₀ L h' m → News h₀ L h' ((q, tupObj [.int ((bA W ca i.toNat : Nat) : Int) u, .int ((bA H cd i.toNat : Nat) : Int) t] n) :: news) → Q (.ref q) {s with heap := h', toks := tk'}) :
  wpAny (model PySem.Challenge.rw_xm0815_01.row.prog w) (ktrTop dp un gd cn cs L a ccd cl outer) (call (.ref 115) [.ref fr, .int i ti]) Q E s := by
  obtain ⟨dfr, l, c0, c1, d0, d1, kf, tf, k0, t0, k1, t1, n, hW, _⟩ := hF
  have hW' := hW
  obtain ⟨m1, m2, m3, m4, m5, m6, m7⟩ := hW'
  obtain ⟨w0, w1, x0, x1, a0, a1, y0, y1⟩ := hb
  have q1 := dims w0 w1 a0 a1 hi0 hi1
  have q2 := dims x0 x1 y0 y1 hi0 hi1
  have e1 := bA_int w0 w1 a0 a1 hi0 hi1
  have e2 := bA_int x0 x1 y0 y1 hi0 hi1
  have hi : i = 0 ∨ i = 1 := by omega
  rcases hi with rfl | rfl
  · simp only [if_true] at q1 q2
    refine blocks_call (c := c0) (dc := d0) (x := ca) (y := cd) B F X N T hk hd hW a0 a1 w0 w1 y0 y1 x0 x1 hi0 hi1 rfl m4 m5 (by omega) (by omega) (by omega) (by omega) (by omega) (by omega) (by omega) (by omega) ?_
    intro q u t n' h' tk' hl F' N'
    refine ret q u t n' h' tk' hl F' ?_
    rw [← e1, ← e2]; exact N'
  · simp only [show ¬ ((1 : Int) = 0) from by decide, if_false] at q1 q2
    refine blocks_call (c := c1) (dc := d1) (x := 1) (y := 1) B F X N T hk hd hW a0 a1 w0 w1 y0 y1 x0 x1 hi0 hi1 rfl m6 m7 (by omega) (by omega) (by omega) (by omega) (by omega) (by omega) (by omega) (by omega) ?_
    intro q u t n' h' tk' hl F' N'
    refine ret q u t n' h' tk' hl F' ?_
    rw [← e1, ← e2]; exact N'
end
end Mine
end PDims
section PPure
open PySem PySem.W PyProof.Rows PySem.Calls PySem.Spec
namespace Mine
abbrev Dt := Nat → Nat → Nat → Option C4
def dcAt (D : Dt) (k y x : Nat) : Int := ((D k y x).getD (0, 0, 0, 0)).1
def padX (D : Dt) (k b y j : Nat) : Dt := fun k' y' x' => if k' = k ∧ y' = y ∧ b ≤ x' ∧ x' < b + j then some (dcAt D k y (b - 1), 0, 0, 0) else D k' y' x'
def padR (D : Dt) (k b p n : Nat) : Dt := fun k' y' x' => if k' = k ∧ y' < n ∧ b ≤ x' ∧ x' < p then some (dcAt D k y' (b - 1), 0, 0, 0) else D k' y' x'
def padY (D : Dt) (k y j : Nat) : Dt := fun k' y' x' => if k' = k ∧ y' = y ∧ x' < j then some (dcAt D k (y - 1) x', 0, 0, 0) else D k' y' x'
def padS (D : Dt) (k b p n : Nat) : Dt := fun k' y' x' => if k' = k ∧ b ≤ y' ∧ y' < b + n ∧ x' < p then some (dcAt D k (b - 1) x', 0, 0, 0) else D k' y' x'
theorem ifc {α : Type} {p : Prop} [Decidable p] {a b c d : α} (h1 : p → a = c) (h2 : ¬ p → b = c) : (if p then a else b) = c := by
  by_cases h : p
  · rw [if_pos h]; exact h1 h
  · rw [if_neg h]; exact h2 h
theorem padX_zero (D : Dt) (k b y : Nat) : padX D k b y 0 = D := by
  funext k' y' x'
  exact if_neg fun h => by omega
theorem padX_step (D : Dt) {k b y j : Nat} (hb : 1 ≤ b) : upd (padX D k b y j) k y (b + j) (some (dcAt (padX D k b y j) k y (b + j - 1), 0, 0, 0)) = padX D k b y (j + 1) := by
  have e : dcAt (padX D k b y j) k y (b + j - 1) = dcAt D k y (b - 1) := by
    unfold dcAt padX
    by_cases h : 1 ≤ j
    · rw [if_pos ⟨rfl, rfl, by omega, by omega⟩]; rfl
    · rw [if_neg (by omega)]
      have : b + j - 1 = b - 1 := by omega
      rw [this]
  rw [e]
  funext k' y' x'
  unfold upd padX
  by_cases h : k' = k ∧ y' = y ∧ x' = b + j
  · rw [if_pos h, if_pos ⟨h.1, h.2.1, h.2.2 ▸ Nat.le_add_right b j, h.2.2 ▸ Nat.lt_succ_self (b + j)⟩]
  · rw [if_neg h]
    by_cases h2 : k' = k ∧ y' = y ∧ b ≤ x' ∧ x' < b + j
    · rw [if_pos h2, if_pos ⟨h2.1, h2.2.1, h2.2.2.1, Nat.lt_succ_of_lt h2.2.2.2⟩]
    · rw [if_neg h2, if_neg fun q => (Nat.lt_or_eq_of_le (Nat.le_of_lt_succ q.2.2.2)).elim (fun l => h2 ⟨q.1, q.2.1, q.2.2.1, l⟩) fun l => h ⟨q.1, q.2.1, l⟩]
theorem padR_zero (D : Dt) (k b p : Nat) : padR D k b p 0 = D := by
  funext k' y' x'
  exact if_neg fun h => by omega
theorem padR_step (D : Dt) {k b p n : Nat} (hb : 1 ≤ b) (hp : b ≤ p) : padX (padR D k b p n) k b n (p - b) = padR D k b p (n + 1) := by
  have e : dcAt (padR D k b p n) k n (b - 1) = dcAt D k n (b - 1) := by
    unfold dcAt padR
    rw [if_neg (by omega)]
  unfold padX
  rw [e]
  funext k' y' x'
  unfold padR
  have ep : b + (p - b) = p := Nat.add_sub_of_le hp
  rw [ep]
  by_cases h : k' = k ∧ y' = n ∧ b ≤ x' ∧ x' < p
  · rw [if_pos h, if_pos ⟨h.1, h.2.1 ▸ Nat.lt_succ_self n, h.2.2⟩, h.2.1]
  · rw [if_neg h]
    by_cases h2 : k' = k ∧ y' < n ∧ b ≤ x' ∧ x' < p
    · rw [if_pos h2, if_pos ⟨h2.1, Nat.lt_succ_of_lt h2.2.1, h2.2.2⟩]
    · rw [if_neg h2, if_neg fun q => (Nat.lt_or_eq_of_le (Nat.le_of_lt_succ q.2.1)).elim (fun l => h2 ⟨q.1, l, q.2.2⟩) fun l => h ⟨q.1, l, q.2.2⟩]
theorem padY_zero (D : Dt) (k y : Nat) : padY D k y 0 = D := by
  funext k' y' x'
  exact if_neg fun h => by omega
theorem padY_step (D : Dt) {k y j : Nat} (hy : 1 ≤ y) : upd (padY D k y j) k y j (some (dcAt (padY D k y j) k (y - 1) j, 0, 0, 0)) = padY D k y (j + 1) := by
  have e : dcAt (padY D k y j) k (y - 1) j = dcAt D k (y - 1) j := by
    unfold dcAt padY
    rw [if_neg (by omega)]
  rw [e]
  funext k' y' x'
  unfold upd padY
  by_cases h : k' = k ∧ y' = y ∧ x' = j
  · rw [if_pos h, if_pos ⟨h.1, h.2.1, h.2.2 ▸ Nat.lt_succ_self j⟩, h.2.2]
  · rw [if_neg h]
    by_cases h2 : k' = k ∧ y' = y ∧ x' < j
    · rw [if_pos h2, if_pos ⟨h2.1, h2.2.1, Nat.lt_succ_of_lt h2.2.2⟩]
    · rw [if_neg h2, if_neg fun q => (Nat.lt_or_eq_of_le (Nat.le_of_lt_succ q.2.2)).elim (fun l => h2 ⟨q.1, q.2.1, l⟩) fun l => h ⟨q.1, q.2.1, l⟩]
theorem padS_zero (D : Dt) (k b p : Nat) : padS D k b p 0 = D := by
  funext k' y' x'
  exact if_neg fun h => by omega
theorem padS_step (D : Dt) {k b p n : Nat} (hb : 1 ≤ b) : padY (padS D k b p n) k (b + n) p = padS D k b p (n + 1) := by
  have e : ∀ x', x' < p → dcAt (padS D k b p n) k (b + n - 1) x' = dcAt D k (b - 1) x' := by
    intro x' hx
    unfold dcAt padS
    by_cases h : 1 ≤ n
    · rw [if_pos ⟨rfl, by omega, by omega, hx⟩]; rfl
    · rw [if_neg (by omega)]
      have : b + n - 1 = b - 1 := by omega
      rw [this]
  funext k' y' x'
  unfold padY
  by_cases h : k' = k ∧ y' = b + n ∧ x' < p
  · rw [if_pos h, e x' h.2.2]
    unfold padS
    rw [if_pos ⟨h.1, h.2.1 ▸ Nat.le_add_right b n, h.2.1 ▸ Nat.lt_succ_self (b + n), h.2.2⟩]
  · rw [if_neg h]
    unfold padS
    by_cases h2 : k' = k ∧ b ≤ y' ∧ y' < b + n ∧ x' < p
    · rw [if_pos h2, if_pos ⟨h2.1, h2.2.1, Nat.lt_succ_of_lt h2.2.2.1, h2.2.2.2⟩]
    · rw [if_neg h2, if_neg fun q => (Nat.lt_or_eq_of_le (Nat.le_of_lt_succ q.2.2.1)).elim (fun l => h2 ⟨q.1, q.2.1, l, q.2.2.2⟩) fun l => h ⟨q.1, l, q.2.2.2⟩]
theorem FrameIn.inst {w : World} {news : Led} {ρ : Addr → Tag} {fr : Addr} {W H ca cd : Int} (h : FrameIn w news ρ fr W H ca cd) : ∃ dfr l kf tf, (fr, instObj 125 dfr) ∈ news ∧ (dfr, frameD w W H l kf tf) ∈ news := by
  obtain ⟨dfr, l, c0, c1, d0, d1, kf, tf, k0, t0, k1, t1, n, ⟨m1, m2, m3, m4, m5, m6, m7⟩, _⟩ := h
  exact ⟨dfr, l, kf, tf, m1, m2⟩
theorem GridIn.inst {w : World} {news : Led} {ρ : Addr → Tag} {g : Addr} {A B : Nat → Nat} {D : Nat → Nat → Nat → Option C4} (h : GridIn w news ρ g A B D) : ∃ dg P k0 k1 t0, (g, instObj 165 dg) ∈ news ∧ (dg, gridD w P k0 k1 t0) ∈ news := by
  obtain ⟨e, dg, P, k0, k1, t0, e2, m1, m2, hT⟩ := h
  exact ⟨dg, P, k0, k1, t0, m1, m2⟩
/-- the whole of pad_component on the data -/
def padD (D : Dt) (k bw pw bh ph : Nat) : Dt := padS (padR D k bw pw bh) k bh pw (ph - bh)

section
variable {prog : Program} {w : World} {A : Around} {E : Value → Shared → Prop} {s : Shared} {env : Env} {h₀ : Heap} {x : Str} {body : List Stmt} {Q : Flow → Shared → Prop}
theorem tag_rangeN {r : Addr} {a₀ b₀ : Int} {t₀ u₀ v₀ : Tok} {m₀ : Str → Option Value} {news : Led} {ρ : Addr → Tag} (n : Nat) (I : Nat → Led → (Addr → Tag) → Prop) (stored : List Str)
    (hh : A.handled = none) (hr : IsRange s.heap r a₀ b₀ 1 t₀ u₀ v₀) (ha : 0 ≤ a₀ ∧ a₀ ≤ 1000) (hb : 0 ≤ b₀ ∧ b₀ ≤ 1000) (hn : (a₀ < b₀ → (n : Int) = b₀ - a₀) ∧ (b₀ ≤ a₀ → n = 0))
    (hI : ∀ i nx ρ nx' ρ', I i nx ρ → Keeps isFrz nx ρ nx' ρ' → I i nx' ρ')
    (F : Fr h₀ env.locals s.heap m₀) (N : News h₀ env.locals s.heap news) (hS : Sep news ρ) (hi : I 0 news ρ)
    (turn : ∀ (i : Nat) (k : Int) t (u : Str → Option Value) nx ρ' h tk, i < n → k = a₀ + (i : Int) → Sep nx ρ' → (∀ p ∈ news, ρ p.1 = frz → p ∈ nx ∧ ρ' p.1 = frz) → I i nx ρ' →
      Fr h₀ env.locals h (fun y => if y = x then some (.int k t) else if stored.contains y then u y else m₀ y) → News h₀ env.locals h nx →
      wpAny (model prog w) A (execs body env) (TurnEnd h₀ env.locals x stored m₀ (I (i + 1)) nx ρ' { s with heap := h, toks := tk } Q) E { s with heap := h, toks := tk })
    (done : ∀ (u : Str → Option Value) nx ρ' h tk, Sep nx ρ' → (∀ p ∈ news, ρ p.1 = frz → p ∈ nx ∧ ρ' p.1 = frz) → I n nx ρ' →
      Fr h₀ env.locals h (fun y => if y = x then u y else if stored.contains y then u y else m₀ y) → News h₀ env.locals h nx → Q .next { s with heap := h, toks := tk }) :
    wpAny (model prog w) A (pyIter (.ref r)) (fun it s₂ => LoopAtV prog w A h₀ env x body Q E it s₂) E s := by
  have hsz : Builtin.Range.rangeSize a₀ b₀ 1 = (n : Int) := by
    rw [rangeSize_one]
    by_cases h : a₀ < b₀
    · rw [if_pos h, hn.1 h]
    · rw [if_neg h, hn.2 (by omega)]; rfl
  exact tag_range I stored hh hr (small_one (by omega) (by omega) (by omega) (by omega)) hsz hI F N hS hi turn done
theorem tag_range0 {r : Addr} {t₀ u₀ v₀ : Tok} {m₀ : Str → Option Value} {news : Led} {ρ : Addr → Tag} (n : Nat) (I : Nat → Led → (Addr → Tag) → Prop) (stored : List Str)
    (hh : A.handled = none) (hr : IsRange s.heap r 0 ((n : Nat) : Int) 1 t₀ u₀ v₀) (hn : n ≤ 1000)
    (hI : ∀ i nx ρ nx' ρ', I i nx ρ → Keeps isFrz nx ρ nx' ρ' → I i nx' ρ')
    (F : Fr h₀ env.locals s.heap m₀) (N : News h₀ env.locals s.heap news) (hS : Sep news ρ) (hi : I 0 news ρ)
    (turn : ∀ (i : Nat) t (u : Str → Option Value) nx ρ' h tk, i < n → Sep nx ρ' → (∀ p ∈ news, ρ p.1 = frz → p ∈ nx ∧ ρ' p.1 = frz) → I i nx ρ' →
      Fr h₀ env.locals h (fun y => if y = x then some (.int (i : Int) t) else if stored.contains y then u y else m₀ y) → News h₀ env.locals h nx →
      wpAny (model prog w) A (execs body env) (TurnEnd h₀ env.locals x stored m₀ (I (i + 1)) nx ρ' { s with heap := h, toks := tk } Q) E { s with heap := h, toks := tk })
    (done : ∀ (u : Str → Option Value) nx ρ' h tk, Sep nx ρ' → (∀ p ∈ news, ρ p.1 = frz → p ∈ nx ∧ ρ' p.1 = frz) → I n nx ρ' →
      Fr h₀ env.locals h (fun y => if y = x then u y else if stored.contains y then u y else m₀ y) → News h₀ env.locals h nx → Q .next { s with heap := h, toks := tk }) :
    wpAny (model prog w) A (pyIter (.ref r)) (fun it s₂ => LoopAtV prog w A h₀ env x body Q E it s₂) E s := by
  refine tag_rangeN n I stored hh hr (by omega) (by omega) (by omega) hI F N hS hi ?_ done
  intro i k t u nx ρ' h tk hin hk hS' hf hi' F' N'
  obtain rfl : k = (i : Int) := by omega
  exact turn i t u nx ρ' h tk hin hS' hf hi' F' N'
theorem tag_rangeB {r : Addr} {t₀ u₀ v₀ : Tok} {m₀ : Str → Option Value} {news : Led} {ρ : Addr → Tag} (b p : Nat) (I : Nat → Led → (Addr → Tag) → Prop) (stored : List Str)
    (hh : A.handled = none) (hr : IsRange s.heap r ((b : Nat) : Int) ((p : Nat) : Int) 1 t₀ u₀ v₀) (hle : b ≤ p) (hp : p ≤ 1000)
    (hI : ∀ i nx ρ nx' ρ', I i nx ρ → Keeps isFrz nx ρ nx' ρ' → I i nx' ρ')
    (F : Fr h₀ env.locals s.heap m₀) (N : News h₀ env.locals s.heap news) (hS : Sep news ρ) (hi : I 0 news ρ)
    (turn : ∀ (i : Nat) t (u : Str → Option Value) nx ρ' h tk, b + i < p → Sep nx ρ' → (∀ p ∈ news, ρ p.1 = frz → p ∈ nx ∧ ρ' p.1 = frz) → I i nx ρ' →
      Fr h₀ env.locals h (fun y => if y = x then some (.int ((b + i : Nat) : Int) t) else if stored.contains y then u y else m₀ y) → News h₀ env.locals h nx →
      wpAny (model prog w) A (execs body env) (TurnEnd h₀ env.locals x stored m₀ (I (i + 1)) nx ρ' { s with heap := h, toks := tk } Q) E { s with heap := h, toks := tk })
    (done : ∀ (u : Str → Option Value) nx ρ' h tk, Sep nx ρ' → (∀ p ∈ news, ρ p.1 = frz → p ∈ nx ∧ ρ' p.1 = frz) → I (p - b) nx ρ' →
      Fr h₀ env.locals h (fun y => if y = x then u y else if stored.contains y then u y else m₀ y) → News h₀ env.locals h nx → Q .next { s with heap := h, toks := tk }) :
    wpAny (model prog w) A (pyIter (.ref r)) (fun it s₂ => LoopAtV prog w A h₀ env x body Q E it s₂) E s := by
  refine tag_rangeN (p - b) I stored hh hr (by omega) (by omega) (by omega) hI F N hS hi ?_ done
  intro i k t u nx ρ' h tk hin hk hS' hf hi' F' N'
  obtain rfl : k = ((b + i : Nat) : Int) := by omega
  exact turn i t u nx ρ' h tk (by omega) hS' hf hi' F' N'
theorem map_id {α : Type} {z x : Str} {stored : List Str} {a b c : α} (h1 : z ≠ x) (h2 : stored.contains z = false) : (if z = x then a else if stored.contains z then b else c) = c := by
  rw [if_neg h1, if_neg (by rw [h2]; exact Bool.false_ne_true)]
end
end Mine
end PPure
section Walks
open PySem PySem.W PyProof.Rows PySem.Calls
namespace Mine
set_option maxRecDepth 100000
set_option maxHeartbeats 2000000
local macro_rules | `(tactic| walk_at "my om") => `(tactic| first | assumption | exact Int.natCast_nonneg _ | exact Int.ofNat_lt.mpr (by assumption) | omega)
local macro_rules | `(tactic| k_mem) => `(tactic| first | exact List.Mem.head _ | assumption | (refine' List.mem_cons_of_mem _ ?_; k_mem))
local macro_rules | `(tactic| walk_at "subscriptTail") => `(tactic| (k_here; (with_reducible show wpAny _ _ (subscriptTail _ _ (Value.ref _) (Value.int _ _)) _ _ _); k_dflt (refine' item_mem (by k_asm) (by k_mem) (by omega) (by omega) (by first | with_reducible assumption | exact rfl) ?_ (by with_unfolding_all rfl); k_whole)))
local macro_rules | `(tactic| walk_at "call ref") => `(tactic| (k_here; (with_reducible show wpAny _ _ (call (Value.ref 122) _) _ _ _); (k_dflt (refine' padded_fr (by k_asm) (by k_asm) (by k_asm) (by k_asm) (by k_asm) (by first | exact rfl | assumption) (by ktr_room) (by walk_at "my frame") (by assumption) (by walk_at "my om") (by walk_at "my om") ?_)); (intro q' u' t' n' h' tk' l1 F' N'); (try k_sweep)))
local macro_rules | `(tactic| walk_at "call ref") => `(tactic| (k_here; (with_reducible show wpAny _ _ (call (Value.ref 115) _) _ _ _); (k_dflt (refine' blocks_fr (by k_asm) (by k_asm) (by k_asm) (by k_asm) (by k_asm) (by first | exact rfl | assumption) (by ktr_room) (by walk_at "my frame") (by assumption) (by walk_at "my om") (by walk_at "my om") ?_)); (intro q' u' t' n' h' tk' l1 F' N'); (try k_sweep)))
local macro_rules | `(tactic| walk_at "my frame") => `(tactic| first | assumption | exact FrameIn.mono (by assumption) (fun _ h => List.mem_cons_of_mem _ h) | exact FrameIn.mono (by assumption) (fun _ h => List.mem_cons_of_mem _ (List.mem_cons_of_mem _ h)))
local macro_rules | `(tactic| walk_at "my sep") => `(tactic| first | assumption | exact Sep.cons (by assumption) | exact Sep.cons (Sep.cons (by assumption)))
local macro_rules | `(tactic| walk_at "my grid") => `(tactic| first | assumption | exact GridIn.mono (by assumption) (fun _ h => List.mem_cons_of_mem _ h) | exact GridIn.mono (by assumption) (fun _ h => List.mem_cons_of_mem _ (List.mem_cons_of_mem _ h)))
local macro_rules | `(tactic| walk_at "my steps") => `(tactic| repeat' (first | ((fail_if_success (with_reducible show wpAny _ _ (pyIter _) _ _ _)); (first | (k_unfold; (try dsimp only)) | (k_end; wrow_close) | walk1 | (dsimp only; walk1) | (leave1; walk_say "STEP leave1"; try dsimp only))) | fail "no step"))
local macro_rules | `(tactic| walk_at "call ref") => `(tactic| (k_here; (with_reducible show wpAny _ _ (call (Value.ref 148) _) _ _ _); (k_dflt (refine' get_call (by k_asm) (by k_asm) (by k_asm) (by k_asm) (by k_asm) (by first | exact rfl | assumption) (by ktr_room) (by walk_at "my sep") (by walk_at "my grid") (by assumption) (by walk_at "my om") (by walk_at "my om") (by walk_at "my om") (by walk_at "my om") (by walk_at "my om") (by walk_at "my om") ?_)); (intro c' z' u0' u1' u2' u3' n' news' h' tk' hz' hsub' hc' hρ' F' N'); (have hS' := Sep.mono (by assumption) hsub'); (have hG' := GridIn.mono (by assumption) hsub'); (obtain ⟨dg9, P9, k09, k19, t09, m19, m29⟩ := GridIn.inst hG'); (try k_sweep)))
local macro_rules | `(tactic| walk_at "call ref") => `(tactic| (k_here; (with_reducible show wpAny _ _ (call (Value.ref 28) _) _ _ _); (k_dflt (refine' padrow_call (by k_asm) (by k_asm) (by k_asm) (by k_asm) (by k_asm) (by first | exact rfl | assumption) (by ktr_room) (by k_mem) ?_)); (intro c' u0' u1' u2' u3' n' h' tk' l1 F' N'); (try k_sweep)))
local macro_rules | `(tactic| walk_at "call ref") => `(tactic| (k_here; (with_reducible show wpAny _ _ (call (Value.ref 162) _) _ _ _); (k_dflt (refine' put_call (by k_asm) (by k_asm) (by k_asm) (by k_asm) (by k_asm) (by first | exact rfl | assumption) (by ktr_room) (by walk_at "my sep") (by walk_at "my grid") (by assumption) (by k_mem) (by exact Sep.fresh (by assumption) (by assumption)) (by walk_at "my om") (by walk_at "my om") (by walk_at "my om") (by walk_at "my om") (by walk_at "my om") (by walk_at "my om") ?_)); (intro news' h' tk' hS' hG' hK' F' N'); (try k_sweep)))
section PPad
open PySem PySem.W PyProof.Rows PySem.Calls
set_option maxRecDepth 100000
set_option maxHeartbeats 2000000

section
variable {w : World} {mean : ExcName → Option Value} {mg mb : Str → Option Value} {dp un : Nat} {gd : Option (List Code)} {cn : Str} {cs : Scope} {a : Addr} {ccd : Value} {cl : List (Str × Addr)} {outer : List Env} {A₀ : Around} {base h₀ : Heap} {L : Addr} {m : Str → Option Value} {news : List (Addr × Obj)} {s : Shared} {Q E : Value → Shared → Prop}
variable {ρ : Addr → Tag} {A B' : Nat → Nat} {D : Nat → Nat → Nat → Option C4} {g fr : Addr} {W H ca cd : Int}
/-- tags that pad_component may turn or lose -/
abbrev padBad : Tag → Prop := fun t => t = frz ∨ ∃ k y, t = some (0, k, y)
theorem frz_pad : ∀ t, isFrz t → padBad t := fun _ h => .inl h
theorem none_frz : ¬ isFrz none := fun h => by cases h
theorem row_frz : ∀ k y, ¬ isFrz (some (0, k, y)) := fun k y h => by cases h
theorem I_keep {Z : Led → (Addr → Tag) → Prop} {D : Dt} (hZ : ∀ n1 ρ1 n2 ρ2, Z n1 ρ1 → Keeps padBad n1 ρ1 n2 ρ2 → Z n2 ρ2) {n1 n2 : Led} {ρ1 ρ2 : Addr → Tag} (h : GridIn w n1 ρ1 g A B' D ∧ Z n1 ρ1) (K : Keeps isFrz n1 ρ1 n2 ρ2) : GridIn w n2 ρ2 g A B' D ∧ Z n2 ρ2 :=
  ⟨h.1.keep K none_frz row_frz, hZ _ _ _ _ h.2 (K.weak frz_pad)⟩

theorem turn_end {h₀ : Heap} {L : Addr} {x : Str} {stored : List Str} {m₀ m' : Str → Option Value} {I : Led → (Addr → Tag) → Prop} {nx news' : Led} {ρ ρ' : Addr → Tag} {s₁ : Shared} {Q : Flow → Shared → Prop} {h' : Heap} {tk : Nat}
    (F : Fr h₀ L h' m') (N : News h₀ L h' news') (hm : ∀ z, z ≠ x → stored.contains z = false → m' z = m₀ z) (hS : Sep news' ρ') (hf : ∀ p ∈ nx, ρ p.1 = frz → p ∈ news' ∧ ρ' p.1 = frz) (hI : I news' ρ') :
    TurnEnd h₀ L x stored m₀ I nx ρ s₁ Q .next { s₁ with heap := h', toks := tk } := ⟨h', tk, m', news', ρ', rfl, F, N, hm, hS, hf, hI⟩
theorem put_keep {nx n1 n2 : Led} {ρ : Addr → Tag} {xx : Addr × Obj} {a b : Nat} (hsub : ∀ p ∈ nx, p ∈ n1) (hK : ∀ p ∈ xx :: n1, ρ p.1 ≠ some (0, a, b) → p ∈ n2) : ∀ p ∈ nx, ρ p.1 ≠ some (0, a, b) → p ∈ n2 := fun p hp hn => hK p (.tail _ (hsub p hp)) hn
theorem put_frz {nx n2 : Led} {ρ : Addr → Tag} {a b : Nat} (h : ∀ p ∈ nx, ρ p.1 ≠ some (0, a, b) → p ∈ n2) : ∀ p ∈ nx, ρ p.1 = frz → p ∈ n2 ∧ ρ p.1 = frz := fun p hp e => ⟨h p hp (by rw [e]; exact fun q => by simp at q), e⟩
theorem put_Z {nx n2 : Led} {ρ : Addr → Tag} {a b : Nat} (h : ∀ p ∈ nx, ρ p.1 ≠ some (0, a, b) → p ∈ n2) : Keeps padBad nx ρ n2 ρ := fun p hp hb => ⟨h p hp fun q => hb (.inr ⟨_, _, q⟩), rfl⟩
theorem map_two {α : Type} {z x y : Str} {a b c d e : α} {st : List Str} (hst : st = [y]) (h1 : z ≠ x) (h2 : st.contains z = false) : (if z = y then a else if ([] : List Str).contains z then b else if z = x then c else if st.contains z then d else e) = e := by
  have h3 : z ≠ y := by
    intro q
    subst q
    subst hst
    simp at h2
  rw [if_neg h3, if_neg (by simp), if_neg h1, if_neg (by rw [h2]; exact Bool.false_ne_true)]

set_option maxHeartbeats 4000000 in
theorem pad_call {i : Int} {ti : Tok} (Z : Led → (Addr → Tag) → Prop)
  (B : Below A₀ base outer h₀) (F : Fr h₀ L s.heap m) (X : (hd.heap_39 w.params).In h₀) (N : News h₀ L s.heap news) (T : Top hd.view_39 (looseW hd.view_39 []) mean mg mb h₀) (hk : cs.kind = .function) (hd : dp + 12 < recursionLimit)
  (hS : Sep news ρ) (hG : GridIn w news ρ g (pA W ca) (pA H cd) D) (hF : FrameIn w news ρ fr W H ca cd) (hb : FB W H ca cd) (hi0 : 0 ≤ i) (hi1 : i < 2)
  (hZ : ∀ n1 ρ1 n2 ρ2, Z n1 ρ1 → Keeps padBad n1 ρ1 n2 ρ2 → Z n2 ρ2) (hz : Z news ρ) (hB : ∀ k, pA W ca k < 1000 ∧ pA H cd k < 1000)
  (ret : ∀ news' ρ' h' tk', Sep news' ρ' → GridIn w news' ρ' g (pA W ca) (pA H cd) (padD D i.toNat (bA W ca i.toNat) (pA W ca i.toNat) (bA H cd i.toNat) (pA H cd i.toNat)) → Z news' ρ' → (∀ p ∈ news, ρ p.1 = frz → p ∈ news' ∧ ρ' p.1 = frz) → Fr h₀ L h' m → News h₀ L h' news' → Q .none {s with heap := h', toks := tk'}) :
  wpAny (model PySem.Challenge.rw_xm0815_01.row.prog w) (ktrTop dp un gd cn cs L a ccd cl outer) (call (.ref 35) [.ref g, .ref fr, .int i ti]) Q E s := by
  obtain ⟨dfr, l, kf, tf, f1, f2⟩ := hF.inst
  obtain ⟨w0, w1, x0, x1, a0, a1, y0, y1⟩ := id hb
  have q1 := dimsN w0 w1 a0 a1 (k := i.toNat) (by omega)
  have q2 := dimsN x0 x1 y0 y1 (k := i.toNat) (by omega)
  refine wpAny_call ?_
  k_dflt ktr_enter
  walk_at "my steps"
  rename IsRange _ _ _ _ _ _ _ _ => R1
  rename Fr _ _ _ _ => F1
  rename News _ _ _ _ => N1
  refine tag_range0 (bA H cd i.toNat) (fun y nx ρ' => GridIn w nx ρ' g (pA W ca) (pA H cd) (padR D i.toNat (bA W ca i.toNat) (pA W ca i.toNat) y) ∧ Z nx ρ') [Str.ofString "x"] rfl R1 (Nat.le_of_lt (Nat.lt_of_le_of_lt q2.2.1 (hB i.toNat).2)) (fun _ _ _ _ _ h K => I_keep hZ h K) F1 (news_sub N1 (fun p hp => List.mem_cons_of_mem _ (List.mem_cons_of_mem _ hp))) hS ⟨by rw [padR_zero]; exact hG, hz⟩ ?_ ?_
  · intro y ty uy nx ρ1 hh tkk hy hS1 hfz1 hI1 F2 N2
    (try k_fold)
    obtain ⟨hG1, hz1⟩ := hI1
    clear F1 N1 R1 hG hz hS
    (try k_fold)
    walk_at "my steps"
    rename IsRange _ _ _ _ _ _ _ _ => R3
    rename Fr _ _ _ _ => F3
    rename News _ _ _ _ => N3
    refine tag_rangeB (bA W ca i.toNat) (pA W ca i.toNat) (fun j nx ρ' => GridIn w nx ρ' g (pA W ca) (pA H cd) (padX (padR D i.toNat (bA W ca i.toNat) (pA W ca i.toNat) y) i.toNat (bA W ca i.toNat) y j) ∧ Z nx ρ') [] rfl R3 q1.2.1 (Nat.le_trans q1.2.2 (by decide)) (fun _ _ _ _ _ h K => I_keep hZ h K) F3 N3 hS1 ⟨by rw [padX_zero]; exact hG1, hz1⟩ ?_ ?_
    · intro j tx ux nx2 ρ2 hh2 tkk2 hj hS2 hfz2 hI2 F4 N4
      (try k_fold)
      obtain ⟨hG2, hz2⟩ := hI2
      clear F3 N3 R3 hG1 hz1 hS1
      obtain ⟨dg, P, k0, k1, t0, g1, g2⟩ := hG2.inst
      (try k_fold)
      walk_at "my steps"
      rename_i c1 z1 _ _ _ _ _ n1 _ _ ez sub1 _ _ _ _ _ _ _ _ _ _ _ c2 _ _ _ _ _ _ _ _ n2 _ _ S9 G9 K9 F9 N9
      have e1 : ((y : Nat) : Int).toNat = y := rfl
      have e2 : ((bA W ca i.toNat + j : Nat) : Int).toNat = bA W ca i.toNat + j := rfl
      have e3 : (((bA W ca i.toNat + j : Nat) : Int) - 1).toNat = bA W ca i.toNat + j - 1 := by omega
      rw [e1, e2] at G9
      rw [e1, e3] at ez
      have e4 : z1.1 = dcAt (padX (padR D i.toNat (bA W ca i.toNat) (pA W ca i.toNat) y) i.toNat (bA W ca i.toNat) y j) i.toNat y (bA W ca i.toNat + j - 1) := by rw [ez]; rfl
      rw [e4, padX_step _ q1.1] at G9
      have K8 := put_keep sub1 K9
      exact turn_end F9 N9 (fun z h1 h2 => map_id h1 h2) S9 (put_frz K8) ⟨G9, hZ _ _ _ _ hz2 (put_Z K8)⟩
    · intro ux nx2 ρ2 hh2 tkk2 hS2 hfz2 hI2 F4 N4
      (try k_fold)
      (try dsimp only)
      (try k_fold)
      walk_at "my steps"
      rw [padR_step _ q1.1 q1.2.1] at hI2
      rename Fr _ _ _ _ => F9
      rename News _ _ _ _ => N9
      exact turn_end F9 N9 (fun z h1 h2 => map_two rfl h1 h2) hS2 hfz2 hI2
  · intro uy nx ρ1 hh tkk hS1 hfz1 hI1 F2 N2
    (try k_fold)
    obtain ⟨hG1, hz1⟩ := hI1
    clear F1 N1 R1 hG hz hS
    (try dsimp only)
    (try k_fold)
    walk_at "my steps"
    rename IsRange _ _ _ _ _ _ _ _ => R1
    rename Fr _ _ _ _ => F1
    rename News _ _ _ _ => N1
    refine tag_rangeB (bA H cd i.toNat) (pA H cd i.toNat) (fun v nx ρ' => GridIn w nx ρ' g (pA W ca) (pA H cd) (padS (padR D i.toNat (bA W ca i.toNat) (pA W ca i.toNat) (bA H cd i.toNat)) i.toNat (bA H cd i.toNat) (pA W ca i.toNat) v) ∧ Z nx ρ') [Str.ofString "x"] rfl R1 q2.2.1 (Nat.le_trans q2.2.2 (by decide)) (fun _ _ _ _ _ h K => I_keep hZ h K) F1 N1 hS1 ⟨by rw [padS_zero]; exact hG1, hz1⟩ ?_ ?_
    · intro y ty uy2 nx1 ρ2 hh1 tkk1 hy hS2 hfz2 hI2 F3 N3
      (try k_fold)
      obtain ⟨hG2, hz2⟩ := hI2
      clear F1 N1 R1 hG1 hz1 hS1
      (try k_fold)
      walk_at "my steps"
      rename IsRange _ _ _ _ _ _ _ _ => R3
      rename Fr _ _ _ _ => F3
      rename News _ _ _ _ => N3
      refine tag_range0 (pA W ca i.toNat) (fun j nx ρ' => GridIn w nx ρ' g (pA W ca) (pA H cd) (padY (padS (padR D i.toNat (bA W ca i.toNat) (pA W ca i.toNat) (bA H cd i.toNat)) i.toNat (bA H cd i.toNat) (pA W ca i.toNat) y) i.toNat (bA H cd i.toNat + y) j) ∧ Z nx ρ') [] rfl R3 (Nat.le_trans q1.2.2 (by decide)) (fun _ _ _ _ _ h K => I_keep hZ h K) F3 N3 hS2 ⟨by rw [padY_zero]; exact hG2, hz2⟩ ?_ ?_
      · intro j tx ux nx2 ρ3 hh2 tkk2 hj hS3 hfz3 hI3 F4 N4
        (try k_fold)
        obtain ⟨hG3, hz3⟩ := hI3
        clear F3 N3 R3 hG2 hz2 hS2
        obtain ⟨dg, P, k0, k1, t0, g1, g2⟩ := hG3.inst
        (try k_fold)
        walk_at "my steps"
        rename_i c1 z1 _ _ _ _ _ n1 _ _ ez sub1 _ _ _ _ _ _ _ _ _ _ _ c2 _ _ _ _ _ _ _ _ n2 _ _ S9 G9 K9 F9 N9
        have e1 : ((bA H cd i.toNat + y : Nat) : Int).toNat = bA H cd i.toNat + y := rfl
        have e2 : ((j : Nat) : Int).toNat = j := rfl
        have e3 : (((bA H cd i.toNat + y : Nat) : Int) - 1).toNat = bA H cd i.toNat + y - 1 := by omega
        rw [e1, e2] at G9
        rw [e2, e3] at ez
        have e4 : z1.1 = dcAt (padY (padS (padR D i.toNat (bA W ca i.toNat) (pA W ca i.toNat) (bA H cd i.toNat)) i.toNat (bA H cd i.toNat) (pA W ca i.toNat) y) i.toNat (bA H cd i.toNat + y) j) i.toNat (bA H cd i.toNat + y - 1) j := by rw [ez]; rfl
        rw [e4, padY_step _ (by omega)] at G9
        have K8 := put_keep sub1 K9
        exact turn_end F9 N9 (fun z h1 h2 => map_id h1 h2) S9 (put_frz K8) ⟨G9, hZ _ _ _ _ hz3 (put_Z K8)⟩
      · intro ux nx2 ρ3 hh2 tkk2 hS3 hfz3 hI3 F4 N4
        (try k_fold)
        (try dsimp only)
        (try k_fold)
        walk_at "my steps"
        rw [padS_step _ q2.1] at hI3
        rename Fr _ _ _ _ => F9
        rename News _ _ _ _ => N9
        exact turn_end F9 N9 (fun z h1 h2 => map_two rfl h1 h2) hS3 hfz3 hI3
    · intro uy2 nx1 ρ2 hh1 tkk1 hS2 hfz2 hI2 F3 N3
      (try k_fold)
      obtain ⟨hG2, hz2⟩ := hI2
      clear F1 N1 R1 hG1 hz1 hS1
      (try dsimp only)
      (try k_fold)
      walk_at "my steps"
      exact ret _ _ _ _ hS2 hG2 hz2 (fun p hp e => hfz2 p (hfz1 p hp e).1 (hfz1 p hp e).2) (by k_asm) (by k_asm)
end
end PPad
section PComp
open PySem PySem.W PyProof.Rows PySem.Calls PySem.Spec
set_option maxRecDepth 100000
set_option maxHeartbeats 2000000
/-- what the walk of a block's element hands back -/
def ElEnd (h₀ : Heap) (L : Addr) (m : Str → Option Value) (I : Value → Led → (Addr → Tag) → Prop) (nx : Led) (ρ : Addr → Tag) (s₁ : Shared) (y : Value) (s₂ : Shared) : Prop :=
  ∃ h' tk news' ρ', s₂ = { s₁ with heap := h', toks := tk } ∧ Fr h₀ L h' m ∧ News h₀ L h' news' ∧ Sep news' ρ' ∧ (∀ p ∈ nx, ρ p.1 = frz → p ∈ news' ∧ ρ' p.1 = frz) ∧ I y news' ρ'
/-- the ledger less three places -/
theorem off3 {I C D : Addr} {news : Led} {own : Addr → Prop} (h : ∀ p ∈ news, ¬ own p.1) (hI : own I) (hC : own C) (hD : own D) : LCg.Off3 I C D news :=
  LCg.Off3.of fun p hp => ⟨fun e => h p hp (e ▸ hI), fun e => h p hp (e ▸ hC), fun e => h p hp (e ▸ hD)⟩
section
variable {prog : Program} {w : World} {A : Around} {E : Value → Shared → Prop} {s : Shared} {h₀ : Heap} {L : Addr} {m : Str → Option Value} {env : Env}
open Classical in
theorem rest_inv {elt : PySem.Expr} {x : Str} {scope : Scope} {cl : List (Str × Addr)} {P : Nat → Value → Prop} {Fin : List Value → Led → Prop} {n : Nat} {news : Led} {ρ₀ : Addr → Tag}
    (I : Nat → List Value → Led → (Addr → Tag) → Prop)
    (hI : ∀ i ys nx ρ nx' ρ', I i ys nx ρ → Keeps isFrz nx ρ nx' ρ' → I i ys nx' ρ')
    (turn : ∀ i ys v C oC m₂ nx ρ h tk (E' : Value → Shared → Prop), i < n → P i v → ys.length = i → Sep nx ρ → (∀ p ∈ news, ρ₀ p.1 = frz → p ∈ nx ∧ ρ p.1 = frz) → I i ys nx ρ → (C, oC) ∈ nx → ρ C = frz → LCg.NsObj oC m₂ → m₂ x = some v → Fr h₀ L h m → News h₀ L h nx →
      wpAny (model prog w) A (eval elt (compEnvC scope cl C env)) (ElEnd h₀ L m (fun y => I (i + 1) (ys ++ [y])) nx ρ { s with heap := h, toks := tk }) E' { s with heap := h, toks := tk })
    (fin : ∀ ys nx ρ, ys.length = n → Sep nx ρ → (∀ p ∈ news, ρ₀ p.1 = frz → p ∈ nx ∧ ρ p.1 = frz) → I n ys nx ρ → Fin ys nx) :
    ∀ k i ys nx ρ, i + k = n → ys.length = i → Sep nx ρ → (∀ p ∈ news, ρ₀ p.1 = frz → p ∈ nx ∧ ρ p.1 = frz) → I i ys nx ρ →
      LCg.CompRest prog w A h₀ L m env elt x scope cl s (fun _ => True) P Fin k i ys nx
  | 0, i, ys, nx, ρ, hk, hl, hS, hf, hi => by
    obtain rfl : i = n := by omega
    exact fin ys nx ρ hl hS hf hi
  | k + 1, i, ys, nx, ρ, hk, hl, hS, hf, hi => by
    refine LCg.CompRest.succ ?_
    intro v It oI C oC D m₂ h tk E' hP hoC hx F N off ne
    let ow : Addr → Prop := fun a => a = It ∨ a = C ∨ a = D
    let ρ₂ : Addr → Tag := fun a => if ow a then frz else ρ a
    have off' := off.mem
    have noff : ∀ p ∈ nx, ¬ ow p.1 := fun p hp => by
      rintro (e | e | e)
      · exact (off' p hp).1 e
      · exact (off' p hp).2.1 e
      · exact (off' p hp).2.2 e
    have ρx : ∀ p ∈ nx, ρ₂ p.1 = ρ p.1 := fun p hp => if_neg (noff p hp)
    have sub : ∀ p ∈ nx, p ∈ ((It, oI) :: (C, oC) :: (D, LCg.lst ys) :: nx) := fun p hp => .tail _ (.tail _ (.tail _ hp))
    have hS₂ : Sep ((It, oI) :: (C, oC) :: (D, LCg.lst ys) :: nx) ρ₂ := fun a ha => by
      by_cases e : ow a
      · rcases e with rfl | rfl | rfl
        · exact ⟨_, .head _⟩
        · exact ⟨_, .tail _ (.head _)⟩
        · exact ⟨_, .tail _ (.tail _ (.head _))⟩
      · have ha' : ρ a ≠ none := by simpa [ρ₂, e] using ha
        obtain ⟨o, ho⟩ := hS a ha'
        exact ⟨o, sub _ ho⟩
    refine wpAny_mono (turn i ys v C oC m₂ ((It, oI) :: (C, oC) :: (D, LCg.lst ys) :: nx) ρ₂ h tk E' (by omega) hP hl hS₂ (fun p hp e => ⟨sub p (hf p hp e).1, (ρx p (hf p hp e).1).trans (hf p hp e).2⟩)
      (hI _ _ _ _ _ _ hi fun p hp _ => ⟨sub p hp, ρx p hp⟩) (.tail _ (.head _)) (if_pos (.inr (.inl rfl))) hoC hx F N) (fun y s₂ hy => ?_) fun _ _ e => e
    obtain ⟨h', tk', news', ρ', rfl, F', N', hS', hk', hI'⟩ := hy
    let nx' : Led := news'.filter fun p => decide (¬ ow p.1)
    have inx : ∀ p ∈ news', ¬ ow p.1 → p ∈ nx' := fun p hp hn => List.mem_filter.mpr ⟨hp, by simpa using hn⟩
    have outx : ∀ p ∈ nx', p ∈ news' ∧ ¬ ow p.1 := fun p hp => ⟨(List.mem_filter.mp hp).1, by simpa using (List.mem_filter.mp hp).2⟩
    let ρ₃ : Addr → Tag := fun a => if ow a then none else ρ' a
    have k1 := hk' (It, oI) (.head _) (if_pos (.inl rfl))
    have k2 := hk' (C, oC) (.tail _ (.head _)) (if_pos (.inr (.inl rfl)))
    have k3 := hk' (D, LCg.lst ys) (.tail _ (.tail _ (.head _))) (if_pos (.inr (.inr rfl)))
    refine LCg.CompEnd.intro F' N' nx' (fun p hp => ?_) (off3 (own := ow) (fun p hp => (outx p hp).2) (.inl rfl) (.inr (.inl rfl)) (.inr (.inr rfl))) trivial ?_
    · rcases List.mem_cons.mp hp with rfl | hp
      · exact k1.1
      · rcases List.mem_cons.mp hp with rfl | hp
        · exact k2.1
        · rcases List.mem_cons.mp hp with rfl | hp
          · exact k3.1
          · exact (outx p hp).1
    · refine rest_inv I hI turn fin k (i + 1) (ys ++ [y]) nx' ρ₃ (by omega) (by simp [hl]) ?_ ?_ ?_
      · intro a ha
        by_cases e1 : ow a
        · exact absurd (if_pos e1) ha
        · have ha' : ρ' a ≠ none := by simpa [ρ₃, e1] using ha
          obtain ⟨o, ho⟩ := hS' a ha'
          exact ⟨o, inx _ ho e1⟩
      · intro p hp e1
        obtain ⟨a1, a2⟩ := hf p hp e1
        have n1 := noff p a1
        obtain ⟨b1, b2⟩ := hk' p (sub p a1) ((ρx p a1).trans a2)
        exact ⟨inx p b1 n1, (if_neg n1).trans b2⟩
      · refine hI _ _ _ _ _ _ hI' fun p hp hn => ?_
        have n1 : ¬ ow p.1 := by
          rintro (e | e | e)
          · exact hn (e ▸ k1.2)
          · exact hn (e ▸ k2.2)
          · exact hn (e ▸ k3.2)
        exact ⟨inx p hp n1, if_neg n1⟩

theorem comp_range {elt : PySem.Expr} {x : Str} {scope : Scope} {cl : List (Str × Addr)} {Q : Value → Shared → Prop} {r : Addr} {b : Int} {t u v : Tok} {news : Led} {ρ₀ : Addr → Tag} (n : Nat)
    (I : Nat → List Value → Led → (Addr → Tag) → Prop)
    (hh : A.handled = none) (hr : IsRange s.heap r 0 b 1 t u v) (hb : (n : Int) = b) (hn : n ≤ 1000) (F : Fr h₀ L s.heap m) (N : News h₀ L s.heap news) (hS : Sep news ρ₀) (hi : I 0 [] news ρ₀)
    (hI : ∀ i ys nx ρ nx' ρ', I i ys nx ρ → Keeps isFrz nx ρ nx' ρ' → I i ys nx' ρ')
    (turn : ∀ i ys t C oC m₂ nx ρ h tk (E' : Value → Shared → Prop), i < n → ys.length = i → Sep nx ρ → (∀ p ∈ news, ρ₀ p.1 = frz → p ∈ nx ∧ ρ p.1 = frz) → I i ys nx ρ → (C, oC) ∈ nx → ρ C = frz → LCg.NsObj oC m₂ → m₂ x = some (.int (i : Int) t) → Fr h₀ L h m → News h₀ L h nx →
      wpAny (model prog w) A (eval elt (compEnvC scope cl C env)) (ElEnd h₀ L m (fun y => I (i + 1) (ys ++ [y])) nx ρ { s with heap := h, toks := tk }) E' { s with heap := h, toks := tk })
    (fin : ∀ ys nx ρ D h tk, ys.length = n → Sep nx ρ → (∀ p ∈ news, ρ₀ p.1 = frz → p ∈ nx ∧ ρ p.1 = frz) → I n ys nx ρ → Fr h₀ L h m → News h₀ L h ((D, LCg.lst ys) :: nx) → (∀ p ∈ nx, p.1 ≠ D) → Q (.ref D) { s with heap := h, toks := tk }) :
    LCg.CompSrc prog w A h₀ L m env elt x scope cl (fun s₂ => LCg.FinE h₀ L m s₂ Q) (.ref r) s := by
  subst hb
  have hsz : Builtin.Range.rangeSize 0 (n : Int) 1 = (n : Int) := by
    rw [rangeSize_one]
    by_cases h : (0 : Int) < (n : Int)
    · rw [if_pos h]; omega
    · rw [if_neg h]; omega
  refine LCg.CompSrc.range (n := n) hh F N hr (small_one (by decide) (by decide) (by omega) (by omega)) hsz (Nat.le_trans hn (by decide)) fun g => ?_
  refine rest_inv (n := n) (s := { s with heap := g }) I hI ?_ ?_ n 0 [] news ρ₀ (by omega) rfl hS (fun p hp e => ⟨hp, e⟩) hi
  · rintro i ys v C oC m₂ nx ρ h tk E' hin ⟨t, rfl⟩ hl hS' hf hi' hC hρ ho hx F' N'
    rw [Int.zero_add] at hx
    exact turn i ys t C oC m₂ nx ρ h tk E' hin hl hS' hf hi' hC hρ ho hx F' N'
  · intro ys nx ρ hl hS' hf hi' D h tk F' N' o1
    refine fin ys nx ρ D h tk hl hS' hf hi' F' N' ?_
    have : ∀ {l : Led}, LCg.Off1 D l → ∀ p ∈ l, p.1 ≠ D := by
      intro l
      induction l with
      | nil => intro _ p hp; cases hp
      | cons q r ih =>
        intro h p hp
        rcases List.mem_cons.mp hp with rfl | hp
        · exact h.1
        · exact ih h.2 p hp
    exact this o1
end
end PComp
section PCell
open PySem PySem.W PyProof.Rows PySem.Calls PySem.Spec
set_option maxRecDepth 100000
set_option maxHeartbeats 2000000
abbrev noCell : Obj := { cls := .type "cell", data := .cell none }
abbrev noDict : Obj := { cls := .type "dict", data := .dict #[] }
theorem env_cell {M : Model} {A : Around} {E : Value → Shared → Prop} {s : Shared} {scope : Scope} {globals : Addr} {cl : List (Str × Addr)} {qual x : Str} {env : Env} {Q : Env → Shared → Prop}
    (hcells : ∀ k, cellsFrom k scope.names cl = (x, k) :: cl) (hpush : ∀ h : Heap, pushCells h scope.names = h.push noCell)
    (h : Q { scope, locals := s.heap.objs.size, globals, cells := (x, s.heap.objs.size + 1) :: cl, qual, func := none, code := env.code, frame := env.frame, builtins := env.builtins } { s with heap := (s.heap.push noDict).push noCell }) :
    wpAny M A (newFunctionEnv scope globals cl [] qual none .none (some env)) Q E s := by
  simp only [newFunctionEnv, Option.isSome_some, if_true]
  refine wpAny_bind (wpAny_alloc ?_)
  refine wpAny_bind (wpAny_layCells _ (fun name kind cells => by cases hkc : kind == NameKind.cell <;> simp) _ _ _ _ ?_)
  rw [List.forIn_nil]
  refine wpAny_bind (wpAny_pure (wpAny_pure ?_))
  rw [hcells, hpush, Heap.size_push]
  exact h
/-- between the turns of a block whose name is a cell -/
inductive CInv (h₀ : Heap) (L : Addr) (m : Str → Option Value) (s₂ : Shared) (It n D : Nat) (ow : Addr → Prop) (news : Led) (ρ₀ : Addr → Tag) (I : Nat → List Value → Led → (Addr → Tag) → Prop) : Nat → Shared → Prop
  | mk (h' : Heap) (tk i : Nat) (ys : List Value) (mC : Str → Option Value) (oc : Obj) (vc : Option Value) (nx : Led) (ρ : Addr → Tag) (hin : i ≤ n) (hyl : ys.length = i) (hst : IsRangeIter h' It (0 + (i : Int) * 1) ((n : Int) - (i : Int)) 1) (F : Fr h₀ L h' m) (nC : h'.Ns (D + 1) mC)
      (gc : h'.get? (D + 2) = some oc) (dc : oc.data = .cell vc) (N : News h₀ L h' ((D, LCg.lst ys) :: nx)) (off : ∀ p ∈ nx, ¬ ow p.1) (hS : Sep nx ρ) (hf : ∀ p ∈ news, ρ₀ p.1 = frz → p ∈ nx ∧ ρ p.1 = frz) (hI : I i ys nx ρ) :
      CInv h₀ L m s₂ It n D ow news ρ₀ I (n + 1 - i) { s₂ with heap := h', toks := tk }
section
variable {prog : Program} {w : World} {A : Around} {E : Value → Shared → Prop} {s : Shared} {h₀ : Heap} {L : Addr} {m : Str → Option Value} {env : Env}
open Classical in
theorem cell_block {elt iter : PySem.Expr} {x : Str} {px pos : Pos} {scope : Scope} {cl : List (Str × Addr)} {s₂ : Shared} {It n : Nat} {news : Led} {ρ₀ : Addr → Tag} {Q : Value → Shared → Prop}
    (I : Nat → List Value → Led → (Addr → Tag) → Prop)
    (hh : A.handled = none) (hn : n ≤ 1000) (hcells : ∀ k, cellsFrom k scope.names cl = (x, k) :: cl) (hpush : ∀ h : Heap, pushCells h scope.names = h.push noCell)
    (hkind : scope.kind = .function) (hx : (relabel scope env).names.lookup x = some .cell)
    (hst : IsRangeIter s₂.heap It (0 + ((0 : Nat) : Int) * 1) ((n : Int) - ((0 : Nat) : Int)) 1)
    (F : Fr h₀ L s₂.heap m) (N : News h₀ L s₂.heap news) (hS : Sep news ρ₀) (hi : I 0 [] news ρ₀) (hIL : L ≠ It) (hI₀ : h₀.get? It = none) (offI : ∀ p ∈ news, p.1 ≠ It)
    (hI : ∀ i ys nx ρ nx' ρ', I i ys nx ρ → Keeps isFrz nx ρ nx' ρ' → I i ys nx' ρ')
    (turn : ∀ i ys t C c oc nx ρ h tk (E' : Value → Shared → Prop), i < n → ys.length = i → Sep nx ρ → (∀ p ∈ news, ρ₀ p.1 = frz → p ∈ nx ∧ ρ p.1 = frz) → I i ys nx ρ → (c, oc) ∈ nx → ρ c = frz → oc.data = .cell (some (.int (i : Int) t)) → Fr h₀ L h m → News h₀ L h nx →
      wpAny (model prog w) A (eval elt (compEnvC scope ((x, c) :: cl) C env)) (ElEnd h₀ L m (fun y => I (i + 1) (ys ++ [y])) nx ρ { s₂ with heap := h, toks := tk }) E' { s₂ with heap := h, toks := tk })
    (fin : ∀ ys nx ρ D h tk, ys.length = n → Sep nx ρ → (∀ p ∈ news, ρ₀ p.1 = frz → p ∈ nx ∧ ρ p.1 = frz) → I n ys nx ρ → Fr h₀ L h m → News h₀ L h ((D, LCg.lst ys) :: nx) → (∀ p ∈ nx, p.1 ≠ D) → Q (.ref D) { s₂ with heap := h, toks := tk }) :
    wpAny (model prog w) A (newList []) (fun acc s₃ => wpAny (model prog w) A (newFunctionEnv scope env.globals cl [] env.qual none .none (some env)) (fun cenv s₄ =>
      codeAny (model prog w) A (.compStart (.ListComp elt [⟨.Name x px, iter, [], 0⟩] scope pos) 0 (.ref It) acc { cenv with scope := relabel scope env }) (compPost (model prog w) A E none Q acc cenv.locals) s₄) E s₃) E s₂ := by
  refine wpAny_newObj_type (env_cell hcells hpush ?_)
  dsimp only
  generalize hH : s₂.heap.objs.size = D
  generalize hP : s₂.heap.push { cls := .type "list", dict := none, data := .seq ([] : List Value).toArray } = H1
  have z1 : H1.objs.size = D + 1 := by rw [← hP, Heap.size_push, hH]
  have z2 : (H1.push noDict).objs.size = D + 2 := by rw [Heap.size_push, z1]
  rw [z1]
  generalize hP3 : (H1.push noDict).push noCell = H3
  have up1 : ∀ b o, s₂.heap.get? b = some o → H1.get? b = some o := fun b o e => by rw [← hP]; exact Heap.get?_push_of_some _ e
  have up2 : ∀ b o, H1.get? b = some o → H3.get? b = some o := fun b o e => by rw [← hP3]; exact Heap.get?_push_of_some _ (Heap.get?_push_of_some _ e)
  have gD : H3.get? D = some (LCg.lst []) := up2 _ _ (by rw [← hP, ← hH]; exact Heap.get?_push_size _ rfl)
  have nC : H3.Ns (D + 1) (fun _ => none) := by
    have q := Heap.Ns.new H1 (.type "dict")
    rw [z1] at q
    exact q.at' fun o e => by rw [← hP3]; exact Heap.get?_push_of_some _ e
  have gc : H3.get? (D + 2) = some noCell := by rw [← hP3, ← z2]; exact Heap.get?_push_size _ rfl
  have hLD : @LT.lt Nat _ L D := hH ▸ F.ns.lt
  have fresh : ∀ a, D ≤ a → h₀.get? a = none := fun a ha => Heap.get?_none_of_le (Nat.le_trans (Nat.le_trans F.above (Nat.le_of_lt hLD)) ha)
  have hID : It < D := hH ▸ Heap.lt_size hst
  have neD2 : @Ne Nat (D + 2) D := fun e => Nat.lt_irrefl D (Nat.lt_of_lt_of_le (Nat.lt_add_of_pos_right (by decide : 0 < 2)) (Nat.le_of_eq e))
  have W := LCg.range_walks (prog := prog) (w := w) (I := It) hh 0 n
  let ow : Addr → Prop := fun a => a = It ∨ a = D + 1 ∨ a = D + 2 ∨ a = D
  have ownL : ∀ a, ow a → a ≠ L ∧ h₀.get? a = none := fun a ha => by
    rcases ha with rfl | rfl | rfl | rfl
    · exact ⟨Ne.symm hIL, hI₀⟩
    · exact ⟨Nat.ne_of_gt (Nat.lt_succ_of_lt hLD), fresh _ (Nat.le_succ _)⟩
    · exact ⟨Nat.ne_of_gt (Nat.lt_succ_of_lt (Nat.lt_succ_of_lt hLD)), fresh _ (Nat.le_add_right _ _)⟩
    · exact ⟨Nat.ne_of_gt hLD, fresh _ (Nat.le_refl _)⟩
  have loop : ∀ s₃ : Shared, s₃ = { s₂ with heap := H3 } →
      codeAny (model prog w) A (.compLoop (.ListComp elt [⟨.Name x px, iter, [], 0⟩] scope pos) 0 (.ref It) (.ref D) (compEnvC scope ((x, D + 2) :: cl) (D + 1) env))
        (compPost (model prog w) A E none Q (.ref D) (D + 1)) s₃ := by
    rintro s₃ rfl
    refine codeAny_compLoop_tests (CInv h₀ L m s₂ It n D ow news ρ₀ I) ?_ (n + 1)
      (CInv.mk H3 _ 0 [] _ _ _ news ρ₀ (Nat.zero_le _) rfl (up2 _ _ (up1 _ _ hst)) (F.keeps fun b o e => up2 _ _ (up1 _ _ e)) nC gc rfl (fun p hp => ?_) (fun p hp => ?_) hS (fun p hp e => ⟨hp, e⟩) hi)
    · rintro k s' ⟨h', tk, i, ys, mC, oc, vc, nx, ρ, hin, hyl, hst', F', nC', gc', dc', N', off', hS', hf', hI'⟩
      have base : ∀ h₂ : Heap, (∀ b o, b ∉ [It] → h'.get? b = some o → h₂.get? b = some o) → Fr h₀ L h₂ m ∧ h₂.Ns (D + 1) mC ∧ h₂.get? (D + 2) = some oc ∧ News h₀ L h₂ ((D, LCg.lst ys) :: nx) := fun h₂ hk₂ =>
        ⟨LCg.fr_but F' hk₂ hIL hI₀, nC'.at' fun o e => hk₂ _ o (fun q => Nat.ne_of_gt (Nat.lt_succ_of_lt hID) (List.mem_singleton.mp q)) e, hk₂ _ _ (fun q => Nat.ne_of_gt (Nat.lt_succ_of_lt (Nat.lt_succ_of_lt hID)) (List.mem_singleton.mp q)) gc',
          LCg.news_but N' hk₂ fun p hp => by
            rcases List.mem_cons.mp hp with rfl | hp
            · exact Nat.ne_of_gt hID
            · exact fun e => off' p hp (.inl e)⟩
      by_cases hlt : i < n
      · refine W.item i _ _ _ hlt hst' fun v h₂ tk₂ hPv hst₂ hk₂ => ?_
        obtain ⟨t, rfl⟩ := hPv
        rw [Int.zero_add]
        obtain ⟨F₂, nC₂, gc₂, N₂⟩ := base h₂ hk₂
        refine wpAny_assign_Name (wpAny_storeName_cell (env := compEnvC scope ((x, D + 2) :: cl) (D + 1) env) hkind hx (by simp [compEnvC]) ⟨oc, gc₂, dc'⟩ fun h₃ hc₃ hs₃ => ?_)
        refine wpAny_tests_nil ?_
        simp only [if_true]
        obtain ⟨oc₃, gc₃, dc₃⟩ := hc₃
        have hst₃ : IsRangeIter h₃ It (0 + ((i + 1 : Nat) : Int) * 1) ((n : Int) - ((i + 1 : Nat) : Int)) 1 := hs₃.extBut It _ (Nat.ne_of_lt (Nat.lt_succ_of_lt (Nat.lt_succ_of_lt hID))) hst₂
        have F₃ : Fr h₀ L h₃ m := F₂.change hs₃ (ownL _ (.inr (.inr (.inl rfl)))).1 (ownL _ (.inr (.inr (.inl rfl)))).2
        obtain ⟨oC, goC, hoC⟩ := LCg.ns_obj (nC₂.sameBut hs₃ (Nat.ne_of_lt (Nat.lt_succ_self (D + 1))))
        let full : Led := (It, { cls := .type "range_iterator", data := .fields #[rawInt (0 + ((i + 1 : Nat) : Int) * 1), rawInt ((n : Int) - ((i + 1 : Nat) : Int)), rawInt 1] }) :: (D + 1, oC) :: (D + 2, oc₃) :: (D, LCg.lst ys) :: nx
        have N₃ : News h₀ L h₃ full := fun p hp => by
          rcases List.mem_cons.mp hp with rfl | hp
          · exact ⟨hst₃, ownL _ (.inl rfl)⟩
          · rcases List.mem_cons.mp hp with rfl | hp
            · exact ⟨goC, ownL _ (.inr (.inl rfl))⟩
            · rcases List.mem_cons.mp hp with rfl | hp
              · exact ⟨gc₃, ownL _ (.inr (.inr (.inl rfl)))⟩
              · refine ⟨hs₃.extBut _ _ ?_ (N₂ p hp).1, (N₂ p hp).2⟩
                rcases List.mem_cons.mp hp with rfl | hp
                · exact Ne.symm neD2
                · exact fun e => off' p hp (.inr (.inr (.inl e)))
        let ρ₂ : Addr → Tag := fun a => if ow a then frz else ρ a
        have ρx : ∀ p ∈ nx, ρ₂ p.1 = ρ p.1 := fun p hp => if_neg (off' p hp)
        have sub : ∀ p ∈ nx, p ∈ full := fun p hp => .tail _ (.tail _ (.tail _ (.tail _ hp)))
        have hS₂ : Sep full ρ₂ := fun a ha => by
          by_cases e : ow a
          · rcases e with rfl | rfl | rfl | rfl
            · exact ⟨_, .head _⟩
            · exact ⟨_, .tail _ (.head _)⟩
            · exact ⟨_, .tail _ (.tail _ (.head _))⟩
            · exact ⟨_, .tail _ (.tail _ (.tail _ (.head _)))⟩
          · have ha' : ρ a ≠ none := by simpa [ρ₂, e] using ha
            obtain ⟨o, ho⟩ := hS' a ha'
            exact ⟨o, sub _ ho⟩
        refine wpAny_mono (turn i ys t (D + 1) (D + 2) oc₃ full ρ₂ h₃ _ _ hlt hyl hS₂ (fun p hp e => ⟨sub p (hf' p hp e).1, (ρx p (hf' p hp e).1).trans (hf' p hp e).2⟩)
          (hI _ _ _ _ _ _ hI' fun p hp _ => ⟨sub p hp, ρx p hp⟩) (.tail _ (.tail _ (.head _))) (if_pos (.inr (.inr (.inl rfl)))) dc₃ F₃ N₃) (fun y s₄ hy => ?_) fun _ _ e => e
        obtain ⟨h₄, tk₄, news₄, ρ₄, rfl, F₄, N₄, hS₄, hk₄, hI₄⟩ := hy
        have k1 := hk₄ _ (.head _) (if_pos (.inl rfl))
        have k2 := hk₄ (D + 1, oC) (.tail _ (.head _)) (if_pos (.inr (.inl rfl)))
        have k3 := hk₄ (D + 2, oc₃) (.tail _ (.tail _ (.head _))) (if_pos (.inr (.inr (.inl rfl))))
        have k4 := hk₄ (D, LCg.lst ys) (.tail _ (.tail _ (.tail _ (.head _)))) (if_pos (.inr (.inr (.inr rfl))))
        have zD := (N₄ _ k4.1).1
        refine append_at (hsz := by show ys.toArray.size ≤ sizeLine; rw [List.size_toArray, hyl]; exact Nat.le_trans hin (Nat.le_trans hn (by decide))) zD fun h₅ hs₅ hD₅ => ?_
        let nx' : Led := news₄.filter fun p => decide (¬ ow p.1)
        have inx : ∀ p ∈ news₄, ¬ ow p.1 → p ∈ nx' := fun p hp hn => List.mem_filter.mpr ⟨hp, by simpa using hn⟩
        have outx : ∀ p ∈ nx', p ∈ news₄ ∧ ¬ ow p.1 := fun p hp => ⟨(List.mem_filter.mp hp).1, by simpa using (List.mem_filter.mp hp).2⟩
        let ρ₃ : Addr → Tag := fun a => if ow a then none else ρ₄ a
        refine ⟨n + 1 - (i + 1), Nat.sub_lt_sub_left (Nat.lt_succ_of_lt hlt) (Nat.lt_succ_self i), CInv.mk h₅ tk₄ (i + 1) (ys ++ [y]) _ oc₃ _ nx' ρ₃ hlt (by rw [List.length_append, List.length_singleton, hyl]) (hs₅.extBut It _ (Nat.ne_of_lt hID) (N₄ _ k1.1).1) (F₄.change hs₅ (ownL _ (.inr (.inr (.inr rfl)))).1 (ownL _ (.inr (.inr (.inr rfl)))).2)
          ((hoC.ns (N₄ _ k2.1).1).sameBut hs₅ (Nat.succ_ne_self D)) (hs₅.extBut _ _ neD2 (N₄ _ k3.1).1) dc₃ (fun p hp => ?_) (fun p hp => (outx p hp).2) ?_ ?_ ?_⟩
        · rcases List.mem_cons.mp hp with rfl | hp
          · exact ⟨hD₅.trans (congrArg some (LCg.lst_snoc ys y)), ownL _ (.inr (.inr (.inr rfl)))⟩
          · exact ⟨hs₅.extBut _ _ (fun e => (outx p hp).2 (.inr (.inr (.inr e)))) (N₄ p (outx p hp).1).1, (N₄ p (outx p hp).1).2⟩
        · intro a ha
          by_cases e1 : ow a
          · exact absurd (if_pos e1) ha
          · have ha' : ρ₄ a ≠ none := by simpa [ρ₃, e1] using ha
            obtain ⟨o, ho⟩ := hS₄ a ha'
            exact ⟨o, inx _ ho e1⟩
        · intro p hp e1
          obtain ⟨a1, a2⟩ := hf' p hp e1
          have n1 := off' p a1
          obtain ⟨b1, b2⟩ := hk₄ p (sub p a1) ((ρx p a1).trans a2)
          exact ⟨inx p b1 n1, (if_neg n1).trans b2⟩
        · refine hI _ _ _ _ _ _ hI₄ fun p hp hn => ?_
          have n1 : ¬ ow p.1 := by
            rintro (e | e | e | e)
            · exact hn (e ▸ k1.2)
            · exact hn (e ▸ k2.2)
            · exact hn (e ▸ k3.2)
            · exact hn (e ▸ k4.2)
          exact ⟨inx p hp n1, if_neg n1⟩
      · obtain rfl : i = n := Nat.le_antisymm hin (Nat.not_lt.mp hlt)
        refine W.done _ _ _ hst' fun h₂ tk₂ hk₂ => ?_
        obtain ⟨F₂, nC₂, gc₂, N₂⟩ := base h₂ hk₂
        refine ⟨mC, nC₂, fun h'' hs'' => ?_⟩
        refine fin ys nx ρ D h'' tk₂ hyl hS' hf' hI' (F₂.change hs'' (ownL _ (.inr (.inl rfl))).1 (ownL _ (.inr (.inl rfl))).2) (fun p hp => ⟨hs''.extBut _ _ ?_ (N₂ p hp).1, (N₂ p hp).2⟩) fun p hp e => off' p hp (.inr (.inr (.inr e)))
        rcases List.mem_cons.mp hp with rfl | hp
        · exact Nat.ne_of_lt (Nat.lt_succ_self D)
        · exact fun e => off' p hp (.inr (.inl e))
    · rcases List.mem_cons.mp hp with rfl | hp
      · exact ⟨gD, ownL _ (.inr (.inr (.inr rfl)))⟩
      · exact ⟨up2 _ _ (up1 _ _ (N p hp).1), (N p hp).2⟩
    · have lt : @LT.lt Nat _ p.1 D := hH ▸ Heap.lt_size (N p hp).1
      rintro (e | e | e | e)
      · exact offI p hp e
      · exact Nat.ne_of_lt (Nat.lt_succ_of_lt lt) e
      · exact Nat.ne_of_lt (Nat.lt_succ_of_lt (Nat.lt_succ_of_lt lt)) e
      · exact Nat.ne_of_lt lt e
  exact codeAny_compStart_list (loop _ rfl) (W.self 0 _ _ _ (up2 _ _ (up1 _ _ hst)) (loop _ rfl))

/-- the block's source: a range, the loop's own name a cell -/
def CellSrc (prog : Program) (w : World) (A : Around) (h₀ : Heap) (L : Addr) (m : Str → Option Value) (env : Env) (elt : PySem.Expr) (x : Str) (scope : Scope) (cl : List (Str × Addr)) (Q : Value → Shared → Prop) (xv : Value) (s₁ : Shared) : Prop :=
  ∃ (r : Addr) (b : Int) (t u v : Tok) (n : Nat) (news : Led) (ρ₀ : Addr → Tag) (I : Nat → List Value → Led → (Addr → Tag) → Prop), xv = .ref r ∧ A.handled = none ∧ IsRange s₁.heap r 0 b 1 t u v ∧ (n : Int) = b ∧ n ≤ 1000 ∧ Fr h₀ L s₁.heap m ∧ News h₀ L s₁.heap news ∧ Sep news ρ₀ ∧ I 0 [] news ρ₀ ∧
    (∀ i ys nx ρ nx' ρ', I i ys nx ρ → Keeps isFrz nx ρ nx' ρ' → I i ys nx' ρ') ∧
    (∀ i ys t C c oc nx ρ h tk (E' : Value → Shared → Prop), i < n → ys.length = i → Sep nx ρ → (∀ p ∈ news, ρ₀ p.1 = frz → p ∈ nx ∧ ρ p.1 = frz) → I i ys nx ρ → (c, oc) ∈ nx → ρ c = frz → oc.data = .cell (some (.int (i : Int) t)) → Fr h₀ L h m → News h₀ L h nx →
      wpAny (model prog w) A (eval elt (compEnvC scope ((x, c) :: cl) C env)) (ElEnd h₀ L m (fun y => I (i + 1) (ys ++ [y])) nx ρ { s₁ with heap := h, toks := tk }) E' { s₁ with heap := h, toks := tk }) ∧
    (∀ ys nx ρ D h tk, ys.length = n → Sep nx ρ → (∀ p ∈ news, ρ₀ p.1 = frz → p ∈ nx ∧ ρ p.1 = frz) → I n ys nx ρ → Fr h₀ L h m → News h₀ L h ((D, LCg.lst ys) :: nx) → (∀ p ∈ nx, p.1 ≠ D) → Q (.ref D) { s₁ with heap := h, toks := tk })

theorem cell_comp {elt iter : PySem.Expr} {x : Str} {px pos : Pos} {scope : Scope} {cl : List (Str × Addr)} {Q : Value → Shared → Prop} (F₀ : Fr h₀ L s.heap m)
    (hclos : closureFor scope env = pure cl) (hcells : ∀ k, cellsFrom k scope.names cl = (x, k) :: cl) (hpush : ∀ h : Heap, pushCells h scope.names = h.push noCell)
    (hkind : scope.kind = .function) (hnames : ∀ y ∈ scope.names, y.2 = .local → scope.names.lookup y.1 = some .local) (hx : (relabel scope env).names.lookup x = some .cell)
    (h : wpAny (model prog w) A (eval iter env) (CellSrc prog w A h₀ L m env elt x scope cl Q) E s)
    (hs : ∀ x, foldedSetIterable iter env x = pure x := by intro _; rfl) :
    wpAny (model prog w) A (eval (.ListComp elt [⟨.Name x px, iter, [], 0⟩] scope pos) env) Q E s := by
  rw [eval_ListComp]
  refine wpAny_comprehension_free (use := none) rfl hs hclos hkind hnames (wpAny_mono h (fun xv s₁ h₁ => ?_) fun _ _ e => e)
  obtain ⟨r, b, t, u, v, n, news, ρ₀, I, rfl, hh, hr, rfl, hn, F, N, hS, hi, hI, turn, fin⟩ := h₁
  have hsz : Builtin.Range.rangeSize 0 (n : Int) 1 = (n : Int) := by
    rw [rangeSize_one]
    by_cases h : (0 : Int) < (n : Int)
    · rw [if_pos h]; omega
    · rw [if_neg h]; omega
  refine wpAny_pyIter_range hr (small_one (by decide) (by decide) (by omega) (by omega)) ?_
  exact cell_block (s₂ := { s₁ with heap := s₁.heap.push _ }) I hh hn hcells hpush hkind hx (by rw [hsz]; simpa using Heap.get?_push_size _ rfl) (F.keeps fun _ _ e => Heap.get?_push_of_some _ e) (N.grown fun _ _ e => Heap.get?_push_of_some _ e) hS hi
    (Nat.ne_of_lt F.ns.lt) (next_is_new F) (fun p hp => Nat.ne_of_lt (Heap.lt_size (N p hp).1)) hI turn fin

theorem CellSrc.range {elt : PySem.Expr} {x : Str} {scope : Scope} {cl : List (Str × Addr)} {Q : Value → Shared → Prop} {r : Addr} {b : Int} {t u v : Tok} {news : Led} {ρ₀ : Addr → Tag} (n : Nat)
    (I : Nat → List Value → Led → (Addr → Tag) → Prop)
    (hh : A.handled = none) (hr : IsRange s.heap r 0 b 1 t u v) (hb : (n : Int) = b) (hn : n ≤ 1000) (F : Fr h₀ L s.heap m) (N : News h₀ L s.heap news) (hS : Sep news ρ₀) (hi : I 0 [] news ρ₀)
    (hI : ∀ i ys nx ρ nx' ρ', I i ys nx ρ → Keeps isFrz nx ρ nx' ρ' → I i ys nx' ρ')
    (turn : ∀ i ys t C c oc nx ρ h tk (E' : Value → Shared → Prop), i < n → ys.length = i → Sep nx ρ → (∀ p ∈ news, ρ₀ p.1 = frz → p ∈ nx ∧ ρ p.1 = frz) → I i ys nx ρ → (c, oc) ∈ nx → ρ c = frz → oc.data = .cell (some (.int (i : Int) t)) → Fr h₀ L h m → News h₀ L h nx →
      wpAny (model prog w) A (eval elt (compEnvC scope ((x, c) :: cl) C env)) (ElEnd h₀ L m (fun y => I (i + 1) (ys ++ [y])) nx ρ { s with heap := h, toks := tk }) E' { s with heap := h, toks := tk })
    (fin : ∀ ys nx ρ D h tk, ys.length = n → Sep nx ρ → (∀ p ∈ news, ρ₀ p.1 = frz → p ∈ nx ∧ ρ p.1 = frz) → I n ys nx ρ → Fr h₀ L h m → News h₀ L h ((D, LCg.lst ys) :: nx) → (∀ p ∈ nx, p.1 ≠ D) → Q (.ref D) { s with heap := h, toks := tk }) :
    CellSrc prog w A h₀ L m env elt x scope cl Q (.ref r) s := ⟨r, b, t, u, v, n, news, ρ₀, I, rfl, hh, hr, hb, hn, F, N, hS, hi, hI, turn, fin⟩
end
end PCell
section PKit
open PySem PySem.W PyProof.Rows PySem.Calls PySem.Spec
set_option maxRecDepth 100000
set_option maxHeartbeats 2000000
abbrev isTag (t : Tag) : Tag → Prop := fun x => x = t
theorem upd_keep {c : Addr} {o' : Obj} {nx : Led} {ρ : Addr → Tag} {t : Tag} (hc : ρ c = t) : Keeps (isTag t) nx ρ ((c, o') :: restOf c nx) ρ :=
  fun p hp hb => ⟨.tail _ (mem_restOf hp fun e => hb (e ▸ hc)), rfl⟩
theorem upd_sep {c : Addr} {o' : Obj} {nx : Led} {ρ : Addr → Tag} (hS : Sep nx ρ) : Sep ((c, o') :: restOf c nx) ρ := fun a ha => by
  obtain ⟨o, ho⟩ := hS a ha
  by_cases e : a = c
  · exact ⟨o', by rw [e]; exact .head _⟩
  · exact ⟨o, .tail _ (mem_restOf ho e)⟩
theorem cons_keep {bad : Tag → Prop} {x : Addr × Obj} {nx : Led} {ρ : Addr → Tag} : Keeps bad nx ρ (x :: nx) ρ := Keeps.sub fun _ h => .tail _ h
open Classical in
noncomputable def retag (ρ : Addr → Tag) (a : Addr) (t : Tag) : Addr → Tag := fun b => if b = a then t else ρ b
theorem retag_self {ρ : Addr → Tag} {a : Addr} {t : Tag} : retag ρ a t a = t := if_pos rfl
theorem retag_ne {ρ : Addr → Tag} {a b : Addr} {t : Tag} (h : b ≠ a) : retag ρ a t b = ρ b := if_neg h
theorem retag_sep {nx : Led} {ρ : Addr → Tag} {a : Addr} {t : Tag} {o : Obj} (hS : Sep nx ρ) (hm : (a, o) ∈ nx) : Sep nx (retag ρ a t) := fun b hb => by
  by_cases e : b = a
  · exact ⟨o, e ▸ hm⟩
  · rw [retag_ne e] at hb; exact hS b hb
theorem untag_sep {nx : Led} {ρ : Addr → Tag} {a : Addr} (hS : Sep nx ρ) : Sep nx (retag ρ a none) := fun b hb => by
  by_cases e : b = a
  · rw [e, retag_self] at hb; exact absurd rfl hb
  · rw [retag_ne e] at hb; exact hS b hb
theorem retag_keep {bad : Tag → Prop} {nx : Led} {ρ : Addr → Tag} {a : Addr} {t : Tag} (h : ∀ p ∈ nx, p.1 ≠ a) : Keeps bad nx ρ nx (retag ρ a t) := fun p hp _ => ⟨hp, retag_ne (h p hp)⟩
theorem retag_keepT {nx : Led} {ρ : Addr → Tag} {a : Addr} {t u : Tag} (h : ρ a = u) : Keeps (isTag u) nx ρ nx (retag ρ a t) := fun p hp hb => ⟨hp, retag_ne fun e => hb (e ▸ h)⟩
theorem list_two {qs : List Value} {a b : Value} (hl : qs.length = 2) (h0 : qs[0]? = some a) (h1 : qs[1]? = some b) : qs = [a, b] := by
  cases qs with
  | nil => cases hl
  | cons x r =>
    cases r with
    | nil => cases hl
    | cons y r2 =>
      cases r2 with
      | nil => cases h0; cases h1; rfl
      | cons _ _ => cases hl
theorem none_tag {t : Nat × Nat × Nat} : ¬ isTag (some t) none := fun h => by cases h
section
variable {M : Model} {A : Around} {E : Value → Shared → Prop} {s : Shared} {h₀ : Heap} {L a : Addr} {m : Str → Option Value} {cn : Str} {cs : Scope} {ccd : Value} {cl : List (Str × Addr)}
  {x : Str} {v : Value} {news : List (Addr × Obj)} {c : Addr} {o : Obj} {v₀ : Option Value}
theorem store_cell {Q : Unit → Shared → Prop} (F : Fr h₀ L s.heap m) (N : News h₀ L s.heap news) (hc : cl.lookup x = some c) (hm : (c, o) ∈ news) (hd : o.data = .cell v₀)
    (h : ∀ h' o', Fr h₀ L h' m → News h₀ L h' ((c, o') :: restOf c news) → o'.data = .cell (some v) → Q () { s with heap := h' })
    (hk : cs.kind = .function := by rfl) (hx : (envX cn cs L a ccd cl).kindOf x = some .cell := by rfl) : wpAny M A (storeName (envX cn cs L a ccd cl) x v) Q E s := by
  have hmem := N (c, o) hm
  refine wpAny_storeName_cell hk hx hc ⟨o, hmem.1, hd⟩ fun h' hv hs => ?_
  obtain ⟨o', ho', hd'⟩ := hv
  refine h h' o' (F.change hs hmem.2.1 hmem.2.2) (fun p hp => ?_) hd'
  rcases List.mem_cons.mp hp with rfl | hp
  · exact ⟨ho', hmem.2⟩
  · have := N p (restOf_mem p hp)
    exact ⟨hs.extBut _ _ (restOf_ne p hp) this.1, this.2⟩
theorem store_cellT {Q : Unit → Shared → Prop} {all : Led} {ρ : Addr → Tag} {t : Nat × Nat × Nat} (F : Fr h₀ L s.heap m) (N : News h₀ L s.heap all) (hsub : ∀ p ∈ news, p ∈ all) (hS : Sep news ρ) (hc : cl.lookup x = some c) (hm : (c, o) ∈ news) (hd : o.data = .cell v₀) (ht : ρ c = some t)
    (h : ∀ h' o' n3, Fr h₀ L h' m → News h₀ L h' n3 → o'.data = .cell (some v) → (c, o') ∈ n3 → Sep n3 ρ → Keeps (isTag (some t)) news ρ n3 ρ → Q () { s with heap := h' })
    (hk : cs.kind = .function := by rfl) (hx : (envX cn cs L a ccd cl).kindOf x = some .cell := by rfl) : wpAny M A (storeName (envX cn cs L a ccd cl) x v) Q E s :=
  store_cell F N hc (hsub _ hm) hd (fun h' o' F' N' d => h h' o' _ F' N' d (.head _) (upd_sep (hS.mono hsub)) ((Keeps.sub hsub).trans (upd_keep ht))) hk hx
theorem append_mem {prog : Program} {w : World} {vs : List Value} {n : Nat} {y : Value} {Q : Value → Shared → Prop} (F : Fr h₀ L s.heap m) (N : News h₀ L s.heap news) (hm : (c, listOf vs.toArray n) ∈ news) (hl : vs.length ≤ 1000)
    (h : ∀ h', Fr h₀ L h' m → News h₀ L h' ((c, listOf (vs ++ [y]).toArray (n + 1)) :: restOf c news) → Q .none { s with heap := h' }) :
    wpAny (model prog w) A (call (.builtin "list.append") [.ref c, y]) Q E s := by
  have hmem := N _ hm
  refine append_at (hsz := by show vs.toArray.size ≤ sizeLine; rw [List.size_toArray]; exact Nat.le_trans hl (by decide)) hmem.1 fun h' hs hD => h h' (F.change hs hmem.2.1 hmem.2.2) fun p hp => ?_
  rcases List.mem_cons.mp hp with rfl | hp
  · refine ⟨hD.trans ?_, hmem.2⟩
    rw [List.push_toArray]
  · have := N p (restOf_mem p hp)
    exact ⟨hs.extBut _ _ (restOf_ne p hp) this.1, this.2⟩
theorem append_memT {prog : Program} {w : World} {vs : List Value} {n : Nat} {y : Value} {Q : Value → Shared → Prop} {all : Led} {ρ : Addr → Tag} {t : Nat × Nat × Nat} (F : Fr h₀ L s.heap m) (N : News h₀ L s.heap all) (hS : Sep all ρ) (hm : (c, listOf vs.toArray n) ∈ all) (hl : vs.length ≤ 1000) (ht : ρ c = some t)
    (h : ∀ h' n3, Fr h₀ L h' m → News h₀ L h' n3 → (c, listOf (vs ++ [y]).toArray (n + 1)) ∈ n3 → Sep n3 ρ → Keeps (isTag (some t)) all ρ n3 ρ → Q .none { s with heap := h' }) :
    wpAny (model prog w) A (call (.builtin "list.append") [.ref c, y]) Q E s :=
  append_mem F N hm hl fun h' F' N' => h h' _ F' N' (.head _) (upd_sep hS) (upd_keep ht)
end
end PKit
section PInit
open PySem PySem.W PyProof.Rows PySem.Calls
set_option maxRecDepth 100000
set_option maxHeartbeats 2000000
local macro_rules | `(tactic| walk_at "my steps") => `(tactic| repeat' (first | ((fail_if_success (with_reducible show wpAny _ _ (pyIter _) _ _ _)); (fail_if_success (with_reducible show LCg.CompSrc _ _ _ _ _ _ _ _ _ _ _ _ _ _)); (fail_if_success (with_reducible show CellSrc _ _ _ _ _ _ _ _ _ _ _ _ _ _)); (first | (k_unfold; (try dsimp only)) | (k_end; wrow_close) | walk1 | (dsimp only; walk1) | (leave1; walk_say "STEP leave1"; try dsimp only))) | fail "no step"))
local macro_rules | `(tactic| walk_at "eval ListComp") => `(tactic| (k_here; k_dflt (refine LCg.ListComp_U (F₀ := by k_asm) (by with_unfolding_all rfl) (by decide) (by rfl) (by decide) (by rfl) ?_)))
local macro_rules | `(tactic| k_all) => `(tactic| assumption)
local macro_rules | `(tactic| k_room) => `(tactic| ktr_room)
section
variable {w : World} {mean : ExcName → Option Value} {mg mb : Str → Option Value} {dp un : Nat} {gd : Option (List Code)} {cn : Str} {cs : Scope} {a : Addr} {ccd : Value} {cl : List (Str × Addr)} {outer : List Env} {A₀ : Around} {base h₀ : Heap} {L : Addr} {m : Str → Option Value} {news : List (Addr × Obj)} {s : Shared} {Q E : Value → Shared → Prop}
variable {ρ : Addr → Tag} {A B' : Nat → Nat} {D : Nat → Nat → Nat → Option C4} {g fr : Addr} {W H ca cd : Int}
/-- between the turns of Grid.__init__'s loop -/
def InitI (w : World) (news : Led) (ρ : Addr → Tag) (g dg P cA : Addr) (k0 k1 t0 : Tok) (A B : Nat → Nat) (k : Nat) (nx : Led) (ρ' : Addr → Tag) : Prop :=
  Keeps isFrz news ρ nx ρ' ∧ (∃ oc vc, (cA, oc) ∈ nx ∧ oc.data = .cell vc) ∧ ρ' cA = some (8, 0, 0) ∧ ρ' g = none ∧ ρ' dg = none ∧ (g, instObj 165 dg) ∈ nx ∧ (dg, gridD w P k0 k1 t0) ∈ nx ∧ ρ' P = some (6, 0, 0) ∧
    ∃ (qs : List Value) (n : Nat), (P, listOf qs.toArray n) ∈ nx ∧ qs.length = k ∧ ∀ j, j < k → ∃ q, qs[j]? = some (.ref q) ∧ PlaneIn nx ρ' 0 j q (A j) (B j) (fun _ _ => none)
theorem frzN (t : Nat × Nat × Nat) (h : t.1 ≠ 7) : ¬ isFrz (some t) := fun q => h (by cases q; rfl)
theorem InitI.keep {w : World} {news : Led} {ρ : Addr → Tag} {g dg P cA : Addr} {k0 k1 t0 : Tok} {A B : Nat → Nat} {k : Nat} {nx nx2 : Led} {ρ' ρ2 : Addr → Tag} (h : InitI w news ρ g dg P cA k0 k1 t0 A B k nx ρ') (K : Keeps isFrz nx ρ' nx2 ρ2) : InitI w news ρ g dg P cA k0 k1 t0 A B k nx2 ρ2 := by
  obtain ⟨a1, ⟨oc, vc, a2, a3⟩, a4, a5, a6, a7, a8, a9, qs, n, b1, b2, b3⟩ := h
  have c1 := K _ a2 (by rw [a4]; exact frzN _ (by decide))
  have c2 := K _ a7 (by rw [a5]; exact none_frz)
  have c3 := K _ a8 (by rw [a6]; exact none_frz)
  have c4 := K _ b1 (by rw [a9]; exact frzN _ (by decide))
  exact ⟨a1.trans K, ⟨oc, vc, c1.1, a3⟩, c1.2.trans a4, c2.2.trans a5, c3.2.trans a6, c2.1, c3.1, c4.2.trans a9, qs, n, c4.1, b2, fun j hj => let ⟨q, h1, h2⟩ := b3 j hj; ⟨q, h1, h2.keep K none_frz (row_frz j)⟩⟩
theorem init_start {w : World} {news : Led} {ρ : Addr → Tag} {g dg P cA : Addr} {k0 k1 t0 : Tok} {A B : Nat → Nat} {o' : Obj} {vc : Option Value} {n : Nat} (hS : Sep news ρ) (l1 : ∀ p ∈ news, p.1 < dg) (l2 : dg < g) (l3 : g < cA) (l4 : cA < P) (hd : o'.data = .cell vc) :
    ∃ ρ', Sep ((P, listOf #[] n) :: (cA, o') :: (g, instObj 165 dg) :: (dg, gridD w P k0 k1 t0) :: news) ρ' ∧ (∀ p ∈ news, ρ' p.1 = ρ p.1) ∧ InitI w news ρ g dg P cA k0 k1 t0 A B 0 ((P, listOf #[] n) :: (cA, o') :: (g, instObj 165 dg) :: (dg, gridD w P k0 k1 t0) :: news) ρ' := by
  have k1' : dg < cA := Nat.lt_trans l2 l3
  have n1 : ∀ p ∈ news, p.1 ≠ cA := fun p hp => Nat.ne_of_lt (Nat.lt_trans (l1 p hp) k1')
  have n2 : ∀ p ∈ news, p.1 ≠ P := fun p hp => Nat.ne_of_lt (Nat.lt_trans (Nat.lt_trans (l1 p hp) k1') l4)
  have g1 : g ≠ cA := Nat.ne_of_lt l3
  have g2 : g ≠ P := Nat.ne_of_lt (Nat.lt_trans l3 l4)
  have d1 : dg ≠ cA := Nat.ne_of_lt k1'
  have d2 : dg ≠ P := Nat.ne_of_lt (Nat.lt_trans k1' l4)
  have eq : ∀ b, b ≠ cA → b ≠ P → retag (retag ρ cA (some (8, 0, 0))) P (some (6, 0, 0)) b = ρ b := fun b h1 h2 => by rw [retag_ne h2, retag_ne h1]
  refine ⟨retag (retag ρ cA (some (8, 0, 0))) P (some (6, 0, 0)), retag_sep (retag_sep (Sep.cons (Sep.cons (Sep.cons (Sep.cons hS)))) (.tail _ (.head _))) (.head _), fun p hp => eq _ (n1 p hp) (n2 p hp), fun p hp _ => ⟨.tail _ (.tail _ (.tail _ (.tail _ hp))), eq _ (n1 p hp) (n2 p hp)⟩, ⟨o', vc, .tail _ (.head _), hd⟩, ?_, ?_, ?_, .tail _ (.tail _ (.head _)), .tail _ (.tail _ (.tail _ (.head _))), retag_self, [], n, .head _, rfl, fun j hj => absurd hj (Nat.not_lt_zero j)⟩
  · rw [retag_ne (Nat.ne_of_lt l4)]; exact retag_self
  · rw [eq g g1 g2]; exact hS.fresh fun p hp => Nat.lt_trans (l1 p hp) l2
  · rw [eq dg d1 d2]; exact hS.fresh l1
theorem plane_made {nx2 n9 : Led} {ρ3 : Addr → Tag} {ys : List Value} {D : Addr} {A B y : Nat} (hS : Sep nx2 ρ3) (offD : ∀ p ∈ nx2, p.1 ≠ D) (hyl : ys.length = B)
    (j2 : ∀ y2, y2 < B → ∃ r, ys[y2]? = some (Value.ref r) ∧ RowIn nx2 ρ3 (some (0, y, y2)) r A (fun _ => none)) (K9 : Keeps (isTag (some (6, 0, 0))) ((D, LCg.lst ys) :: nx2) ρ3 n9 ρ3) : PlaneIn n9 ρ3 0 y D A B (fun _ _ => none) := by
  have K0 : Keeps isFrz nx2 ρ3 ((D, LCg.lst ys) :: nx2) ρ3 := cons_keep
  have p : PlaneIn ((D, LCg.lst ys) :: nx2) ρ3 0 y D A B (fun _ _ => none) := ⟨hS.off offD, ys, ys.length, .head _, hyl, fun y2 h => let ⟨r, e1, e2⟩ := j2 y2 h; ⟨r, e1, e2.keep K0 none_frz (row_frz _ _)⟩⟩
  exact p.keep K9 none_tag fun _ h => by cases h
theorem init_start_k {P' : Prop} {g' h : Heap} {L' : Addr} {w : World} {news : Led} {ρ : Addr → Tag} {g dg P cA : Addr} {k0 k1 t0 : Tok} {A B : Nat → Nat} {o' : Obj} {vc : Option Value} {n : Nat} (N : News g' L' h ((P, listOf #[] n) :: (cA, o') :: (g, instObj 165 dg) :: (dg, gridD w P k0 k1 t0) :: news)) (hS : Sep news ρ) (l1 : ∀ p ∈ news, p.1 < dg) (l2 : dg < g) (l3 : g < cA) (l4 : cA < P) (hd : o'.data = .cell vc)
    (k : ∀ n1 k0 k1 t0 ρ', News g' L' h n1 → Sep n1 ρ' → (∀ p ∈ news, p ∈ n1 ∧ ρ' p.1 = ρ p.1) → InitI w news ρ g dg P cA k0 k1 t0 A B 0 n1 ρ' → P') : P' := by
  obtain ⟨ρ', a, b, c⟩ := init_start (w := w) (A := A) (B := B) (k0 := k0) (k1 := k1) (t0 := t0) (n := n) hS l1 l2 l3 l4 hd
  exact k _ _ _ _ ρ' N a (fun p hp => ⟨.tail _ (.tail _ (.tail _ (.tail _ hp))), b p hp⟩) c
theorem init_turn {w : World} {news nx n3 nx2 n9 : Led} {ρ ρ2 ρ3 : Addr → Tag} {g dg P cA D : Addr} {k0 k1 t0 : Tok} {A B : Nat → Nat} {y nq : Nat} {qs ys : List Value} {oc3 : Obj} {vc : Option Value}
    (hN : ∀ a, ρ a ≠ some (8, 0, 0) ∧ ρ a ≠ some (6, 0, 0)) (a1 : Keeps isFrz news ρ nx ρ2) (a4 : ρ2 cA = some (8, 0, 0)) (a5 : ρ2 g = none) (a6 : ρ2 dg = none) (a9 : ρ2 P = some (6, 0, 0)) (b2 : qs.length = y)
    (b3 : ∀ j, j < y → ∃ q, qs[j]? = some (.ref q) ∧ PlaneIn nx ρ2 0 j q (A j) (B j) (fun _ _ => none)) (K3 : Keeps (isTag (some (8, 0, 0))) nx ρ2 n3 ρ2) (hd : oc3.data = .cell vc)
    (hfz3 : ∀ p ∈ n3, ρ2 p.1 = frz → p ∈ nx2 ∧ ρ3 p.1 = frz) (j1 : Keeps isFrz n3 ρ2 nx2 ρ3) (hS3 : Sep nx2 ρ3) (offD : ∀ p ∈ nx2, p.1 ≠ D) (hyl : ys.length = B y)
    (j2 : ∀ y2, y2 < B y → ∃ r, ys[y2]? = some (Value.ref r) ∧ RowIn nx2 ρ3 (some (0, y, y2)) r (A y) (fun _ => none))
    (z1 : (g, instObj 165 dg) ∈ nx2 ∧ ρ3 g = ρ2 g) (z2 : (dg, gridD w P k0 k1 t0) ∈ nx2 ∧ ρ3 dg = ρ2 dg) (z3 : ρ3 P = ρ2 P) (z4 : (cA, oc3) ∈ nx2 ∧ ρ3 cA = ρ2 cA)
    (m9 : (P, listOf (qs ++ [Value.ref D]).toArray (nq + 1)) ∈ n9) (K9 : Keeps (isTag (some (6, 0, 0))) ((D, LCg.lst ys) :: nx2) ρ3 n9 ρ3) :
    (∀ p ∈ nx, ρ2 p.1 = frz → p ∈ n9 ∧ ρ3 p.1 = frz) ∧ InitI w news ρ g dg P cA k0 k1 t0 A B (y + 1) n9 ρ3 := by
  have ne1 : ∀ {t : Tag}, t = frz → ¬ isTag (some (8, 0, 0)) t := fun h q => by rw [h] at q; cases q
  have ne2 : ∀ {t : Tag}, t = frz → ¬ isTag (some (6, 0, 0)) t := fun h q => by rw [h] at q; cases q
  have e1 := z1.2.trans a5
  have e2 := z2.2.trans a6
  have e3 := z3.trans a9
  have e4 := z4.2.trans a4
  refine ⟨fun p hp e => ?_, fun p hp hb => ?_, ⟨oc3, vc, (K9 _ (.tail _ z4.1) (by rw [e4]; intro h; cases h)).1, hd⟩, e4, e1, e2, (K9 _ (.tail _ z1.1) (by rw [e1]; exact none_tag)).1, (K9 _ (.tail _ z2.1) (by rw [e2]; exact none_tag)).1, e3, _, _, m9, by simp [b2], fun j hj => ?_⟩
  · have h1 := K3 p hp (ne1 e)
    have h2 := hfz3 p h1.1 (h1.2.trans e)
    exact ⟨(K9 p (.tail _ h2.1) (ne2 h2.2)).1, h2.2⟩
  · have h1 := a1 p hp hb
    have h2 := K3 p h1.1 (by rw [h1.2]; exact (hN p.1).1)
    have h3 := j1 p h2.1 (by rw [h1.2]; exact hb)
    have h4 := h3.2.trans h1.2
    exact ⟨(K9 p (.tail _ h3.1) (by rw [h4]; exact (hN p.1).2)).1, h4⟩
  · by_cases e : j < y
    · obtain ⟨q, h1, h2⟩ := b3 j e
      refine ⟨q, by rw [List.getElem?_append_left (by omega)]; exact h1, ?_⟩
      have h3 := h2.keep K3 none_tag fun _ h => by cases h
      have h4 := h3.keep j1 none_frz (row_frz _)
      exact (h4.keep (cons_keep (bad := isFrz)) none_frz (row_frz _)).keep K9 none_tag fun _ h => by cases h
    · obtain rfl : j = y := by omega
      exact ⟨D, by rw [← b2, List.getElem?_append_right (Nat.le_refl _)]; simp, plane_made hS3 offD hyl j2 K9⟩
theorem map_one {α : Type} {z x y : Str} {a c d e : α} {st : List Str} (hst : st = [y]) (h1 : z ≠ x) (h2 : st.contains z = false) : (if z = y then a else if z = x then c else if st.contains z then d else e) = e := by
  have h3 : z ≠ y := by
    intro q
    subst q
    subst hst
    simp at h2
  rw [if_neg h3, if_neg h1, if_neg (by rw [h2]; exact Bool.false_ne_true)]
theorem init_end {w : World} {news nx : Led} {ρ ρ2 : Addr → Tag} {g dg P cA : Addr} {k0 k1 t0 : Tok} {A B : Nat → Nat} (hI : InitI w news ρ g dg P cA k0 k1 t0 A B 2 nx ρ2) (hS : Sep nx ρ2) (hP : ∀ p ∈ news, p.1 ≠ P) (hf : ∀ p ∈ news, ρ p.1 = frz → p ∈ nx ∧ ρ2 p.1 = frz) :
    ∃ ρ', Sep nx ρ' ∧ GridIn w nx ρ' g A B (fun _ _ _ => none) ∧ Keeps never news ρ nx ρ' := by
  obtain ⟨a1, _, _, a5, a6, a7, a8, a9, qs, n, b1, b2, b3⟩ := hI
  have K : Keeps (isTag (some (6, 0, 0))) nx ρ2 nx (retag ρ2 P none) := retag_keepT a9
  obtain ⟨q0, c0, d0⟩ := b3 0 (by decide)
  obtain ⟨q1, c1, d1⟩ := b3 1 (by decide)
  obtain rfl := list_two b2 c0 c1
  have ng : g ≠ P := fun e => by rw [e, a9] at a5; cases a5
  have nd : dg ≠ P := fun e => by rw [e, a9] at a6; cases a6
  refine ⟨retag ρ2 P none, untag_sep hS, ⟨by rw [retag_ne ng]; exact a5, dg, P, k0, k1, t0, by rw [retag_ne nd]; exact a6, a7, a8, retag_self, q0, q1, n, b1, d0.keep K none_tag (fun _ h => by cases h), d1.keep K none_tag (fun _ h => by cases h)⟩, fun p hp _ => ?_⟩
  rw [retag_ne (hP p hp)]
  by_cases e : ρ p.1 = frz
  · exact ⟨(hf p hp e).1, (hf p hp e).2.trans e.symm⟩
  · exact a1 p hp e
theorem rep_none (n : Nat) : (List.replicate n [Value.none]).flatten = List.replicate n Value.none := by
  induction n with
  | zero => rfl
  | succ n ih => rw [List.replicate_succ, List.replicate_succ, List.flatten_cons, ih]; rfl
local macro_rules | `(tactic| walk_at "binaryOp Mult ref int") => `(tactic| (k_here; (with_reducible show wpAny _ _ (binaryOp Operator.Mult (Value.ref _) (Value.int _ _)) _ _ _); k_dflt (refine' KMa.mul (vs := [Value.none]) (by k_asm) (by k_asm) (by is_list) (by omega) (by omega) (by (simp only [List.length_cons, List.length_nil, Int.toNat_natCast]; omega)) (by exact rep_none _) ?_; k_whole); intro D' h' F' N' l1; (try k_sweep)))
theorem row_step {n3 nx2 : Led} {ρ2 ρ3 : Addr → Tag} {ys : List Value} {i y A : Nat} {D l' : Addr} {o' : Obj} (K : Keeps isFrz n3 ρ2 nx2 ρ3) (hS : Sep nx2 ρ3) (hl : ys.length = i)
    (j2 : ∀ y2, y2 < i → ∃ r, ys[y2]? = some (Value.ref r) ∧ RowIn nx2 ρ3 (some (0, y, y2)) r A (fun _ => none)) (l1 : ∀ p ∈ (l', o') :: nx2, p.1 < D) :
    ∃ ρ', Sep ((D, listOf (List.replicate A Value.none).toArray 0) :: (l', o') :: nx2) ρ' ∧ (∀ p ∈ nx2, ρ3 p.1 = frz → p ∈ ((D, listOf (List.replicate A Value.none).toArray 0) :: (l', o') :: nx2) ∧ ρ' p.1 = frz) ∧
      Keeps isFrz n3 ρ2 ((D, listOf (List.replicate A Value.none).toArray 0) :: (l', o') :: nx2) ρ' ∧ ∀ y2, y2 < i + 1 → ∃ r, (ys ++ [.ref D])[y2]? = some (Value.ref r) ∧ RowIn ((D, listOf (List.replicate A Value.none).toArray 0) :: (l', o') :: nx2) ρ' (some (0, y, y2)) r A (fun _ => none) := by
  have hne : ∀ p ∈ nx2, p.1 ≠ D := fun p hp => Nat.ne_of_lt (l1 p (.tail _ hp))
  have K2 : Keeps isFrz nx2 ρ3 ((D, listOf (List.replicate A Value.none).toArray 0) :: (l', o') :: nx2) (retag ρ3 D (some (0, y, i))) := (retag_keep hne).trans (cons_keep.trans cons_keep)
  refine ⟨retag ρ3 D (some (0, y, i)), retag_sep (Sep.cons (Sep.cons hS)) (.head _), fun p hp e => ⟨.tail _ (.tail _ hp), (retag_ne (hne p hp)).trans e⟩, K.trans K2, fun y2 h => ?_⟩
  by_cases e : y2 < i
  · obtain ⟨r, h1, h2⟩ := j2 y2 e
    exact ⟨r, by rw [List.getElem?_append_left (by omega)]; exact h1, h2.keep K2 none_frz (row_frz _ _)⟩
  · obtain rfl : y2 = i := by omega
    refine ⟨D, by rw [← hl, List.getElem?_append_right (Nat.le_refl _)]; simp, retag_self, List.replicate A Value.none, 0, .head _, List.length_replicate, fun x hx => ⟨.none, by simp [hx], rfl⟩⟩
theorem grid_call
  (B : Below A₀ base outer h₀) (F : Fr h₀ L s.heap m) (X : (hd.heap_39 w.params).In h₀) (N : News h₀ L s.heap news) (T : Top hd.view_39 (looseW hd.view_39 []) mean mg mb h₀) (hk : cs.kind = .function) (hd : dp + 16 < recursionLimit)
  (hS : Sep news ρ) (hF : FrameIn w news ρ fr W H ca cd) (hb : FB W H ca cd) (hN : ∀ a, ρ a ≠ some (8, 0, 0) ∧ ρ a ≠ some (6, 0, 0))
  (ret : ∀ g news' ρ' h' tk', Sep news' ρ' → GridIn w news' ρ' g (pA W ca) (pA H cd) (fun _ _ _ => none) → Keeps never news ρ news' ρ' → Fr h₀ L h' m → News h₀ L h' news' → Q (.ref g) {s with heap := h', toks := tk'}) :
  wpAny (model PySem.Challenge.rw_xm0815_01.row.prog w) (ktrTop dp un gd cn cs L a ccd cl outer) (call (.ref 165) [.ref fr]) Q E s := by
  obtain ⟨dfr, l, c0, c1, d0, d1, kf, tf, k0, t0, k1, t1, n, ⟨f1, f2, f3, f4, f5, f6, f7⟩, er⟩ := id hF
  obtain ⟨w0, w1, x0, x1, v0, v1, y0, y1⟩ := id hb
  k_dflt (refine' call_cls ?k1 ?k2 ?k3 ?k4 ?k5 ?k6 ?_)
  case k1 => k_asm
  case k2 => k_asm
  case k3 => k_asm
  case k4 => k_dflt k_is
  case k5 => k_dflt k_is
  case k6 => k_dflt k_is
  intro g dg hg F9 N9 lg1 lg2
  k_dflt (refine' code_defC ?k1 ?k2 ?k3 ?k4 ?k5 ?kA ?kF ?kK ?k6 ?k7 ?k8 ?k9 ?kB ?kD ?_ ?c2 ?c3 ?c4)
  case kA => exact rfl
  case kF => exact rfl
  case kK => exact hk
  case k1 => k_asm
  case k2 => k_asm
  case k3 => k_asm
  case k4 => k_asm
  case k5 => k_asm
  case k6 => k_dflt k_is
  case k7 => k_dflt k_is
  case k8 => ktr_room
  case k9 => exact BindsTo.of_eq rfl
  case kB => exact rfl
  case kD => decide +kernel
  case c2 => exact rfl
  case c3 => exact rfl
  case c4 => exact rfl
  intro g' L' h' tk' cells' FG' F' N' Y' B' X' T' l1'
  have hY := CellsAre.one Y'
  obtain ⟨o', hE', d1'⟩ := hY
  subst hE'
  clear Y'
  (try simp only [List.cons_append, List.nil_append] at N')
  have hne1 : ∀ p ∈ news, p.1 ≠ dg := fun p hp => Nat.ne_of_lt (lg1 p hp)
  have u1 := ltN (a := dg) (b := L') (l1' (dg, dictOf [] 0) (.tail _ (.head _)))
  have u2 := ltN (a := g) (b := L') (l1' (g, instObj 165 dg) (.head _))
  have u3 := ltN (a := dg) (b := g) lg2
  have Fe : Fr g' L' h' (fun y => if y = Str.ofString "frame" then some (.ref fr) else if y = Str.ofString "self" then some (.ref g) else none) := by with_unfolding_all exact F'
  clear F'
  (try dsimp only)
  (try k_lift B')
  (try k_fold)
  walk_at "my steps"
  rename IsRange _ _ _ _ _ _ _ _ => R1
  rename Fr _ _ _ _ => F1
  rename News _ _ _ _ => N1
  rename (_ ∧ _ ∧ _ ∧ AllLt _ _) => hl9
  have ld := hl9.2.2.2
  refine init_start_k (A := pA W ca) (B := pA H cd) N1 hS lg1 lg2 (Nat.lt_succ_of_lt u2) hl9.1 d1' fun n1 kk0 kk1 tt0 ρ1 N2 hS1 hp1 hI1 => ?_
  clear N1
  refine tag_range0 2 (fun k nx ρ' => InitI w news ρ g dg _ (L' + 1) kk0 kk1 tt0 (pA W ca) (pA H cd) k nx ρ') [Str.ofString "down"] rfl R1 (by decide) (fun _ _ _ _ _ h K => h.keep K) F1 N2 hS1 hI1 ?_ ?_
  · intro y ty uy nx ρ2 hh tkk hy hS2 hfz2 hI2 F2 N22
    (try k_fold)
    obtain ⟨a1, ⟨oc, vc, a2, a3⟩, a4, a5, a6, a7, a8, a9, qs, nq, b1, b2, b3⟩ := hI2
    have hF2 := hF.keep a1 none_frz
    obtain ⟨dfr2, l2, kf2, tf2, m12, m22⟩ := hF2.inst
    clear hI1 hp1 hfz2 f1 f2 f3 f4 f5 f6 f7 er R1 F1 hS hF
    (try k_fold)
    walk_at "my steps"
    rename Fr _ _ _ _ => F3
    rename News _ _ _ _ => N3
    refine store_cellT (o := oc) (v₀ := vc) (news := nx) F3 N3 (fun p hp => List.Mem.tail _ hp) hS2 rfl a2 a3 a4 ?_
    intro h3 oc3 n3 F4 N4 hd3 c3 S3 K3
    clear F3 N3
    have g7 := (K3 _ a7 (by rw [a5]; exact none_tag)).1
    have g8 := (K3 _ a8 (by rw [a6]; exact none_tag)).1
    have g9 := (K3 _ b1 (by rw [a9]; intro h; cases h)).1
    have hF3 := hF2.keep K3 none_tag
    clear a2 a3 a7 a8 b1 hF2 m12 m22 F2 N22
    (try dsimp only)
    (try k_fold)
    walk_at "my steps"
    rename IsRange _ _ _ _ _ _ _ _ => R3
    rename Fr _ _ _ _ => F5
    rename News _ _ _ _ => N5
    have q2 := dimsN x0 x1 y0 y1 (k := y) (by omega)
    have q1 := dimsN w0 w1 v0 v1 (k := y) (by omega)
    have ey : ((y : Nat) : Int).toNat = y := rfl
    rw [ey] at hd3
    refine comp_range (pA H cd y) (fun i ys nx2 ρ' => Keeps isFrz n3 ρ2 nx2 ρ' ∧ ∀ y2, y2 < i → ∃ r, ys[y2]? = some (Value.ref r) ∧ RowIn nx2 ρ' (some (0, y, y2)) r (pA W ca y) (fun _ => none)) rfl R3 (by rw [ey]) (by omega) F5 N5 S3 ⟨Keeps.sub fun _ h => h, fun y2 h => absurd h (Nat.not_lt_zero _)⟩ ?_ ?_ ?_
    · rintro i ys nx2 ρ3 nx4 ρ4 ⟨j1, j2⟩ K
      exact ⟨j1.trans K, fun y2 h => let ⟨r, e1, e2⟩ := j2 y2 h; ⟨r, e1, e2.keep K none_frz (row_frz _ _)⟩⟩
    · intro i ys t C oC m2 nx2 ρ3 hh2 tk2 E' hi hyl hS3 hfz3 hJ hC hρC hoC hxv F6 N6
      obtain ⟨j1, j2⟩ := hJ
      have c4 := (j1 _ c3 (by rw [a4]; exact frzN _ (by decide))).1
      clear F5 N5 R3 S3 c3 g7 g8 g9 hF3 K3
      (try k_fold)
      walk_at "my steps"
      rename Fr _ _ _ _ => F7
      rename News _ _ _ _ => N7
      rename (∀ p ∈ _, _ < _) => l7
      obtain ⟨ρ', s1, s2, s3, s4⟩ := row_step j1 hS3 hyl j2 l7
      exact ⟨_, _, _, ρ', rfl, F7, N7, s1, s2, s3, s4⟩
    · intro ys nx2 ρ3 D hh2 tk2 hyl hS3 hfz3 hJ F6 N6 offD
      obtain ⟨j1, j2⟩ := hJ
      have z1 := j1 _ g7 (by rw [a5]; exact none_frz)
      have z2 := j1 _ g8 (by rw [a6]; exact none_frz)
      have z3 := j1 _ g9 (by rw [a9]; exact frzN _ (by decide))
      have z4 := j1 _ c3 (by rw [a4]; exact frzN _ (by decide))
      clear F5 N5 R3
      (try dsimp only)
      (try k_fold)
      walk_at "my steps"
      refine append_memT (vs := qs) (n := nq) (ρ := ρ3) F6 N6 (Sep.cons hS3) (List.Mem.tail _ z3.1) (by omega) (z3.2.trans a9) ?_
      intro h9 n9 F9 N9 m9 S9 K9
      clear F6 N6
      obtain ⟨t1, t2⟩ := init_turn hN a1 a4 a5 a6 a9 b2 b3 K3 hd3 hfz3 j1 hS3 offD hyl j2 z1 z2 z3.2 z4 m9 K9
      (try dsimp only)
      (try k_fold)
      walk_at "my steps"
      exact turn_end F9 N9 (fun z h1 h2 => map_one rfl h1 h2) S9 t1 t2
  · intro uy nx ρ2 hh tkk hS2 hfz2 hI2 F2 N22
    clear F1 R1 N2
    (try dsimp only)
    (try k_fold)
    walk_at "my steps"
    obtain ⟨ρ', s1, s2, s3⟩ := init_end hI2 hS2 (fun p hp => Nat.ne_of_lt (allLt_mem ld p hp)) (fun p hp e => hfz2 p (hp1 p hp).1 ((hp1 p hp).2.trans e))
    exact ret g nx ρ' _ _ s1 s2 s3 (by k_asm) (by k_asm)
end
end PInit
section PFor
open PySem PySem.W PyProof.Rows PySem.Calls PySem.Spec
set_option maxRecDepth 100000
set_option maxHeartbeats 2000000
/-- what a turn hands back, the frame's map in the loop's word -/
def TurnEnd2 (h₀ : Heap) (L : Addr) (J : (Str → Option Value) → Led → (Addr → Tag) → Prop) (nx : Led) (ρ : Addr → Tag) (s₁ : Shared) (Q : Flow → Shared → Prop) (f : Flow) (s₂ : Shared) : Prop :=
  match f with
  | .ret v => Q (.ret v) s₂
  | .brk => Q .next s₂
  | _ => ∃ h' tk m' news' ρ', s₂ = { s₁ with heap := h', toks := tk } ∧ Fr h₀ L h' m' ∧ News h₀ L h' news' ∧ Sep news' ρ' ∧ (∀ p ∈ nx, ρ p.1 = frz → p ∈ news' ∧ ρ' p.1 = frz) ∧ J m' news' ρ'
theorem turn_end2 {h₀ : Heap} {L : Addr} {m' : Str → Option Value} {J : (Str → Option Value) → Led → (Addr → Tag) → Prop} {nx news' : Led} {ρ ρ' : Addr → Tag} {s₁ : Shared} {Q : Flow → Shared → Prop} {h' : Heap} {tk : Nat}
    (F : Fr h₀ L h' m') (N : News h₀ L h' news') (hS : Sep news' ρ') (hf : ∀ p ∈ nx, ρ p.1 = frz → p ∈ news' ∧ ρ' p.1 = frz) (hJ : J m' news' ρ') :
    TurnEnd2 h₀ L J nx ρ s₁ Q .next { s₁ with heap := h', toks := tk } := ⟨h', tk, m', news', ρ', rfl, F, N, hS, hf, hJ⟩
/-- between the turns of a loop -/
inductive FInv (h₀ : Heap) (L : Addr) (s : Shared) (n : Nat) (os : List Addr) (St : Nat → Heap → Prop) (news : Led) (ρ₀ : Addr → Tag) (J : Nat → (Str → Option Value) → Led → (Addr → Tag) → Prop) : Nat → Shared → Prop
  | mk (h' : Heap) (tk i : Nat) (m : Str → Option Value) (nx : Led) (ρ : Addr → Tag) (hin : i ≤ n) (hst : St i h') (F : Fr h₀ L h' m) (N : News h₀ L h' nx) (off : ∀ p ∈ nx, p.1 ∉ os) (hS : Sep nx ρ) (hf : ∀ p ∈ news, ρ₀ p.1 = frz → p ∈ nx ∧ ρ p.1 = frz) (hJ : J i m nx ρ) :
      FInv h₀ L s n os St news ρ₀ J (n + 1 - i) { s with heap := h', toks := tk }
section
variable {prog : Program} {w : World} {A : Around} {E : Value → Shared → Prop} {s : Shared} {env : Env} {h₀ : Heap} {target : PySem.Expr} {body : List Stmt} {Q : Flow → Shared → Prop}
open Classical in
theorem tag_forC {R : Result → Shared → Prop} {It : Addr} {os : List Addr} {n : Nat} {P : Nat → Value → Heap → Prop} {St : Nat → Heap → Prop} {m₀ : Str → Option Value} {news : Led} {ρ₀ : Addr → Tag} (fixed : Led)
    (J : Nat → (Str → Option Value) → Led → (Addr → Tag) → Prop)
    (item : ∀ i (s : Shared) (Q : Value → Shared → Prop) (E : Value → Shared → Prop), i < n → St i s.heap → (∀ v h' tk, P i v h' → St (i + 1) h' → (∀ b o, b ∉ os → s.heap.get? b = some o → h'.get? b = some o) → Q v { s with heap := h', toks := tk }) →
      wpAny (model prog w) A (pyNext (.ref It)) (fun r s₁ => match r with | none => False | some v => wpAny (model prog w) A (letOwnedTupleGo target (.ref It) v) (fun _ s₂ => Q v s₂) E s₁) E s)
    (last : ∀ (s : Shared) (Q : Option Value → Shared → Prop) (E : Value → Shared → Prop), St n s.heap → (∀ h' tk, (∀ b o, b ∉ os → s.heap.get? b = some o → h'.get? b = some o) → Q none { s with heap := h', toks := tk }) → wpAny (model prog w) A (pyNext (.ref It)) Q E s)
    (stay : ∀ i h h', St i h → (∀ b ∈ os, ∀ o, h.get? b = some o → h'.get? b = some o) → (∀ p ∈ fixed, h'.get? p.1 = some p.2) → St i h')
    (hob : ∀ i h, St i h → ∀ b ∈ os, ∃ o, h.get? b = some o) (hLo : env.locals ∉ os) (hno : ∀ b ∈ os, h₀.get? b = none) (hnw : ∀ p ∈ news, p.1 ∉ os) (hst : St 0 s.heap)
    (F : Fr h₀ env.locals s.heap m₀) (N : News h₀ env.locals s.heap news) (hS : Sep news ρ₀) (hj : J 0 m₀ news ρ₀)
    (hJ : ∀ i m nx ρ nx' ρ', J i m nx ρ → Keeps isFrz nx ρ nx' ρ' → J i m nx' ρ') (hfix : ∀ i m nx ρ, J i m nx ρ → ∀ p ∈ fixed, p ∈ nx)
    (turn : ∀ i v m nx ρ h tk, i < n → P i v h → Sep nx ρ → (∀ p ∈ news, ρ₀ p.1 = frz → p ∈ nx ∧ ρ p.1 = frz) → J i m nx ρ → Fr h₀ env.locals h m → News h₀ env.locals h nx →
      wpAny (model prog w) A (assign target env v) (fun _ s₂ => wpAny (model prog w) A (execs body env) (TurnEnd2 h₀ env.locals (J (i + 1)) nx ρ { s with heap := h, toks := tk } (fun f s' => R (.ok f) s')) (notedBy (model prog w) A env fun e s' => R (.error e) s') s₂) (notedBy (model prog w) A env fun e s' => R (.error e) s') { s with heap := h, toks := tk })
    (done : ∀ m nx ρ h tk, Sep nx ρ → (∀ p ∈ news, ρ₀ p.1 = frz → p ∈ nx ∧ ρ p.1 = frz) → J n m nx ρ → Fr h₀ env.locals h m → News h₀ env.locals h nx → R (.ok .next) { s with heap := h, toks := tk }) :
    codeAny (model prog w) A (.forLoop target (.ref It) body [] env) R s := by
  refine codeAny_forLoop_any (FInv h₀ env.locals s n os St news ρ₀ J) ?_ (n + 1)
    (FInv.mk s.heap s.toks 0 m₀ news ρ₀ (Nat.zero_le _) hst F N hnw hS (fun p hp e => ⟨hp, e⟩) hj)
  rintro k s' ⟨h', tk, i, m, nx, ρ, hin, hst', F', N', off', hS', hf', hJ'⟩
  have next : ∀ h₁ : Heap, (∀ b o, b ∉ os → h'.get? b = some o → h₁.get? b = some o) → Fr h₀ env.locals h₁ m ∧ News h₀ env.locals h₁ nx := fun h₁ hk₁ =>
    ⟨⟨F'.ns.at' fun o e => hk₁ _ o hLo e, fun b o e => hk₁ b o (fun hb => by rw [hno b hb] at e; cases e) (F'.keep b o e), F'.above⟩, fun p hp => ⟨hk₁ _ _ (off' p hp) (N' p hp).1, (N' p hp).2⟩⟩
  by_cases hlt : i < n
  · refine wpAny_mono (item i _ (fun v s₂ => wpAny (model prog w) A (assign target env v) (fun _ s₂ => wpAny (model prog w) A (execs body env) (fun f s₃ => match f with
            | .next | .cont => ∃ m, m < n + 1 - i ∧ FInv h₀ env.locals s n os St news ρ₀ J m s₃
            | .brk => R (.ok .next) s₃
            | .ret v => R (.ok (.ret v)) s₃) (notedBy (model prog w) A env fun e s' => R (.error e) s') s₂) (notedBy (model prog w) A env fun e s' => R (.error e) s') s₂) _ hlt hst' fun v h₁ tk₁ hP hst₁ hk₁ => ?_) (fun r s₁ hr => ?_) fun _ _ e => e
    · obtain ⟨F₁, N₁⟩ := next h₁ hk₁
      let own : Led := ownOf h₀ os h₁
      have ownOs : ∀ p ∈ own, p.1 ∈ os := ownOf_sub
      have ownGet : ∀ b ∈ os, ∃ o, (b, o) ∈ own ∧ h₁.get? b = some o := fun b hb => let ⟨o, ho⟩ := hob _ _ hst₁ b hb; ⟨o, mem_ownOf hb (hno b hb) ho, ho⟩
      let ρ₂ : Addr → Tag := fun a => if a ∈ os then frz else ρ a
      have ρx : ∀ p ∈ nx, ρ₂ p.1 = ρ p.1 := fun p hp => if_neg (off' p hp)
      have ρo : ∀ b ∈ os, ρ₂ b = frz := fun b hb => if_pos hb
      have hS₂ : Sep (nx ++ own) ρ₂ := fun a ha => by
        by_cases e : a ∈ os
        · obtain ⟨o, ho, _⟩ := ownGet a e
          exact ⟨o, List.mem_append.mpr (.inr ho)⟩
        · have ha' : ρ a ≠ none := by simpa [ρ₂, e] using ha
          obtain ⟨o, ho⟩ := hS' a ha'
          exact ⟨o, List.mem_append.mpr (.inl ho)⟩
      have sub : ∀ p ∈ nx, p ∈ nx ++ own := fun p hp => List.mem_append.mpr (.inl hp)
      refine wpAny_mono (turn i v m (nx ++ own) ρ₂ h₁ tk₁ hlt hP hS₂ (fun p hp e => ⟨sub p (hf' p hp e).1, (ρx p (hf' p hp e).1).trans (hf' p hp e).2⟩) (hJ _ _ _ _ _ _ hJ' fun p hp _ => ⟨sub p hp, ρx p hp⟩) F₁ (N₁.append (news_ownOf hLo)))
        (fun _ s₂ h₂ => wpAny_mono h₂ (fun f s₃ h₃ => ?_) fun _ _ e => e) fun _ _ e => e
      have fin : (∃ h' tk m' news' ρ', s₃ = { { s with heap := h₁, toks := tk₁ } with heap := h', toks := tk } ∧ Fr h₀ env.locals h' m' ∧ News h₀ env.locals h' news' ∧ Sep news' ρ' ∧ (∀ p ∈ nx ++ own, ρ₂ p.1 = frz → p ∈ news' ∧ ρ' p.1 = frz) ∧ J (i + 1) m' news' ρ') →
          ∃ m, m < n + 1 - i ∧ FInv h₀ env.locals s n os St news ρ₀ J m s₃ := by
        rintro ⟨h₄, tk₄, m₄, news₄, ρ₄, rfl, F₄, N₄, hS₄, hk₄, hJ₄⟩
        let nx' : Led := news₄.filter fun p => decide (p.1 ∉ os)
        have inx : ∀ p ∈ news₄, p.1 ∉ os → p ∈ nx' := fun p hp hn => List.mem_filter.mpr ⟨hp, by simpa using hn⟩
        have outx : ∀ p ∈ nx', p ∈ news₄ ∧ p.1 ∉ os := fun p hp => ⟨(List.mem_filter.mp hp).1, by simpa using (List.mem_filter.mp hp).2⟩
        let ρ₃ : Addr → Tag := fun a => if a ∈ os then none else ρ₄ a
        refine ⟨n + 1 - (i + 1), Nat.sub_lt_sub_left (Nat.lt_succ_of_lt hlt) (Nat.lt_succ_self i), FInv.mk h₄ tk₄ (i + 1) m₄ nx' ρ₃ hlt ?_ F₄ (fun p hp => N₄ p (outx p hp).1) (fun p hp => (outx p hp).2) ?_ ?_ ?_⟩
        · refine stay _ _ _ hst₁ (fun b hb o e => ?_) fun p hp => (N₄ p (hfix _ _ _ _ hJ₄ p hp)).1
          obtain ⟨o', ho', he'⟩ := ownGet b hb
          obtain rfl : o' = o := Option.some.inj (he'.symm.trans e)
          exact (N₄ _ (hk₄ (b, o') (List.mem_append.mpr (.inr ho')) (ρo b hb)).1).1
        · intro a ha
          by_cases e1 : a ∈ os
          · exact absurd (if_pos e1) ha
          · have ha' : ρ₄ a ≠ none := by simpa [ρ₃, e1] using ha
            obtain ⟨o, ho⟩ := hS₄ a ha'
            exact ⟨o, inx _ ho e1⟩
        · intro p hp e1
          obtain ⟨a1, a2⟩ := hf' p hp e1
          have n1 := off' p a1
          obtain ⟨b1, b2⟩ := hk₄ p (sub p a1) ((ρx p a1).trans a2)
          exact ⟨inx p b1 n1, (if_neg n1).trans b2⟩
        · refine hJ _ _ _ _ _ _ hJ₄ fun p hp hn => ?_
          have n1 : p.1 ∉ os := fun hb => by
            obtain ⟨o', ho', he'⟩ := ownGet p.1 hb
            exact hn (hk₄ (p.1, o') (List.mem_append.mpr (.inr ho')) (ρo _ hb)).2
          exact ⟨inx p hp n1, if_neg n1⟩
      cases f with
      | ret v => exact h₃
      | brk => exact h₃
      | next => exact fin h₃
      | cont => exact fin h₃
    · cases r with
      | none => exact hr.elim
      | some v => exact hr
  · obtain rfl : i = n := Nat.le_antisymm hin (Nat.not_lt.mp hlt)
    refine last _ _ _ hst' fun h₁ tk₁ hk₁ => wpAny_execs_nil ?_
    obtain ⟨F₁, N₁⟩ := next h₁ hk₁
    exact done m nx ρ h₁ tk₁ hS' hf' hJ' F₁ N₁

/-- a loop's source -/
def ForSrc (prog : Program) (w : World) (A : Around) (h₀ : Heap) (env : Env) (target : PySem.Expr) (body : List Stmt) (Q : Flow → Shared → Prop) (E : Value → Shared → Prop) (xv : Value) (s₁ : Shared) : Prop :=
  ∀ R : Result → Shared → Prop, (∀ f s', Q f s' → R (.ok f) s') → (∀ e s', E e s' → notedBy (model prog w) A env (fun e s' => R (.error e) s') e s') → wpAny (model prog w) A (pyIter xv) (fun it s₂ => codeAny (model prog w) A (.forLoop target it body [] env) R s₂) E s₁

theorem for_src {iter : PySem.Expr} {pos : Pos} {m : Str → Option Value} (_F : Fr h₀ env.locals s.heap m)
    (h : wpAny (model prog w) A (eval iter env) (ForSrc prog w A h₀ env target body Q E) E s)
    (hs : ∀ x, foldedSetIterable iter env x = pure x := by intro _; rfl)
    (hE : PassesOwn (model prog w) A env E := by passes_own) :
    wpAny (model prog w) A (exec (.For target iter body [] pos) env) Q E s := by
  refine wpAny_For (wpAny_mono h (fun xv s₁ h₁ => ?_) fun _ _ e => e) hs
  exact h₁ (fun r s' => match r with | .ok f => Q f s' | .error e => cameBackBy (model prog w) A env E e s') (fun _ _ q => q) hE

theorem ForSrc.range {r : Addr} {b : Int} {t u v : Tok} {m₀ : Str → Option Value} {news : Led} {ρ₀ : Addr → Tag} {x : Str} {px : Pos} (n : Nat) (J : Nat → (Str → Option Value) → Led → (Addr → Tag) → Prop)
    (hh : A.handled = none) (hr : IsRange s.heap r 0 b 1 t u v) (hb : (n : Int) = b) (hn : n ≤ 1000) (F : Fr h₀ env.locals s.heap m₀) (N : News h₀ env.locals s.heap news) (hS : Sep news ρ₀) (hj : J 0 m₀ news ρ₀)
    (hJ : ∀ i m nx ρ nx' ρ', J i m nx ρ → Keeps isFrz nx ρ nx' ρ' → J i m nx' ρ')
    (turn : ∀ (i : Nat) t m nx ρ h tk, i < n → Sep nx ρ → (∀ p ∈ news, ρ₀ p.1 = frz → p ∈ nx ∧ ρ p.1 = frz) → J i m nx ρ → Fr h₀ env.locals h m → News h₀ env.locals h nx →
      wpAny (model prog w) A (assign (.Name x px) env (.int (i : Int) t)) (fun _ s₂ => wpAny (model prog w) A (execs body env) (TurnEnd2 h₀ env.locals (J (i + 1)) nx ρ { s with heap := h, toks := tk } Q) E s₂) E { s with heap := h, toks := tk })
    (done : ∀ m nx ρ h tk, Sep nx ρ → (∀ p ∈ news, ρ₀ p.1 = frz → p ∈ nx ∧ ρ p.1 = frz) → J n m nx ρ → Fr h₀ env.locals h m → News h₀ env.locals h nx → Q .next { s with heap := h, toks := tk }) :
    ForSrc prog w A h₀ env (.Name x px) body Q E (.ref r) s := by
  intro R hQ hE
  subst hb
  have hsz : Builtin.Range.rangeSize 0 (n : Int) 1 = (n : Int) := by
    rw [rangeSize_one]
    by_cases h : (0 : Int) < (n : Int)
    · rw [if_pos h]; omega
    · rw [if_neg h]; omega
  refine wpAny_pyIter_range hr (small_one (by decide) (by decide) (by omega) (by omega)) ?_
  have W := LCg.range_walks (prog := prog) (w := w) (I := s.heap.objs.size) hh 0 n
  refine tag_forC (n := n) (os := [s.heap.objs.size]) (P := fun i v _ => ∃ t, v = .int (i : Int) t) (St := fun i h => IsRangeIter h s.heap.objs.size (0 + (i : Nat) * 1) ((n : Int) - (i : Nat)) 1) [] J ?_ ?_ ?_ ?_ ?_ ?_ ?_ ?_ (F.push _) (N.grown fun _ _ e => Heap.get?_push_of_some _ e) hS hj hJ (fun _ _ _ _ _ p hp => by cases hp) ?_ ?_
  · intro i s' Q' E' hi st k
    refine W.item i s' _ E' hi st fun v h' tk hP hst hk => ?_
    obtain ⟨t, rfl⟩ := hP
    exact wpAny_pure (k _ h' tk ⟨t, by rw [Int.zero_add]⟩ hst hk)
  · intro s' Q' E' st k
    exact W.done s' Q' E' st k
  · intro i h h' st k _
    exact k _ (List.mem_singleton.mpr rfl) _ st
  · intro i h st b hb
    rw [List.mem_singleton.mp hb]
    exact ⟨_, st⟩
  · intro hm
    exact absurd F.ns.lt ((List.mem_singleton.mp hm) ▸ Nat.lt_irrefl _)
  · intro b hb
    rw [List.mem_singleton.mp hb]
    exact next_is_new F
  · intro p hp hm
    exact absurd (Heap.lt_size (N p hp).1) ((List.mem_singleton.mp hm) ▸ Nat.lt_irrefl _)
  · show IsRangeIter _ _ _ _ _
    rw [hsz]
    simpa using Heap.get?_push_size _ rfl
  · rintro i v m nx ρ h tk hin ⟨t, rfl⟩ hS' hf' hJ' F' N'
    refine wpAny_mono (turn i t m nx ρ h tk hin hS' hf' hJ' F' N') (fun _ s₂ h₂ => wpAny_mono h₂ (fun f s₃ h₃ => ?_) hE) hE
    cases f with
    | ret v => exact hQ _ _ h₃
    | brk => exact hQ _ _ h₃
    | next => exact h₃
    | cont => exact h₃
  · intro m nx ρ h tk a b c d e
    exact hQ _ _ (done m nx ρ h tk a b c d e)

/-- the names that the turns do not store -/
def KeepsMap (stored : List Str) (m₀ m : Str → Option Value) : Prop := ∀ z, stored.contains z = false → m z = m₀ z
theorem KeepsMap.eq {stored : List Str} {m₀ m : Str → Option Value} (h : KeepsMap stored m₀ m) : m = fun y => if stored.contains y then m y else m₀ y := by
  funext y
  cases e : stored.contains y with
  | true => simp
  | false => simp only [Bool.false_eq_true, if_false]; exact h y e
theorem ForSrc.rangeS {r : Addr} {b : Int} {t u v : Tok} {m₀ : Str → Option Value} {news : Led} {ρ₀ : Addr → Tag} {x : Str} {px : Pos} (n : Nat) (stored : List Str) (J : Nat → Led → (Addr → Tag) → Prop)
    (hh : A.handled = none) (hr : IsRange s.heap r 0 b 1 t u v) (hb : (n : Int) = b) (hn : n ≤ 1000) (F : Fr h₀ env.locals s.heap m₀) (N : News h₀ env.locals s.heap news) (hS : Sep news ρ₀) (hj : J 0 news ρ₀)
    (hJ : ∀ i nx ρ nx' ρ', J i nx ρ → Keeps isFrz nx ρ nx' ρ' → J i nx' ρ')
    (turn : ∀ (i : Nat) t (u : Str → Option Value) nx ρ h tk, i < n → Sep nx ρ → (∀ p ∈ news, ρ₀ p.1 = frz → p ∈ nx ∧ ρ p.1 = frz) → J i nx ρ → Fr h₀ env.locals h (fun y => if stored.contains y then u y else m₀ y) → News h₀ env.locals h nx →
      wpAny (model prog w) A (assign (.Name x px) env (.int (i : Int) t)) (fun _ s₂ => wpAny (model prog w) A (execs body env) (TurnEnd2 h₀ env.locals (fun m nx ρ => KeepsMap stored m₀ m ∧ J (i + 1) nx ρ) nx ρ { s with heap := h, toks := tk } Q) E s₂) E { s with heap := h, toks := tk })
    (done : ∀ (u : Str → Option Value) nx ρ h tk, Sep nx ρ → (∀ p ∈ news, ρ₀ p.1 = frz → p ∈ nx ∧ ρ p.1 = frz) → J n nx ρ → Fr h₀ env.locals h (fun y => if stored.contains y then u y else m₀ y) → News h₀ env.locals h nx → Q .next { s with heap := h, toks := tk }) :
    ForSrc prog w A h₀ env (.Name x px) body Q E (.ref r) s := by
  refine ForSrc.range n (fun i m nx ρ => KeepsMap stored m₀ m ∧ J i nx ρ) hh hr hb hn F N hS ⟨fun _ _ => rfl, hj⟩ (fun i m nx ρ nx' ρ' h K => ⟨h.1, hJ i nx ρ nx' ρ' h.2 K⟩) ?_ ?_
  · rintro i t m nx ρ h tk hin hS' hf ⟨hm, hj'⟩ F' N'
    rw [hm.eq] at F'
    exact turn i t m nx ρ h tk hin hS' hf hj' F' N'
  · rintro m nx ρ h tk hS' hf ⟨hm, hj'⟩ F' N'
    rw [hm.eq] at F'
    exact done m nx ρ h tk hS' hf hj' F' N'

theorem call_enum {A' : Around} {l : Addr} {xs : List Value} {k n : Nat} {m₀ : Str → Option Value} {news : Led} {ρ₀ : Addr → Tag} {x y : Str} {px py pt : Pos} {x1 : Nat} (J : Nat → (Str → Option Value) → Led → (Addr → Tag) → Prop)
    (hh : A.handled = none) (hl : (l, listOf xs.toArray k) ∈ news) (hn : xs.length = n) (F : Fr h₀ env.locals s.heap m₀) (N : News h₀ env.locals s.heap news) (hS : Sep news ρ₀) (hj : J 0 m₀ news ρ₀)
    (hx : env.kindOf x = some .local) (hy : env.kindOf y = some .local) (hp : (env.scope.kind == .class || (env.scope.kind == .module && env.locals != env.globals)) = false)
    (hJ : ∀ i m nx ρ nx' ρ', J i m nx ρ → Keeps isFrz nx ρ nx' ρ' → J i m nx' ρ') (hfix : ∀ i m nx ρ, J i m nx ρ → (l, listOf xs.toArray k) ∈ nx)
    (turn : ∀ (i : Nat) t v m nx ρ h tk, i < n → xs[i]? = some v → Sep nx ρ → (∀ p ∈ news, ρ₀ p.1 = frz → p ∈ nx ∧ ρ p.1 = frz) → J i m nx ρ → Fr h₀ env.locals h (fun z => if z = y then some v else if z = x then some (.int (i : Int) t) else m z) → News h₀ env.locals h nx →
      wpAny (model prog w) A (execs body env) (TurnEnd2 h₀ env.locals (J (i + 1)) nx ρ { s with heap := h, toks := tk } Q) E { s with heap := h, toks := tk })
    (done : ∀ m nx ρ h tk, Sep nx ρ → (∀ p ∈ news, ρ₀ p.1 = frz → p ∈ nx ∧ ρ p.1 = frz) → J n m nx ρ → Fr h₀ env.locals h m → News h₀ env.locals h nx → Q .next { s with heap := h, toks := tk }) :
    wpAny (model prog w) A' (call (.type "enumerate") [.ref l]) (ForSrc prog w A h₀ env (.Tuple [.Name x px, .Name y py] x1 pt) body Q E) E s := by
  have hls : s.heap.IsList l xs.toArray := ⟨_, (N _ hl).1, rfl, _, rfl⟩
  refine call_enumerate_list hls fun h1 he hit hsz hk => ?_
  intro R hQ hE
  subst hn
  have hlt : l < s.heap.objs.size := Heap.lt_size (N _ hl).1
  have W := WalksT.enumerate (prog := prog) (w := w) (A := A) hh (s.heap.objs.size + 1) s.heap.objs.size l (Nat.succ_ne_self _) (Nat.ne_of_lt (Nat.lt_succ_of_lt hlt)) (Nat.ne_of_lt hlt) xs.toArray
  refine wpAny_pyIter_enum he ?_
  have fresh : ∀ a, s.heap.objs.size ≤ a → h₀.get? a = none := fun a ha => Heap.get?_none_of_le (Nat.le_trans (Nat.le_trans F.above (Nat.le_of_lt F.ns.lt)) ha)
  have lt2 : ∀ {a : Addr}, a < s.heap.objs.size → a ∉ [s.heap.objs.size + 1, s.heap.objs.size] := fun h hm => by
    rcases List.mem_cons.mp hm with e | hm
    · exact Nat.ne_of_lt (Nat.lt_succ_of_lt h) e
    · exact Nat.ne_of_lt h (List.mem_singleton.mp hm)
  have sz : xs.toArray.size = xs.length := List.size_toArray ..
  refine tag_forC (s := { s with heap := h1 }) (n := xs.length) (os := [s.heap.objs.size + 1, s.heap.objs.size]) (P := fun i v h => ∃ T t x, v = .ref T ∧ xs[i]? = some x ∧ h.IsTuple T #[.int (i : Int) t, x])
    (St := fun i h => (∃ old, IsEnum h (s.heap.objs.size + 1) s.heap.objs.size i old) ∧ h.IsListIter s.heap.objs.size l i ∧ h.IsList l xs.toArray) [(l, listOf xs.toArray k)] J ?_ ?_ ?_ ?_ ?_ ?_ ?_ ⟨⟨_, he⟩, hit, hls.at fun o e => hk _ _ e⟩ (F.keeps hk) (N.grown hk) hS hj hJ ?_ ?_ ?_
  · intro i s' Q' E' hi st kk
    refine W.item i s' _ E' (by rw [sz]; exact hi) st fun T vals h' tk hP hT ht hM hk₁ => ?_
    obtain ⟨t, x, hx', rfl⟩ := hP
    refine W.go _ x1 pt i T _ _ _ hM fun h₂ hst₂ hk₂ => ?_
    exact kk (.ref T) h₂ tk ⟨T, t, x, rfl, by simpa using hx', ht.at fun o e => hk₂ T o (W.apart i T h' hM) e⟩ hst₂ fun b o hb e => hk₂ b o hb (hk₁ b o hb e)
  · intro s' Q' E' st kk
    exact W.done s' Q' E' (by rw [sz]; exact st) kk
  · rintro i h h' ⟨⟨old, a1⟩, a2, a3⟩ k1 k2
    exact ⟨⟨old, k1 _ (.head _) _ a1⟩, a2.at fun o e => k1 _ (.tail _ (.head _)) o e, ⟨_, k2 _ (.head _), rfl, _, rfl⟩⟩
  · rintro i h ⟨⟨old, a1⟩, a2, a3⟩ b hb
    rcases List.mem_cons.mp hb with rfl | hb
    · exact ⟨_, a1⟩
    · rw [List.mem_singleton.mp hb]
      obtain ⟨o, e, _⟩ := a2
      exact ⟨o, e⟩
  · exact lt2 F.ns.lt
  · intro b hb
    rcases List.mem_cons.mp hb with rfl | hb
    · exact fresh _ (Nat.le_succ _)
    · rw [List.mem_singleton.mp hb]
      exact fresh _ (Nat.le_refl _)
  · exact fun p hp => lt2 (Heap.lt_size (N p hp).1)
  · intro i m nx ρ h p hp
    rw [List.mem_singleton.mp hp]
    exact hfix i m nx ρ h
  · rintro i v m nx ρ h tk hin ⟨T, t, z, rfl, hz, hT⟩ hS' hf' hJ' F' N'
    refine wpAny_assign_Tuple hh hT rfl rfl fun h₃ hx₃ => ?_
    replace hx₃ : Heap.ExtBut h.objs.size h h₃ := hx₃
    have up₃ : ∀ b o, h.get? b = some o → h₃.get? b = some o := fun b o e => hx₃ b o (Nat.ne_of_lt (Heap.lt_size e)) e
    have F₃ := F'.keeps up₃
    have N₃ := N'.grown up₃
    show wpAny _ A (do holding [z] (assign (.Name x px) env (.int (i : Int) t)); do holding [] (assign (.Name y py) env z); pure ()) _ _ _
    refine wpAny_bind (wpAny_holding (wpAny_assign_Name (wpAny_storeName_local hx F₃.ns (fun h₄ hn₄ hs₄ => ?_) hp)))
    replace hs₄ : Heap.SameBut env.locals h₃ h₄ := hs₄
    have F₄ := F₃.set hn₄ hs₄
    refine wpAny_bind (wpAny_holding (wpAny_assign_Name (wpAny_storeName_local hy F₄.ns (fun h₅ hn₅ hs₅ => wpAny_pure ?_) hp)))
    replace hs₅ : Heap.SameBut env.locals h₄ h₅ := hs₅
    have F₅ := F₄.set hn₅ hs₅
    have N₅ : News h₀ env.locals h₅ nx := (N₃.set hs₄).set hs₅
    refine wpAny_mono (turn i t z m nx ρ h₅ _ hin hz hS' hf' hJ' F₅ N₅) (fun f s₃ h₃' => ?_) hE
    cases f with
    | ret v => exact hQ _ _ h₃'
    | brk => exact hQ _ _ h₃'
    | next =>
      obtain ⟨h', tk', m', news', ρ', e, r⟩ := h₃'
      exact ⟨h', tk', m', news', ρ', e, r⟩
    | cont =>
      obtain ⟨h', tk', m', news', ρ', e, r⟩ := h₃'
      exact ⟨h', tk', m', news', ρ', e, r⟩
  · intro m nx ρ h tk a b c d e
    exact hQ _ _ (done m nx ρ h tk a b c d e)
end
end PFor
section PRows
open PySem PySem.W PyProof.Rows PySem.Calls
set_option maxRecDepth 100000
set_option maxHeartbeats 2000000
local macro_rules | `(tactic| walk_at "my steps") => `(tactic| repeat' (first | ((fail_if_success (with_reducible show wpAny _ _ (pyIter _) _ _ _)); (fail_if_success (with_reducible show LCg.CompSrc _ _ _ _ _ _ _ _ _ _ _ _ _ _)); (fail_if_success (with_reducible show CellSrc _ _ _ _ _ _ _ _ _ _ _ _ _ _)); (fail_if_success (with_reducible show ForSrc _ _ _ _ _ _ _ _ _ _ _)); (first | (k_unfold; (try dsimp only)) | (k_end; wrow_close) | walk1 | (dsimp only; walk1) | (leave1; walk_say "STEP leave1"; try dsimp only))) | fail "no step"))
local macro_rules | `(tactic| walk_at "eval ListComp") => `(tactic| (k_here; k_dflt (refine LCg.ListComp_U (F₀ := by k_asm) (by with_unfolding_all rfl) (by decide) (by rfl) (by decide) (by rfl) ?_)))
local macro_rules | `(tactic| walk_at "eval ListComp") => `(tactic| (k_here; k_dflt (refine cell_comp (F₀ := by k_asm) (by with_unfolding_all rfl) (fun _ => by rfl) (fun _ => by rfl) (by rfl) (by decide) (by rfl) ?_)))
local macro_rules | `(tactic| walk_at "exec For Name Call cons nil") => `(tactic| (k_here; (rename Fr _ _ _ _ => lF'); (with_unfolding_all refine' for_src lF' ?_); k_whole))
local macro_rules | `(tactic| k_all) => `(tactic| assumption)
local macro_rules | `(tactic| k_room) => `(tactic| ktr_room)
section
variable {w : World} {mean : ExcName → Option Value} {mg mb : Str → Option Value} {dp un : Nat} {gd : Option (List Code)} {cn : Str} {cs : Scope} {a : Addr} {ccd : Value} {cl : List (Str × Addr)} {outer : List Env} {A₀ : Around} {base h₀ : Heap} {L : Addr} {m : Str → Option Value} {news : List (Addr × Obj)} {s : Shared} {Q E : Value → Shared → Prop}
variable {ρ : Addr → Tag} {A B' : Nat → Nat} {D : Nat → Nat → Nat → Option C4} {g fr : Addr} {W H ca cd : Int}
def fullD (D : Dt) : Dt := fun k y x => some ((D k y x).getD (0, 0, 0, 0))
/-- between the turns of _law_rows' loop -/
def RowsI (news : Led) (ρ : Addr → Tag) (cg cp cc P g : Addr) (t : Nat) (A B : Nat → Nat) (D : Dt) (i : Nat) (nx : Led) (ρ' : Addr → Tag) : Prop :=
  Keeps isFrz news ρ nx ρ' ∧ (∃ o, (cg, o) ∈ nx ∧ o.data = .cell (some (.ref g))) ∧ ρ' cg = none ∧ (∃ o v, (cp, o) ∈ nx ∧ o.data = .cell v) ∧ ρ' cp = some (8, 0, 0) ∧ (∃ o v, (cc, o) ∈ nx ∧ o.data = .cell v) ∧ ρ' cc = some (8, 0, 1) ∧ ρ' P = some (6, 0, 0) ∧
    ∃ (qs : List Value) (n : Nat), (P, listOf qs.toArray n) ∈ nx ∧ qs.length = i ∧ ∀ j, j < i → ∃ q, qs[j]? = some (Value.ref q) ∧ PlaneIn nx ρ' t j q (A j) (B j) (fullD D j)
theorem row_frzT (t : Nat) (ht : t < 7) : ∀ k y, ¬ isFrz (some (t, k, y)) := fun k y h => by
  have : t = 7 := by cases h; rfl
  omega
theorem RowsI.keep {cg cp cc P : Addr} {t : Nat} (ht : t < 7) {A B : Nat → Nat} {i : Nat} {nx nx2 : Led} {ρ' ρ2 : Addr → Tag} (h : RowsI news ρ cg cp cc P g t A B D i nx ρ') (K : Keeps isFrz nx ρ' nx2 ρ2) : RowsI news ρ cg cp cc P g t A B D i nx2 ρ2 := by
  obtain ⟨a1, ⟨o1, a2, a3⟩, a4, ⟨o2, v2, b2, b3⟩, b4, ⟨o3, v3, c2, c3⟩, c4, d1, qs, n, e1, e2, e3⟩ := h
  have f1 := K _ a2 (by rw [a4]; exact none_frz)
  have f2 := K _ b2 (by rw [b4]; exact frzN _ (by decide))
  have f3 := K _ c2 (by rw [c4]; exact frzN _ (by decide))
  have f4 := K _ e1 (by rw [d1]; exact frzN _ (by decide))
  exact ⟨a1.trans K, ⟨o1, f1.1, a3⟩, f1.2.trans a4, ⟨o2, v2, f2.1, b3⟩, f2.2.trans b4, ⟨o3, v3, f3.1, c3⟩, f3.2.trans c4, f4.2.trans d1, qs, n, f4.1, e2, fun j hj => let ⟨q, h1, h2⟩ := e3 j hj; ⟨q, h1, h2.keep K none_frz (row_frzT t ht j)⟩⟩
theorem rows_start {cg cp cc P : Addr} {t : Nat} {A B : Nat → Nat} {o1 o2 o3 : Obj} {v2 v3 : Option Value} {n : Nat} (hS : Sep news ρ) (l1 : ∀ p ∈ news, p.1 < cg) (l2 : cg < cp) (l3 : cp < cc) (l4 : cc < P) (h1 : o1.data = .cell (some (.ref g))) (h2 : o2.data = .cell v2) (h3 : o3.data = .cell v3) :
    ∃ ρ', Sep ((P, listOf #[] n) :: (cc, o3) :: (cp, o2) :: (cg, o1) :: news) ρ' ∧ (∀ p ∈ news, ρ' p.1 = ρ p.1) ∧ RowsI news ρ cg cp cc P g t A B D 0 ((P, listOf #[] n) :: (cc, o3) :: (cp, o2) :: (cg, o1) :: news) ρ' := by
  have k1 : cg < cc := Nat.lt_trans l2 l3
  have k2 : cp < P := Nat.lt_trans l3 l4
  have k3 : cg < P := Nat.lt_trans k1 l4
  have eq : ∀ b, b ≠ cp → b ≠ cc → b ≠ P → retag (retag (retag ρ cp (some (8, 0, 0))) cc (some (8, 0, 1))) P (some (6, 0, 0)) b = ρ b := fun b e1 e2 e3 => by rw [retag_ne e3, retag_ne e2, retag_ne e1]
  have eqn : ∀ p ∈ news, retag (retag (retag ρ cp (some (8, 0, 0))) cc (some (8, 0, 1))) P (some (6, 0, 0)) p.1 = ρ p.1 := fun p hp =>
    eq _ (Nat.ne_of_lt (Nat.lt_trans (l1 p hp) l2)) (Nat.ne_of_lt (Nat.lt_trans (l1 p hp) k1)) (Nat.ne_of_lt (Nat.lt_trans (l1 p hp) k3))
  refine ⟨retag (retag (retag ρ cp (some (8, 0, 0))) cc (some (8, 0, 1))) P (some (6, 0, 0)), retag_sep (retag_sep (retag_sep (Sep.cons (Sep.cons (Sep.cons (Sep.cons hS)))) (.tail _ (.tail _ (.head _)))) (.tail _ (.head _))) (.head _), eqn,
    fun p hp _ => ⟨.tail _ (.tail _ (.tail _ (.tail _ hp))), eqn p hp⟩, ⟨o1, .tail _ (.tail _ (.tail _ (.head _))), h1⟩, ?_, ⟨o2, v2, .tail _ (.tail _ (.head _)), h2⟩, ?_, ⟨o3, v3, .tail _ (.head _), h3⟩, ?_, retag_self, [], n, .head _, rfl, fun j hj => absurd hj (Nat.not_lt_zero j)⟩
  · rw [eq _ (Nat.ne_of_lt l2) (Nat.ne_of_lt k1) (Nat.ne_of_lt k3)]
    exact hS.fresh l1
  · rw [retag_ne (Nat.ne_of_lt k2), retag_ne (Nat.ne_of_lt l3)]; exact retag_self
  · rw [retag_ne (Nat.ne_of_lt l4)]; exact retag_self
theorem CellsAre.three {cm : Str → Option Value} {n n' n'' : Str} {c c' c'' : Addr} {cells : List (Addr × Obj)} (x : CellsAre cm [(n, c), (n', c'), (n'', c'')] cells) :
    ∃ o o' o'', cells = [(c, o), (c', o'), (c'', o'')] ∧ o.data = .cell (cm n) ∧ o'.data = .cell (cm n') ∧ o''.data = .cell (cm n'') := by
  cases x with | cons h r => obtain ⟨o', o'', rfl, h', h''⟩ := r.two; exact ⟨_, o', o'', rfl, h, h', h''⟩

theorem cell_step {nx2 nx3 news' : Led} {ρ3 ρ4 : Addr → Tag} {D' : Addr} {z : C4} {u0 u1 u2 u3 : Tok} {n x : Nat} {xs : List Value} {Dy : Nat → Option C4} (k1 : Keeps isFrz nx2 ρ3 nx3 ρ4) (k2 : ∀ x2, x2 < x → ∃ v, xs[x2]? = some v ∧ CellIn nx3 ρ4 v (Dy x2)) (hl : xs.length = x)
    (hsub : ∀ p ∈ nx3, p ∈ news') (hS : Sep news' ρ4) (l1 : ∀ q ∈ news', q.1 < D') (hz : Dy x = some z) :
    Sep ((D', listOf (c4 z u0 u1 u2 u3).toArray n) :: news') ρ4 ∧ (∀ p ∈ nx3, ρ4 p.1 = frz → p ∈ ((D', listOf (c4 z u0 u1 u2 u3).toArray n) :: news') ∧ ρ4 p.1 = frz) ∧ Keeps isFrz nx2 ρ3 ((D', listOf (c4 z u0 u1 u2 u3).toArray n) :: news') ρ4 ∧
      ∀ x2, x2 < x + 1 → ∃ v, (xs ++ [Value.ref D'])[x2]? = some v ∧ CellIn ((D', listOf (c4 z u0 u1 u2 u3).toArray n) :: news') ρ4 v (Dy x2) := by
  have K : Keeps isFrz nx3 ρ4 ((D', listOf (c4 z u0 u1 u2 u3).toArray n) :: news') ρ4 := Keeps.sub fun p hp => .tail _ (hsub p hp)
  refine ⟨Sep.cons hS, fun p hp e => ⟨.tail _ (hsub p hp), e⟩, k1.trans K, fun x2 h => ?_⟩
  by_cases e : x2 < x
  · obtain ⟨v, h1, h2⟩ := k2 x2 e
    exact ⟨v, by rw [List.getElem?_append_left (by omega)]; exact h1, h2.keep K none_frz⟩
  · obtain rfl : x2 = x := by omega
    refine ⟨.ref D', by rw [← hl, List.getElem?_append_right (Nat.le_refl _)]; simp, ?_⟩
    rw [hz]
    exact ⟨D', u0, u1, u2, u3, n, rfl, hS.fresh l1, .head _⟩
theorem row_made {n5 nx2 nx3 : Led} {ρ2 ρ3 ρ4 : Addr → Tag} {ys xs : List Value} {i y t A : Nat} {D2 : Addr} {DD : Nat → Nat → Option C4} (ht : t < 7) (j1 : Keeps isFrz n5 ρ2 nx2 ρ3) (j2 : ∀ y2, y2 < i → ∃ r, ys[y2]? = some (Value.ref r) ∧ RowIn nx2 ρ3 (some (t, y, y2)) r A (DD y2)) (hyl : ys.length = i)
    (k1 : Keeps isFrz nx2 ρ3 nx3 ρ4) (k2 : ∀ x2, x2 < A → ∃ v, xs[x2]? = some v ∧ CellIn nx3 ρ4 v (DD i x2)) (hxl : xs.length = A) (hS : Sep nx3 ρ4) (off : ∀ p ∈ nx3, p.1 ≠ D2) (hf : ∀ p ∈ nx2, ρ3 p.1 = frz → p ∈ nx3 ∧ ρ4 p.1 = frz) :
    ∃ ρ', Sep ((D2, LCg.lst xs) :: nx3) ρ' ∧ (∀ p ∈ nx2, ρ3 p.1 = frz → p ∈ ((D2, LCg.lst xs) :: nx3) ∧ ρ' p.1 = frz) ∧ Keeps isFrz n5 ρ2 ((D2, LCg.lst xs) :: nx3) ρ' ∧
      ∀ y2, y2 < i + 1 → ∃ r, (ys ++ [Value.ref D2])[y2]? = some (Value.ref r) ∧ RowIn ((D2, LCg.lst xs) :: nx3) ρ' (some (t, y, y2)) r A (DD y2) := by
  have K : Keeps isFrz nx3 ρ4 ((D2, LCg.lst xs) :: nx3) (retag ρ4 D2 (some (t, y, i))) := (retag_keep off).trans cons_keep
  refine ⟨retag ρ4 D2 (some (t, y, i)), retag_sep (Sep.cons hS) (.head _), fun p hp e => ⟨.tail _ (hf p hp e).1, (retag_ne (off p (hf p hp e).1)).trans (hf p hp e).2⟩, (j1.trans k1).trans K, fun y2 h => ?_⟩
  by_cases e : y2 < i
  · obtain ⟨r, h1, h2⟩ := j2 y2 e
    exact ⟨r, by rw [List.getElem?_append_left (by omega)]; exact h1, (h2.keep k1 none_frz (row_frzT t ht _ _)).keep K none_frz (row_frzT t ht _ _)⟩
  · obtain rfl : y2 = i := by omega
    refine ⟨D2, by rw [← hyl, List.getElem?_append_right (Nat.le_refl _)]; simp, retag_self, xs, xs.length, .head _, hxl, fun x hx => ?_⟩
    obtain ⟨v, h1, h2⟩ := k2 x hx
    exact ⟨v, h1, h2.keep K none_frz⟩
theorem plane_madeT {nx2 n9 : Led} {ρ3 : Addr → Tag} {ys : List Value} {D2 : Addr} {t A B y : Nat} {Dk : Nat → Nat → Option C4} (ht : t < 6) (hS : Sep nx2 ρ3) (offD : ∀ p ∈ nx2, p.1 ≠ D2) (hyl : ys.length = B)
    (j2 : ∀ y2, y2 < B → ∃ r, ys[y2]? = some (Value.ref r) ∧ RowIn nx2 ρ3 (some (t, y, y2)) r A (Dk y2)) (K9 : Keeps (isTag (some (6, 0, 0))) ((D2, LCg.lst ys) :: nx2) ρ3 n9 ρ3) : PlaneIn n9 ρ3 t y D2 A B Dk := by
  have K0 : Keeps isFrz nx2 ρ3 ((D2, LCg.lst ys) :: nx2) ρ3 := cons_keep
  have p : PlaneIn ((D2, LCg.lst ys) :: nx2) ρ3 t y D2 A B Dk := ⟨hS.off offD, ys, ys.length, .head _, hyl, fun y2 h => let ⟨r, e1, e2⟩ := j2 y2 h; ⟨r, e1, e2.keep K0 none_frz (row_frzT t (by omega) _ _)⟩⟩
  exact p.keep K9 none_tag fun _ h => by
    have : t = 6 := by cases h; rfl
    omega
theorem rows_turn {nx n3 n5 nx2 n9 : Led} {ρ2 ρ3 : Addr → Tag} {cg cp cc P D2 : Addr} {t : Nat} {A B : Nat → Nat} {y nq : Nat} {qs ys : List Value} {og op3 oc5 : Obj} {v2 v3 : Option Value} (ht : t < 6)
    (hN : ∀ a, ρ a ≠ some (8, 0, 0) ∧ ρ a ≠ some (8, 0, 1) ∧ ρ a ≠ some (6, 0, 0)) (a1 : Keeps isFrz news ρ nx ρ2) (a3 : og.data = .cell (some (.ref g))) (a4 : ρ2 cg = none) (b4 : ρ2 cp = some (8, 0, 0)) (c4' : ρ2 cc = some (8, 0, 1)) (e0 : ρ2 P = some (6, 0, 0)) (e2 : qs.length = y)
    (e3 : ∀ j, j < y → ∃ q, qs[j]? = some (Value.ref q) ∧ PlaneIn nx ρ2 t j q (A j) (B j) (fullD D j)) (K3 : Keeps (isTag (some (8, 0, 0))) nx ρ2 n3 ρ2) (hd3 : op3.data = .cell v2) (K5 : Keeps (isTag (some (8, 0, 1))) n3 ρ2 n5 ρ2) (hd5 : oc5.data = .cell v3)
    (hfz3 : ∀ p ∈ n5, ρ2 p.1 = frz → p ∈ nx2 ∧ ρ3 p.1 = frz) (j1 : Keeps isFrz n5 ρ2 nx2 ρ3) (hS3 : Sep nx2 ρ3) (offD : ∀ p ∈ nx2, p.1 ≠ D2) (hyl : ys.length = B y)
    (j2 : ∀ y2, y2 < B y → ∃ r, ys[y2]? = some (Value.ref r) ∧ RowIn nx2 ρ3 (some (t, y, y2)) r (A y) (fullD D y y2))
    (z1 : (cg, og) ∈ nx2 ∧ ρ3 cg = ρ2 cg) (z2 : (cp, op3) ∈ nx2 ∧ ρ3 cp = ρ2 cp) (z3 : (cc, oc5) ∈ nx2 ∧ ρ3 cc = ρ2 cc) (z4 : ρ3 P = ρ2 P)
    (m9 : (P, listOf (qs ++ [Value.ref D2]).toArray (nq + 1)) ∈ n9) (K9 : Keeps (isTag (some (6, 0, 0))) ((D2, LCg.lst ys) :: nx2) ρ3 n9 ρ3) :
    (∀ p ∈ nx, ρ2 p.1 = frz → p ∈ n9 ∧ ρ3 p.1 = frz) ∧ RowsI news ρ cg cp cc P g t A B D (y + 1) n9 ρ3 := by
  have ne1 : ∀ {t : Tag}, t = frz → ¬ isTag (some (8, 0, 0)) t := fun h q => by rw [h] at q; cases q
  have ne2 : ∀ {t : Tag}, t = frz → ¬ isTag (some (8, 0, 1)) t := fun h q => by rw [h] at q; cases q
  have ne3 : ∀ {t : Tag}, t = frz → ¬ isTag (some (6, 0, 0)) t := fun h q => by rw [h] at q; cases q
  have f1 := z1.2.trans a4
  have f2 := z2.2.trans b4
  have f3 := z3.2.trans c4'
  have f4 := z4.trans e0
  have tn : ∀ (k : Nat) (q : Nat × Nat), 6 ≤ k → ∀ y, ¬ isTag (some (k, q)) (some (t, y)) := fun k q hk y h => by
    have : t = k := by cases h; rfl
    omega
  refine ⟨fun p hp e => ?_, fun p hp hb => ?_, ⟨og, (K9 _ (.tail _ z1.1) (by rw [f1]; exact none_tag)).1, a3⟩, f1, ⟨op3, v2, (K9 _ (.tail _ z2.1) (by rw [f2]; intro h; cases h)).1, hd3⟩, f2, ⟨oc5, v3, (K9 _ (.tail _ z3.1) (by rw [f3]; intro h; cases h)).1, hd5⟩, f3, f4, _, _, m9, by simp [e2], fun j hj => ?_⟩
  · have h1 := K3 p hp (ne1 e)
    have h2 := K5 p h1.1 (ne2 (h1.2.trans e))
    have h3 := hfz3 p h2.1 (h2.2.trans (h1.2.trans e))
    exact ⟨(K9 p (.tail _ h3.1) (ne3 h3.2)).1, h3.2⟩
  · have h1 := a1 p hp hb
    have h2 := K3 p h1.1 (by rw [h1.2]; exact (hN p.1).1)
    have h3 := K5 p h2.1 (by rw [h1.2]; exact (hN p.1).2.1)
    have h4 := j1 p h3.1 (by rw [h1.2]; exact hb)
    have h5 := h4.2.trans h1.2
    exact ⟨(K9 p (.tail _ h4.1) (by rw [h5]; exact (hN p.1).2.2)).1, h5⟩
  · by_cases e : j < y
    · obtain ⟨q, h1, h2⟩ := e3 j e
      refine ⟨q, by rw [List.getElem?_append_left (by omega)]; exact h1, ?_⟩
      have h3 := h2.keep K3 none_tag fun y => tn 8 _ (by decide) _
      have h4 := h3.keep K5 none_tag fun y => tn 8 _ (by decide) _
      have h5 := h4.keep j1 none_frz (row_frzT t (by omega) _)
      exact (h5.keep (cons_keep (bad := isFrz)) none_frz (row_frzT t (by omega) _)).keep K9 none_tag fun y => tn 6 _ (by decide) _
    · obtain rfl : j = y := by omega
      exact ⟨D2, by rw [← e2, List.getElem?_append_right (Nat.le_refl _)]; simp, plane_madeT ht hS3 offD hyl j2 K9⟩
theorem rows_end {nx : Led} {ρ2 : Addr → Tag} {cg cp cc P : Addr} {t : Nat} {A B : Nat → Nat} (ht : t < 6) (hI : RowsI news ρ cg cp cc P g t A B D 2 nx ρ2) (hS : Sep nx ρ2) (hP : ∀ p ∈ news, p.1 ≠ P) (hf : ∀ p ∈ news, ρ p.1 = frz → p ∈ nx ∧ ρ2 p.1 = frz) :
    ∃ ρ', Sep nx ρ' ∧ TabIn nx ρ' t P A B (fullD D) ∧ Keeps never news ρ nx ρ' := by
  obtain ⟨a1, _, _, _, _, _, _, a9, qs, n, b1, b2, b3⟩ := hI
  have K : Keeps (isTag (some (6, 0, 0))) nx ρ2 nx (retag ρ2 P none) := retag_keepT a9
  obtain ⟨q0, c0, d0⟩ := b3 0 (by decide)
  obtain ⟨q1, c1, d1⟩ := b3 1 (by decide)
  obtain rfl := list_two b2 c0 c1
  have tn : ∀ k y, ¬ isTag (some (6, 0, 0)) (some (t, k, y)) := fun k y h => by
    have : t = 6 := by cases h; rfl
    omega
  refine ⟨retag ρ2 P none, untag_sep hS, ⟨retag_self, q0, q1, n, b1, d0.keep K none_tag (tn _), d1.keep K none_tag (tn _)⟩, fun p hp _ => ?_⟩
  rw [retag_ne (hP p hp)]
  by_cases e : ρ p.1 = frz
  · exact ⟨(hf p hp e).1, (hf p hp e).2.trans e.symm⟩
  · exact a1 p hp e
theorem map_st {α : Type} {z y : Str} {a d e : α} {st : List Str} (hst : st = [y]) (h2 : st.contains z = false) : (if z = y then a else if st.contains z then d else e) = e := by
  have h3 : z ≠ y := by
    intro q
    subst q
    subst hst
    simp at h2
  rw [if_neg h3, if_neg (by rw [h2]; exact Bool.false_ne_true)]

theorem rows_start_k {P' : Prop} {g' h : Heap} {L' : Addr} {cg cp cc P : Addr} {t : Nat} {A B : Nat → Nat} {o1 o2 o3 : Obj} {v2 v3 : Option Value} {n : Nat} (N : News g' L' h ((P, listOf #[] n) :: (cc, o3) :: (cp, o2) :: (cg, o1) :: news)) (hS : Sep news ρ) (l1 : ∀ p ∈ news, p.1 < cg) (l2 : cg < cp) (l3 : cp < cc) (l4 : cc < P) (h1 : o1.data = .cell (some (.ref g))) (h2 : o2.data = .cell v2) (h3 : o3.data = .cell v3)
    (k : ∀ n1 ρ', News g' L' h n1 → Sep n1 ρ' → (∀ p ∈ news, p ∈ n1 ∧ ρ' p.1 = ρ p.1) → RowsI news ρ cg cp cc P g t A B D 0 n1 ρ' → P') : P' := by
  obtain ⟨ρ', a, b, c⟩ := rows_start (g := g) (t := t) (A := A) (B := B) (D := D) (n := n) hS l1 l2 l3 l4 h1 h2 h3
  exact k _ ρ' N a (fun p hp => ⟨.tail _ (.tail _ (.tail _ (.tail _ hp))), b p hp⟩) c
set_option maxHeartbeats 4000000 in
theorem rows_call (t : Nat) (ht6 : t < 6)
  (B : Below A₀ base outer h₀) (F : Fr h₀ L s.heap m) (X : (hd.heap_39 w.params).In h₀) (N : News h₀ L s.heap news) (T : Top hd.view_39 (looseW hd.view_39 []) mean mg mb h₀) (hk : cs.kind = .function) (hd : dp + 16 < recursionLimit)
  (hS : Sep news ρ) (hG : GridIn w news ρ g (pA W ca) (pA H cd) D) (hF : FrameIn w news ρ fr W H ca cd) (hb : FB W H ca cd) (hN : ∀ a, ρ a ≠ some (8, 0, 0) ∧ ρ a ≠ some (8, 0, 1) ∧ ρ a ≠ some (6, 0, 0)) (hB : ∀ k, pA W ca k < 1000 ∧ pA H cd k < 1000)
  (ret : ∀ P news' ρ' h' tk', Sep news' ρ' → TabIn news' ρ' t P (pA W ca) (pA H cd) (fullD D) → Keeps never news ρ news' ρ' → Fr h₀ L h' m → News h₀ L h' news' → Q (.ref P) {s with heap := h', toks := tk'}) :
  wpAny (model PySem.Challenge.rw_xm0815_01.row.prog w) (ktrTop dp un gd cn cs L a ccd cl outer) (call (.ref 188) [.ref g, .ref fr]) Q E s := by
  obtain ⟨w0, w1, x0, x1, v0, v1, y0, y1⟩ := id hb
  have ht : t < 7 := by omega
  refine wpAny_call ?_
  k_dflt (refine' code_defC ?k1 ?k2 ?k3 ?k4 ?k5 ?kA ?kF ?kK ?k6 ?k7 ?k8 ?k9 ?kB ?kD ?_ ?c2 ?c3 ?c4)
  case kA => exact rfl
  case kF => exact rfl
  case kK => exact hk
  case k1 => k_asm
  case k2 => k_asm
  case k3 => k_asm
  case k4 => k_asm
  case k5 => k_asm
  case k6 => k_dflt k_is
  case k7 => k_dflt k_is
  case k8 => ktr_room
  case k9 => exact BindsTo.of_eq rfl
  case kB => exact rfl
  case kD => decide +kernel
  case c2 => exact rfl
  case c3 => exact rfl
  case c4 => exact rfl
  intro g' L' h' tk' cells' FG' F' N' Y' B' X' T' l1'
  (try k_fold)
  have hY := CellsAre.three Y'
  obtain ⟨o3, o2, o1, hE', d3, d2, d1⟩ := hY
  subst hE'
  clear Y'
  (try simp only [List.cons_append, List.nil_append] at N')
  have Fe : Fr g' L' h' (fun y => if y = Str.ofString "frame" then some (.ref fr) else none) := by with_unfolding_all exact F'
  clear F'
  (try dsimp only)
  (try k_lift B')
  (try k_fold)
  walk_at "my steps"
  rename IsRange _ _ _ _ _ _ _ _ => R1
  rename Fr _ _ _ _ => F1
  rename News _ _ _ _ => N1
  rename (_ ∧ _ ∧ _ ∧ AllLt _ _) => hl9
  have ld := hl9.2.2.2
  refine rows_start_k (t := t) (D := D) (cg := L' + 1) (cp := L' + 2) (cc := L' + 3) (A := pA W ca) (B := pA H cd) N1 hS (fun p hp => Nat.lt_succ_of_lt (l1' p hp)) (Nat.lt_succ_self _) (Nat.lt_succ_self _) hl9.1 d1 d2 d3 fun n1 ρ1 NN1 hS1 hp1 hI1 => ?_
  clear N1
  refine ForSrc.rangeS 2 [Str.ofString "down"] (fun k nx ρ' => RowsI news ρ (L' + 1) (L' + 2) (L' + 3) _ g t (pA W ca) (pA H cd) D k nx ρ') rfl R1 rfl (by omega) F1 NN1 hS1 hI1 (fun _ _ _ _ _ h K => h.keep ht K) ?_ ?_
  · intro y ty uy nx ρ2 hh tkk hy hS2 hfz2 hI2 F2 N2
    (try k_fold)
    obtain ⟨a1, ⟨og, a2, a3⟩, a4, ⟨op, vp, b2, b3⟩, b4, ⟨oc, vc, c2, c3⟩, c4, e0, qs, nq, e1, e2, e3⟩ := hI2
    have hF2 := hF.keep a1 none_frz
    have hG2 := hG.keep a1 none_frz row_frz
    clear hI1 hp1 hfz2 NN1 R1 F1 hS hF hG
    (try k_fold)
    walk_at "my steps"
    refine store_cellT (o := op) (v₀ := vp) (news := nx) F2 N2 (fun p hp => hp) hS2 rfl b2 b3 b4 ?_
    intro h3 op3 n3 F3 N3 hd3 cp3 S3 K3
    (try k_fold)
    have cg3 := (K3 _ a2 (by rw [a4]; exact none_tag)).1
    have cc3 := (K3 _ c2 (by rw [c4]; intro h; cases h)).1
    have pf3 := (K3 _ e1 (by rw [e0]; intro h; cases h)).1
    have hF3 := hF2.keep K3 none_tag
    have hG3 := hG2.keep K3 none_tag fun _ _ h => by cases h
    obtain ⟨dfr2, l2, kf2, tf2, m12, m22⟩ := hF3.inst
    clear a2 b2 b3 c2 e1 hF2 hG2 F2 N2
    (try dsimp only)
    (try k_fold)
    walk_at "my steps"
    rename Fr _ _ _ _ => F4
    rename News _ _ _ _ => N4
    refine store_cellT (o := oc) (v₀ := vc) (news := n3) F4 N4 (fun p hp => List.Mem.tail _ hp) S3 rfl cc3 c3 c4 ?_
    intro h5 oc5 n5 F5 N5 hd5 cc5 S5 K5
    (try k_fold)
    have cg5 := (K5 _ cg3 (by rw [a4]; exact none_tag)).1
    have cp5 := (K5 _ cp3 (by rw [b4]; intro h; cases h)).1
    have pf5 := (K5 _ pf3 (by rw [e0]; intro h; cases h)).1
    have hG5 := hG3.keep K5 none_tag fun _ _ h => by cases h
    clear F4 N4 cg3 cp3 cc3 pf3 c3 hF3 hG3 m12 m22
    (try dsimp only)
    (try k_fold)
    walk_at "my steps"
    rename IsRange _ _ _ _ _ _ _ _ => R7
    rename Fr _ _ _ _ => F7
    rename News _ _ _ _ => N7
    have q2 := dimsN x0 x1 y0 y1 (k := y) (by omega)
    have q1 := dimsN w0 w1 v0 v1 (k := y) (by omega)
    have ey : ((y : Nat) : Int).toNat = y := rfl
    rw [ey] at hd5
    refine CellSrc.range (pA H cd y) (fun i ys nx2 ρ' => Keeps isFrz n5 ρ2 nx2 ρ' ∧ ∀ y2, y2 < i → ∃ r, ys[y2]? = some (Value.ref r) ∧ RowIn nx2 ρ' (some (t, y, y2)) r (pA W ca y) (fullD D y y2)) rfl R7 (by rw [ey]) (by omega) F7 N7 S5 ⟨Keeps.sub fun _ h => h, fun y2 h => absurd h (Nat.not_lt_zero _)⟩ ?_ ?_ ?_
    · rintro i ys nx2 ρ3 nx4 ρ4 ⟨j1, j2⟩ K
      exact ⟨j1.trans K, fun y2 h => let ⟨r, e1, e2⟩ := j2 y2 h; ⟨r, e1, e2.keep K none_frz (row_frzT t ht _ _)⟩⟩
    · intro i ys ti C c oi nx2 ρ3 hh2 tk2 E' hi hyl hS3 hfz3 hJ hC hρC hdi F8 N8
      (try k_fold)
      obtain ⟨j1, j2⟩ := hJ
      have cg8 := (j1 _ cg5 (by rw [a4]; exact none_frz)).1
      have cp8 := (j1 _ cp5 (by rw [b4]; exact frzN _ (by decide))).1
      have cc8 := (j1 _ cc5 (by rw [c4]; exact frzN _ (by decide))).1
      have tg8 := (j1 _ cg5 (by rw [a4]; exact none_frz)).2.trans a4
      have tp8 := (j1 _ cp5 (by rw [b4]; exact frzN _ (by decide))).2.trans b4
      have hG8 := hG5.keep j1 none_frz row_frz
      clear F7 N7 R7 S5 cg5 cp5 cc5 pf5 hG5 K5 K3 hfz3
      (try k_fold)
      walk_at "my steps"
      rename IsRange _ _ _ _ _ _ _ _ => R9
      rename Fr _ _ _ _ => F9
      rename News _ _ _ _ => N9
      refine comp_range (pA W ca y) (fun x xs nx3 ρ' => Keeps isFrz nx2 ρ3 nx3 ρ' ∧ ∀ x2, x2 < x → ∃ v, xs[x2]? = some v ∧ CellIn nx3 ρ' v (fullD D y i x2)) rfl R9 (by rfl) (by omega) F9 N9 hS3 ⟨Keeps.sub fun _ h => h, fun y2 h => absurd h (Nat.not_lt_zero _)⟩ ?_ ?_ ?_
      · rintro x xs nx3 ρ4 nx4 ρ5 ⟨k1, k2⟩ K
        exact ⟨k1.trans K, fun x2 h => let ⟨v, e1, e2⟩ := k2 x2 h; ⟨v, e1, e2.keep K none_frz⟩⟩
      · intro x xs tx C2 oC2 m2 nx3 ρ4 hh3 tk3 E2 hx hxl hS4 hfz4 hJ4 hC2 hρC2 hoC2 hxv F10 N10
        (try k_fold)
        obtain ⟨k1, k2⟩ := hJ4
        have cg10 := (k1 _ cg8 (by rw [tg8]; exact none_frz)).1
        have cp10 := (k1 _ cp8 (by rw [tp8]; exact frzN _ (by decide))).1
        have ci10 := (hfz4 _ hC hρC).1
        have hG10 := hG8.keep k1 none_frz row_frz
        obtain ⟨dg, P9, k09, k19, t09, g1, g2⟩ := hG10.inst
        have hi2 : i < pA H cd ((y : Nat) : Int).toNat := by rw [ey]; exact hi
        have hx2 : x < pA W ca ((y : Nat) : Int).toNat := by rw [ey]; exact hx
        clear F9 N9 R9 cg8 cp8 cc8 hG8 hS3
        (try k_fold)
        walk_at "my steps"
        rename Fr _ _ _ _ => F11
        rename News _ _ _ _ => N11
        rename (∀ q ∈ _, _ < _) => l11
        rename (∀ p, p ∈ nx3 → p ∈ _) => sub11
        rename Sep _ ρ4 => S11
        rename (_ = Option.getD _ _) => z11
        obtain ⟨s1, s2, s3, s4⟩ := cell_step (u0 := _) (u1 := _) (u2 := _) (u3 := _) (n := _) k1 k2 hxl sub11 S11 l11 (congrArg some z11).symm
        exact ⟨_, _, _, ρ4, rfl, F11, N11, s1, s2, s3, s4⟩
      · intro xs nx3 ρ4 D2 hh3 tk3 hxl hS4 hfz4 hJ4 F10 N10 offD2
        (try k_fold)
        obtain ⟨k1, k2⟩ := hJ4
        clear F9 N9 R9
        (try dsimp only)
        walk_at "my steps"
        obtain ⟨ρ', s1, s2, s3, s4⟩ := row_made ht j1 j2 hyl k1 k2 hxl hS4 offD2 hfz4
        exact ⟨_, _, _, ρ', rfl, F10, N10, s1, s2, s3, s4⟩
    · intro ys nx2 ρ3 D2 hh2 tk2 hyl hS3 hfz3 hJ F8 N8 offD2
      (try k_fold)
      obtain ⟨j1, j2⟩ := hJ
      have z1 := j1 _ cg5 (by rw [a4]; exact none_frz)
      have z2 := j1 _ cp5 (by rw [b4]; exact frzN _ (by decide))
      have z3 := j1 _ cc5 (by rw [c4]; exact frzN _ (by decide))
      have z4 := j1 _ pf5 (by rw [e0]; exact frzN _ (by decide))
      clear F7 N7 R7
      (try dsimp only)
      (try k_fold)
      walk_at "my steps"
      refine append_memT (vs := qs) (n := nq) (ρ := ρ3) F8 N8 (Sep.cons hS3) (List.Mem.tail _ z4.1) (by omega) (z4.2.trans e0) ?_
      intro h9 n9 F9 N9 m9 S9 K9
      (try k_fold)
      clear F8 N8
      obtain ⟨t1, t2⟩ := rows_turn ht6 hN a1 a3 a4 b4 c4 e0 e2 e3 K3 hd3 K5 hd5 hfz3 j1 hS3 offD2 hyl j2 z1 z2 z3 z4.2 m9 K9
      (try dsimp only)
      (try k_fold)
      walk_at "my steps"
      exact turn_end2 F9 N9 S9 t1 ⟨fun z h2 => map_st rfl h2, t2⟩
  · intro uy nx ρ2 hh tkk hS2 hfz2 hI2 F2 N2
    (try k_fold)
    clear F1 NN1 R1
    (try dsimp only)
    (try k_fold)
    walk_at "my steps"
    obtain ⟨ρ', s1, s2, s3⟩ := rows_end ht6 hI2 hS2 (fun p hp => Nat.ne_of_lt (allLt_mem ld p hp)) (fun p hp e => hfz2 p (hp1 p hp).1 ((hp1 p hp).2.trans e))
    exact ret _ nx ρ' _ _ s1 s2 s3 (by k_asm) (by k_asm)
end
end PRows
section PLawK
open PySem PySem.W PyProof.Rows PySem.Calls
set_option maxRecDepth 100000
set_option maxHeartbeats 2000000
local macro_rules | `(tactic| k_all) => `(tactic| assumption)
local macro_rules | `(tactic| k_room) => `(tactic| ktr_room)
local macro_rules | `(tactic| walk_at "my lt") => `(tactic| first | assumption | (rename AllLt _ _ => hl9; exact allLt_mem hl9) | (rename (_ ∧ AllLt _ _) => hl9; exact allLt_mem hl9.2))
section
variable {w : World} {mean : ExcName → Option Value} {mg mb : Str → Option Value} {dp un : Nat} {gd : Option (List Code)} {cn : Str} {cs : Scope} {a : Addr} {ccd : Value} {cl : List (Str × Addr)} {outer : List Env} {A₀ : Around} {base h₀ : Heap} {L : Addr} {m : Str → Option Value} {news : List (Addr × Obj)} {s : Shared} {Q E : Value → Shared → Prop}
variable {ρ : Addr → Tag} {A B' : Nat → Nat} {D : Nat → Nat → Nat → Option C4} {g fr barn : Addr} {W H ca cd : Int}
theorem straw_tag {y : Int} {ty : Tok}
  (B : Below A₀ base outer h₀) (F : Fr h₀ L s.heap m) (X : (hd.heap_39 w.params).In h₀) (N : News h₀ L s.heap news) (T : Top hd.view_39 (looseW hd.view_39 []) mean mg mb h₀) (hk : cs.kind = .function) (hd : dp + 3 < recursionLimit)
  (hS : Sep news ρ) (hb : BarnIn news ρ barn) (hy : 1 ≤ y) (hy2 : y ≤ 1000)
  (ret : ∀ r t news' h' tk', 0 ≤ r → r < y → Sep news' ρ → BarnIn news' ρ barn → Keeps (isTag (some (9, 0, 0))) news ρ news' ρ → Fr h₀ L h' m → News h₀ L h' news' → Q (.int r t) {s with heap := h', toks := tk'}) :
  wpAny (model PySem.Challenge.rw_xm0815_01.row.prog w) (ktrTop dp un gd cn cs L a ccd cl outer) (call (.ref 183) [.ref barn, .int y ty]) Q E s := by
  obtain ⟨v0, v1, t0, t1, n, hm, h0, h1, h2, e⟩ := hb
  refine straw_call B F X N T hk hd hm h0 h1 h2 hy hy2 ?_
  intro r u0 u1 t t0' t1' h' tk' a1 a2 a3 a4 a5 F' N'
  refine ret r t _ h' tk' a1 a2 (upd_sep hS) ⟨u0, u1, t0', t1', n, .head _, a3, a4, a5, e⟩ (upd_keep e) F' (N' ((barn, listOf [.int u0 t0', .int u1 t1'].toArray n) :: restOf barn news) fun p hp => ?_)
  rcases List.mem_cons.mp hp with h | h
  · exact .inl h
  · exact .inr ⟨restOf_mem p h, restOf_ne p h⟩
theorem put_call4 {i j x : Int} {ti tj tx : Tok} {b : Addr} {z0 z1 z2 z3 : Int} {u0 u1 u2 u3 : Tok} {n4 : Nat}
  (B : Below A₀ base outer h₀) (F : Fr h₀ L s.heap m) (X : (hd.heap_39 w.params).In h₀) (N : News h₀ L s.heap news) (T : Top hd.view_39 (looseW hd.view_39 []) mean mg mb h₀) (hk : cs.kind = .function) (hd : dp + 3 < recursionLimit)
  (hS : Sep news ρ) (hG : GridIn w news ρ g A B' D) (hB : ∀ k, A k < 1000 ∧ B' k < 1000)
  (m5 : (b, listOf [Value.int z0 u0, Value.int z1 u1, Value.int z2 u2, Value.int z3 u3].toArray n4) ∈ news) (hb : ρ b = none)
  (hi0 : 0 ≤ i) (hi1 : i < 2) (hj0 : 0 ≤ j) (hj1 : j < B' i.toNat) (hx0 : 0 ≤ x) (hx1 : x < A i.toNat)
  (ret : ∀ news' h' tk', Sep news' ρ → GridIn w news' ρ g A B' (upd D i.toNat j.toNat x.toNat (some (z0, z1, z2, z3))) → (∀ p ∈ news, ρ p.1 ≠ some (0, i.toNat, j.toNat) → p ∈ news') → Fr h₀ L h' m → News h₀ L h' news' → Q .none {s with heap := h', toks := tk'}) :
  wpAny (model PySem.Challenge.rw_xm0815_01.row.prog w) (ktrTop dp un gd cn cs L a ccd cl outer) (call (.ref 162) [.ref g, .int i ti, .int x tx, .int j tj, .ref b]) Q E s :=
  put_call (z := (z0, z1, z2, z3)) B F X N T hk hd hS hG hB m5 hb hi0 hi1 hj0 hj1 hx0 hx1 ret
def CompIn (w : World) (news : Led) (ρ : Addr → Tag) (c : Addr) (i x y : Int) : Prop := ∃ d k t, ρ c = none ∧ ρ d = none ∧ (c, instObj 59 d) ∈ news ∧ (d, compD w i x y k t) ∈ news
theorem CompIn.keep {n1 n2 : Led} {ρ1 ρ2 : Addr → Tag} {bad : Tag → Prop} {c : Addr} {i x y : Int} (K : Keeps bad n1 ρ1 n2 ρ2) (h0 : ¬ bad none) (h : CompIn w n1 ρ1 c i x y) : CompIn w n2 ρ2 c i x y := by
  obtain ⟨d, k, t, e1, e2, m1, m2⟩ := h
  have k1 := K _ m1 (by rw [e1]; exact h0)
  have k2 := K _ m2 (by rw [e2]; exact h0)
  exact ⟨d, k, t, k1.2.trans e1, k2.2.trans e2, k1.1, k2.1⟩
theorem CompIn.mono {n1 n2 : Led} {c : Addr} {i x y : Int} (h : CompIn w n1 ρ c i x y) (hs : ∀ p ∈ n1, p ∈ n2) : CompIn w n2 ρ c i x y := CompIn.keep (bad := never) (Keeps.sub hs) id h
theorem comp_made {c d : Addr} {i x y : Int} {a0 a1 a2 a3 b0 b1 b2 b3 : Tok} (hS : Sep news ρ) (l1 : ∀ p ∈ news, p.1 < d) (l2 : d < c) :
    Sep ((c, instObj 59 d) :: (d, dictOf [ent w (Str.ofString "ident") a0 (.int i b0), ent w (Str.ofString "across") a1 (.int x b1), ent w (Str.ofString "down") a2 (.int y b2), ent w (Str.ofString "quant") a3 (.int 0 b3)] 4) :: news) ρ ∧
    CompIn w ((c, instObj 59 d) :: (d, dictOf [ent w (Str.ofString "ident") a0 (.int i b0), ent w (Str.ofString "across") a1 (.int x b1), ent w (Str.ofString "down") a2 (.int y b2), ent w (Str.ofString "quant") a3 (.int 0 b3)] 4) :: news) ρ c i x y :=
  ⟨Sep.cons (Sep.cons hS), d, fun i => [a0, a1, a2, a3].getD i.val 0, fun i => [b0, b1, b2, b3].getD i.val 0, hS.fresh fun p hp => Nat.lt_trans (l1 p hp) l2, hS.fresh l1, .head _, .tail _ (.head _)⟩
theorem comp_call {i x y : Int} {ti tx ty tq : Tok}
  (B : Below A₀ base outer h₀) (F : Fr h₀ L s.heap m) (X : (hd.heap_39 w.params).In h₀) (N : News h₀ L s.heap news) (T : Top hd.view_39 (looseW hd.view_39 []) mean mg mb h₀) (hk : cs.kind = .function) (hd : dp + 6 < recursionLimit)
  (hS : Sep news ρ)
  (ret : ∀ c news' h' tk', Sep news' ρ → CompIn w news' ρ c i x y → (∀ p ∈ news, p ∈ news') → Fr h₀ L h' m → News h₀ L h' news' → Q (.ref c) {s with heap := h', toks := tk'}) :
  wpAny (model PySem.Challenge.rw_xm0815_01.row.prog w) (ktrTop dp un gd cn cs L a ccd cl outer) (call (.ref 59) [.int i ti, .int x tx, .int y ty, .int 0 tq]) Q E s := by
  k_dflt (refine' call_cls ?k1 ?k2 ?k3 ?k4 ?k5 ?k6 ?_)
  case k1 => k_asm
  case k2 => k_asm
  case k3 => k_asm
  case k4 => k_dflt k_is
  case k5 => k_dflt k_is
  case k6 => k_dflt k_is
  intro g dg hg F9 N9 lg1 lg2
  have hne1 : ∀ p ∈ news, p.1 ≠ dg := fun p hp => Nat.ne_of_lt (lg1 p hp)
  have u3 := ltN (a := dg) (b := g) lg2
  k_dflt ktr_enter
  k_steps
  rename Fr _ _ _ _ => F8
  rename News _ _ _ _ => N8
  exact ret g _ _ _ (comp_made hS lg1 lg2).1 (comp_made hS lg1 lg2).2 (fun p hp => List.Mem.tail _ (List.Mem.tail _ hp)) F8 N8
theorem frame_made {f d l c0 c1 : Addr} {n : Nat} {a0 a1 a2 a3 a4 a5 b0 b1 b2 b3 b5 : Tok} (hS : Sep news ρ) (l1 : ∀ p ∈ news, p.1 < d) (l2 : d < f) (hl : (l, listOf [Value.ref c0, .ref c1].toArray n) ∈ news) (hρ : ρ l = none) (h0 : CompIn w news ρ c0 1 ca cd) (h1 : CompIn w news ρ c1 2 1 1) :
    Sep ((f, instObj 125 d) :: (d, dictOf [ent w (Str.ofString "kind") a0 (.str (Str.ofString "baseline") b0), ent w (Str.ofString "precision") a1 (.int 8 b1), ent w (Str.ofString "height") a2 (.int H b2), ent w (Str.ofString "width") a3 (.int W b3), ent w (Str.ofString "components") a4 (.ref l), ent w (Str.ofString "n") a5 (.int 2 b5)] 6) :: news) ρ ∧
    FrameIn w ((f, instObj 125 d) :: (d, dictOf [ent w (Str.ofString "kind") a0 (.str (Str.ofString "baseline") b0), ent w (Str.ofString "precision") a1 (.int 8 b1), ent w (Str.ofString "height") a2 (.int H b2), ent w (Str.ofString "width") a3 (.int W b3), ent w (Str.ofString "components") a4 (.ref l), ent w (Str.ofString "n") a5 (.int 2 b5)] 6) :: news) ρ f W H ca cd := by
  obtain ⟨d0, k0, t0, e1, e2, m1, m2⟩ := h0
  obtain ⟨d1, k1, t1, f1, f2, p1, p2⟩ := h1
  exact ⟨Sep.cons (Sep.cons hS), d, l, c0, c1, d0, d1, fun i => [a0, a1, a2, a3, a4, a5].getD i.val 0, fun i => [b0, b1, b2, b3, 0, b5].getD i.val 0, k0, t0, k1, t1, n,
    ⟨.head _, .tail _ (.head _), .tail _ (.tail _ hl), .tail _ (.tail _ m1), .tail _ (.tail _ m2), .tail _ (.tail _ p1), .tail _ (.tail _ p2)⟩, hS.fresh fun p hp => Nat.lt_trans (l1 p hp) l2, hS.fresh l1, hρ, e1, f1, e2, f2⟩
theorem frame_call {l c0 c1 : Addr} {n : Nat} {t0 t1 t2 t3 t5 : Tok}
  (B : Below A₀ base outer h₀) (F : Fr h₀ L s.heap m) (X : (hd.heap_39 w.params).In h₀) (N : News h₀ L s.heap news) (T : Top hd.view_39 (looseW hd.view_39 []) mean mg mb h₀) (hk : cs.kind = .function) (hd : dp + 6 < recursionLimit)
  (hl : (l, listOf [Value.ref c0, .ref c1].toArray n) ∈ news) (hρ : ρ l = none) (h0 : CompIn w news ρ c0 1 ca cd) (h1 : CompIn w news ρ c1 2 1 1) (hS : Sep news ρ)
  (ret : ∀ f news' h' tk', Sep news' ρ → FrameIn w news' ρ f W H ca cd → (∀ p ∈ news, p ∈ news') → Fr h₀ L h' m → News h₀ L h' news' → Q (.ref f) {s with heap := h', toks := tk'}) :
  wpAny (model PySem.Challenge.rw_xm0815_01.row.prog w) (ktrTop dp un gd cn cs L a ccd cl outer) (call (.ref 125) [.str (Str.ofString "baseline") t0, .int 8 t1, .int H t2, .int W t3, .ref l, .int 2 t5]) Q E s := by
  k_dflt (refine' call_cls ?k1 ?k2 ?k3 ?k4 ?k5 ?k6 ?_)
  case k1 => k_asm
  case k2 => k_asm
  case k3 => k_asm
  case k4 => k_dflt k_is
  case k5 => k_dflt k_is
  case k6 => k_dflt k_is
  intro g dg hg F9 N9 lg1 lg2
  have hne1 : ∀ p ∈ news, p.1 ≠ dg := fun p hp => Nat.ne_of_lt (lg1 p hp)
  have u3 := ltN (a := dg) (b := g) lg2
  k_dflt ktr_enter
  k_steps
  rename Fr _ _ _ _ => F8
  rename News _ _ _ _ => N8
  exact ret g _ _ _ (frame_made hS lg1 lg2 hl hρ h0 h1).1 (frame_made hS lg1 lg2 hl hρ h0 h1).2 (fun p hp => List.Mem.tail _ (List.Mem.tail _ hp)) F8 N8
theorem barn_tag {l : Addr} {vs : List Value} {ns : List Int}
  (B : Below A₀ base outer h₀) (F : Fr h₀ L s.heap m) (X : (hd.heap_39 w.params).In h₀) (N : News h₀ L s.heap []) (T : Top hd.view_39 (looseW hd.view_39 []) mean mg mb h₀) (hk : cs.kind = .function) (hd : dp + 3 < recursionLimit)
  (hl : base.IsList l vs.toArray) (hi : IntsAre vs ns) (hlen : ns.length ≤ 63)
  (ret : ∀ q news' ρ' h' tk', Sep news' ρ' → BarnIn news' ρ' q → (∀ a, ρ' a ≠ some (8, 0, 0) ∧ ρ' a ≠ some (8, 0, 1) ∧ ρ' a ≠ some (6, 0, 0)) → Fr h₀ L h' m → News h₀ L h' news' → Q (.ref q) {s with heap := h', toks := tk'}) :
  wpAny (model PySem.Challenge.rw_xm0815_01.row.prog w) (ktrTop dp un gd cn cs L a ccd cl outer) (call (.ref 176) [.ref l]) Q E s := by
  refine barn_call B F X N T hk hd hl hi hlen ?_
  intro q u0 u1 t0' t1' n h' tk' a1 a2 a3 _ F' N'
  refine ret q _ (retag (fun _ => none) q (some (9, 0, 0))) h' tk' (retag_sep (fun a ha => absurd rfl ha) (.head _)) ⟨u0, u1, t0', t1', n, .head _, a1, a2, a3, retag_self⟩ (fun a => ?_) F' N'
  by_cases e : a = q
  · rw [e, retag_self]; decide
  · rw [retag_ne e]; simp
theorem abs4 {P : Prop} (h : FrameIn w news ρ fr W H ca cd) (hb : 1 ≤ W ∧ W ≤ 9 ∧ 1 ≤ H ∧ H ≤ 9 ∧ 1 ≤ ca ∧ ca ≤ 3 ∧ 1 ≤ cd ∧ cd ≤ 3) (k : ∀ W H ca cd, FrameIn w news ρ fr W H ca cd → FB W H ca cd → P) : P :=
  k W H ca cd h ⟨hb.1, hb.2.1, hb.2.2.1, hb.2.2.2.1, hb.2.2.2.2.1, hb.2.2.2.2.2.1, hb.2.2.2.2.2.2.1, hb.2.2.2.2.2.2.2⟩
theorem pad_small (hb : FB W H ca cd) : ∀ k, pA W ca k < 1000 ∧ pA H cd k < 1000 := by
  obtain ⟨w0, w1, x0, x1, a0, a1, y0, y1⟩ := hb
  intro k
  have h : ∀ W : Fin 9, ∀ c : Fin 3, pN (W.val + 1 : Int) (c.val + 1 : Int) 0 < 1000 ∧ pN (W.val + 1 : Int) (c.val + 1 : Int) 1 < 1000 := by decide
  have one : ∀ {V c : Int}, 1 ≤ V → V ≤ 9 → 1 ≤ c → c ≤ 3 → pA V c k < 1000 := by
    intro V c h1 h2 h3 h4
    have q := h ⟨(V - 1).toNat, by omega⟩ ⟨(c - 1).toNat, by omega⟩
    have e1 : (((V - 1).toNat : Nat) : Int) + 1 = V := by omega
    have e2 : (((c - 1).toNat : Nat) : Int) + 1 = c := by omega
    dsimp only at q
    rw [e1, e2] at q
    unfold pA
    by_cases hk : k = 0
    · rw [hk]; have := q.1; show (pN V c 0).toNat < 1000; omega
    · have e : pN V c (k : Int) = pN V c 1 := by
        unfold pN
        rw [if_neg (by omega), if_neg (by decide)]
      rw [e]; have := q.2; omega
  exact ⟨one w0 w1 a0 a1, one x0 x1 y0 y1⟩
/-- what the law's loops keep -/
def LawI (w : World) (g fr barn : Addr) (W H ca cd : Int) (nx : Led) (ρ : Addr → Tag) : Prop :=
  (∃ D, GridIn w nx ρ g (pA W ca) (pA H cd) D) ∧ FrameIn w nx ρ fr W H ca cd ∧ BarnIn nx ρ barn
theorem LawI.keep {n1 n2 : Led} {ρ1 ρ2 : Addr → Tag} (h : LawI w g fr barn W H ca cd n1 ρ1) (K : Keeps isFrz n1 ρ1 n2 ρ2) : LawI w g fr barn W H ca cd n2 ρ2 := by
  obtain ⟨⟨D, a1⟩, a2, a3⟩ := h
  exact ⟨⟨D, a1.keep K none_frz row_frz⟩, a2.keep K none_frz, a3.keep K (frzN _ (by decide))⟩
theorem fill_end {nx n9 n10 n11 : Led} {x : Addr × Obj} {k y : Nat} (K1 : Keeps (isTag (some (9, 0, 0))) nx ρ n9 ρ) (K2 : Keeps (isTag (some (9, 0, 0))) n9 ρ n10 ρ) (hK : ∀ p ∈ x :: n10, ρ p.1 ≠ some (0, k, y) → p ∈ n11)
    (hF : FrameIn w n10 ρ fr W H ca cd) (hB : BarnIn n10 ρ barn) (hG : GridIn w n11 ρ g (pA W ca) (pA H cd) D) :
    (∀ p ∈ nx, ρ p.1 = frz → p ∈ n11 ∧ ρ p.1 = frz) ∧ LawI w g fr barn W H ca cd n11 ρ := by
  have K3 : Keeps (isTag (some (0, k, y))) n10 ρ n11 ρ := fun p hp hb => ⟨hK p (.tail _ hp) hb, rfl⟩
  refine ⟨fun p hp e => ⟨?_, e⟩, ⟨D, hG⟩, hF.keep K3 none_tag, hB.keep K3 fun h => by cases h⟩
  have h1 := (K1 p hp (by rw [e]; intro h; cases h)).1
  have h2 := (K2 p h1 (by rw [e]; intro h; cases h)).1
  exact (K3 p h2 (by rw [e]; intro h; cases h)).1
theorem map_six {α : Type} {z xs xa xd xw xh xy xx : Str} {a b c d e f gg q r : α} {st : List Str} (hst : st = [xa, xd, xw, xh, xy, xx]) (h1 : z ≠ xs) (h2 : st.contains z = false) :
    (if z = xy then a else if [xx].contains z then b else if z = xh then c else if z = xw then d else if z = xd then e else if z = xa then f else if z = xs then gg else if st.contains z then q else r) = r := by
  have h3 : z ≠ xa ∧ z ≠ xd ∧ z ≠ xw ∧ z ≠ xh ∧ z ≠ xy ∧ z ≠ xx := by
    subst hst
    simpa using h2
  obtain ⟨e1, e2, e3, e4, e5, e6⟩ := h3
  rw [if_neg e5, if_neg (by simpa using e6), if_neg e4, if_neg e3, if_neg e2, if_neg e1, if_neg h1, if_neg (by rw [h2]; exact Bool.false_ne_true)]
abbrev bad86 : Tag → Prop := fun t => t = some (8, 0, 0) ∨ t = some (8, 0, 1) ∨ t = some (6, 0, 0)
open Classical in
theorem scrub (hS : Sep news ρ) : ∃ ρ', Sep news ρ' ∧ (∀ a, ρ' a ≠ some (8, 0, 0) ∧ ρ' a ≠ some (8, 0, 1) ∧ ρ' a ≠ some (6, 0, 0)) ∧ Keeps bad86 news ρ news ρ' := by
  refine ⟨fun a => if bad86 (ρ a) then none else ρ a, fun a ha => ?_, fun a => ?_, fun p hp hb => ⟨hp, if_neg hb⟩⟩
  · by_cases e : bad86 (ρ a)
    · exact absurd (if_pos e) ha
    · simp only [if_neg e] at ha
      exact hS a ha
  · by_cases e : bad86 (ρ a)
    · simp only [if_pos e]; exact ⟨by simp, by simp, by simp⟩
    · simp only [if_neg e]
      exact ⟨fun h => e (.inl h), fun h => e (.inr (.inl h)), fun h => e (.inr (.inr h))⟩
theorem none86 : ¬ bad86 none := fun h => by rcases h with h | h | h <;> cases h
theorem row86 (t : Nat) (ht : t < 6) : ∀ k y, ¬ bad86 (some (t, k, y)) := fun k y h => by
  have e : t = 8 ∨ t = 6 := by
    rcases h with h | h | h
    · exact .inl (by cases h; rfl)
    · exact .inl (by cases h; rfl)
    · exact .inr (by cases h; rfl)
  omega
end
end PLawK
section PDue
open PySem PySem.W PyProof.Rows PySem.Calls PySem.Spec
set_option maxRecDepth 100000
set_option maxHeartbeats 2000000
/-- what the law reckons: rows ahead of n replaced -/
def dueR (D : Dt) (k bw bh pw n : Nat) : Dt := fun k' y x => if k' = k ∧ y < n ∧ x < pw ∧ (bw ≤ x ∨ bh ≤ y) then some (dcAt D k (min y (bh - 1)) (min x (bw - 1)), 0, 0, 0) else D k' y x
def dueX (D : Dt) (k bw bh y j : Nat) : Dt := fun k' y' x' => if k' = k ∧ y' = y ∧ x' < j ∧ (bw ≤ x' ∨ bh ≤ y') then some (dcAt D k (min y (bh - 1)) (min x' (bw - 1)), 0, 0, 0) else D k' y' x'
theorem dueX_zero (D : Dt) (k bw bh y : Nat) : dueX D k bw bh y 0 = D := by
  funext k' y' x'
  exact if_neg fun h => by omega
theorem dueX_seen (D : Dt) {k bw bh y j x : Nat} (hw : 1 ≤ bw) (hh : 1 ≤ bh) : dcAt (dueX D k bw bh y j) k (min y (bh - 1)) (min x (bw - 1)) = dcAt D k (min y (bh - 1)) (min x (bw - 1)) := by
  unfold dcAt dueX
  rw [if_neg (by omega)]
theorem dueX_skip (D : Dt) {k bw bh y j : Nat} (h : ¬ (bw ≤ j ∨ bh ≤ y)) : dueX D k bw bh y j = dueX D k bw bh y (j + 1) := by
  funext k' y' x'
  unfold dueX
  by_cases h2 : k' = k ∧ y' = y ∧ x' < j ∧ (bw ≤ x' ∨ bh ≤ y')
  · rw [if_pos h2, if_pos ⟨h2.1, h2.2.1, Nat.lt_succ_of_lt h2.2.2.1, h2.2.2.2⟩]
  · rw [if_neg h2, if_neg fun (q : k' = k ∧ y' = y ∧ x' < j + 1 ∧ (bw ≤ x' ∨ bh ≤ y')) => (Nat.lt_or_eq_of_le (Nat.le_of_lt_succ q.2.2.1)).elim (fun l => h2 ⟨q.1, q.2.1, l, q.2.2.2⟩) fun (l : x' = j) => h (by rw [← l, ← q.2.1]; exact q.2.2.2)]
theorem dueX_step (D : Dt) {k bw bh y j : Nat} (hw : 1 ≤ bw) (hh : 1 ≤ bh) (h : bw ≤ j ∨ bh ≤ y) :
    upd (dueX D k bw bh y j) k y j (some (dcAt (dueX D k bw bh y j) k (min y (bh - 1)) (min j (bw - 1)), 0, 0, 0)) = dueX D k bw bh y (j + 1) := by
  rw [dueX_seen D hw hh]
  funext k' y' x'
  unfold upd dueX
  by_cases h1 : k' = k ∧ y' = y ∧ x' = j
  · rw [if_pos h1, if_pos ⟨h1.1, h1.2.1, h1.2.2 ▸ Nat.lt_succ_self j, by rw [h1.2.2, h1.2.1]; exact h⟩, h1.2.2]
  · rw [if_neg h1]
    by_cases h2 : k' = k ∧ y' = y ∧ x' < j ∧ (bw ≤ x' ∨ bh ≤ y')
    · rw [if_pos h2, if_pos ⟨h2.1, h2.2.1, Nat.lt_succ_of_lt h2.2.2.1, h2.2.2.2⟩]
    · rw [if_neg h2, if_neg fun q => (Nat.lt_or_eq_of_le (Nat.le_of_lt_succ q.2.2.1)).elim (fun l => h2 ⟨q.1, q.2.1, l, q.2.2.2⟩) fun l => h1 ⟨q.1, q.2.1, l⟩]
theorem dueR_zero (D : Dt) (k bw bh pw : Nat) : dueR D k bw bh pw 0 = D := by
  funext k' y x
  exact if_neg fun h => by omega
theorem dueR_step (D : Dt) {k bw bh pw n : Nat} (hw : 1 ≤ bw) (hh : 1 ≤ bh) : dueX (dueR D k bw bh pw n) k bw bh n pw = dueR D k bw bh pw (n + 1) := by
  have e : ∀ x, dcAt (dueR D k bw bh pw n) k (min n (bh - 1)) (min x (bw - 1)) = dcAt D k (min n (bh - 1)) (min x (bw - 1)) := fun x => by
    unfold dcAt dueR
    rw [if_neg (by omega)]
  funext k' y x
  unfold dueX
  by_cases h : k' = k ∧ y = n ∧ x < pw ∧ (bw ≤ x ∨ bh ≤ y)
  · rw [if_pos h, e x]
    unfold dueR
    rw [if_pos ⟨h.1, h.2.1 ▸ Nat.lt_succ_self n, h.2.2⟩, h.2.1]
  · rw [if_neg h]
    unfold dueR
    by_cases h2 : k' = k ∧ y < n ∧ x < pw ∧ (bw ≤ x ∨ bh ≤ y)
    · rw [if_pos h2, if_pos ⟨h2.1, Nat.lt_succ_of_lt h2.2.1, h2.2.2⟩]
    · rw [if_neg h2, if_neg fun q => (Nat.lt_or_eq_of_le (Nat.le_of_lt_succ q.2.1)).elim (fun l => h2 ⟨q.1, l, q.2.2⟩) fun l => h ⟨q.1, l, q.2.2⟩]
theorem dc_full (D : Dt) (k y x : Nat) : dcAt (fullD D) k y x = dcAt D k y x := rfl
/-- the plain law: behind pad_component stands what the law reckons -/
theorem pad_due (D : Dt) {k bw pw bh ph : Nat} (hw : 1 ≤ bw) (hwp : bw ≤ pw) (hh : 1 ≤ bh) (hhp : bh ≤ ph) {k' y x : Nat} (hy : k' = k → y < ph) (hx : k' = k → x < pw) :
    fullD (padD D k bw pw bh ph) k' y x = dueR (fullD D) k bw bh pw ph k' y x := by
  by_cases e : k' = k
  · subst e
    have hy := hy rfl
    have hx := hx rfl
    unfold dueR
    by_cases h : bw ≤ x ∨ bh ≤ y
    · rw [if_pos ⟨rfl, hy, hx, h⟩, dc_full]
      unfold fullD padD padS
      by_cases h1 : bh ≤ y
      · rw [if_pos ⟨rfl, h1, by omega, hx⟩]
        have e1 : min y (bh - 1) = bh - 1 := by omega
        rw [e1]
        have e2 : dcAt (padR D k' bw pw bh) k' (bh - 1) x = dcAt D k' (bh - 1) (min x (bw - 1)) := by
          unfold dcAt padR
          by_cases h2 : bw ≤ x
          · rw [if_pos ⟨rfl, by omega, h2, hx⟩]
            have e3 : min x (bw - 1) = bw - 1 := by omega
            rw [e3]; rfl
          · rw [if_neg (by omega)]
            have e3 : min x (bw - 1) = x := by omega
            rw [e3]
        rw [e2]; rfl
      · rw [if_neg (by omega)]
        unfold padR
        have h2 : bw ≤ x := by omega
        rw [if_pos ⟨rfl, by omega, h2, hx⟩]
        have e1 : min y (bh - 1) = y := by omega
        have e3 : min x (bw - 1) = bw - 1 := by omega
        rw [e1, e3]; rfl
    · rw [if_neg (by omega)]
      unfold fullD padD padS
      rw [if_neg (by omega)]
      unfold padR
      rw [if_neg (by omega)]
  · unfold dueR
    rw [if_neg (by omega)]
    unfold fullD padD padS
    rw [if_neg (by omega)]
    unfold padR
    rw [if_neg (by omega)]
section
variable {news : Led} {ρ : Addr → Tag} {t : Nat} {P : Addr} {A B : Nat → Nat} {D : Dt}
theorem TabIn.plane (h : TabIn news ρ t P A B D) {k : Nat} (hk : k < 2) :
    ∃ (ps : List Value) (n0 : Nat) (q : Addr) (rs : List Value) (n1 : Nat), (P, listOf ps.toArray n0) ∈ news ∧ ps[k]? = some (.ref q) ∧ (q, listOf rs.toArray n1) ∈ news ∧ ρ P = none ∧ ρ q = none ∧ rs.length = B k := by
  obtain ⟨e, q0, q1, n, hm, ⟨a1, rs, m, a2, a3, _⟩, ⟨b1, rs', m', b2, b3, _⟩⟩ := h
  match k, hk with
  | 0, _ => exact ⟨_, n, q0, rs, m, hm, rfl, a2, e, a1, a3⟩
  | 1, _ => exact ⟨_, n, q1, rs', m', hm, rfl, b2, e, b1, b3⟩
theorem list_uniq {h₀ h : Heap} {L c : Addr} {vs vs' : List Value} {n n' : Nat} (N : News h₀ L h news) (h1 : (c, listOf vs.toArray n) ∈ news) (h2 : (c, listOf vs'.toArray n') ∈ news) : vs = vs' := by
  have e := (N _ h1).1.symm.trans (N _ h2).1
  have e2 : listOf vs.toArray n = listOf vs'.toArray n' := Option.some.inj e
  have e3 : vs.toArray = vs'.toArray := by
    have := congrArg Obj.data e2
    cases this
    rfl
  have := congrArg Array.toList e3
  simpa using this
theorem TabIn.row {h₀ h' : Heap} {L : Addr} (h : TabIn news ρ t P A B D) (N : News h₀ L h' news) {ps rs : List Value} {n0 n1 k y : Nat} {q : Addr} (hP : (P, listOf ps.toArray n0) ∈ news) (hq : ps[k]? = some (.ref q)) (hm : (q, listOf rs.toArray n1) ∈ news) (hk : k < 2) (hy : y < B k) :
    ∃ (r : Addr) (vs : List Value) (n2 : Nat), rs[y]? = some (.ref r) ∧ ρ r = some (t, k, y) ∧ (r, listOf vs.toArray n2) ∈ news ∧ vs.length = A k ∧ (∀ x, x < A k → ∃ v, vs[x]? = some v ∧ CellIn news ρ v (D k y x)) ∧
      ∀ (news' : Led) (x : Nat) (v : Value) (z : Option C4) (n : Nat), x < A k → (∀ p ∈ news, ρ p.1 ≠ some (t, k, y) → p ∈ news') → (r, listOf (vs.set x v).toArray n) ∈ news' → CellIn news' ρ v z → TabIn news' ρ t P A B (upd D k y x z) := by
  obtain ⟨ps', n0', q', rs', n1', r, vs, n2, a1, a2, a3, a4, a5, a6, a7, a8, a9, b1, b2⟩ := h.lens hk hy
  obtain rfl := list_uniq N a1 hP
  rw [hq] at a2
  cases a2
  obtain rfl := list_uniq N a3 hm
  exact ⟨r, vs, n2, a4, a5, a6, a9, b1, b2⟩
end
section
variable {M : Model} {A : Around} {E : Value → Shared → Prop} {s : Shared} {h₀ : Heap} {L a : Addr} {m : Str → Option Value} {news : List (Addr × Obj)} {c : Addr}
theorem set_mem {prog : Program} {w : World} {vs : List Value} {n : Nat} {k : Int} {t : Tok} {v : Value} {Q : Unit → Shared → Prop} (F : Fr h₀ L s.heap m) (N : News h₀ L s.heap news) (hm : (c, listOf vs.toArray n) ∈ news) (h0 : 0 ≤ k) (h1 : k < vs.length) (hfit : k < 2 ^ 60)
    (h : ∀ h', Fr h₀ L h' m → News h₀ L h' ((c, listOf (vs.set k.toNat v).toArray n) :: restOf c news) → Q () { s with heap := h' }) : wpAny (model prog w) A (setItem (.ref c) (.int k t) v) Q E s := by
  have N2 := news_rest N hm
  have z := N2 _ (.head _)
  have hs : vs.toArray.size = vs.length := List.size_toArray ..
  refine ki_setAt z.1 h0 (Int.lt_of_lt_of_le hfit (by decide)) (by omega) (h _ (F.change (Heap.SameBut.update ..) z.2.1 z.2.2) (ki_turn (pre := []) _ N2 (fun _ h => by cases h) (fun p hp => restOf_ne p hp) ?_ ?_))
  · show vs.toArray.setIfInBounds k.toNat v = (vs.set k.toNat v).toArray
    apply Array.toList_inj.mp
    simp
  · simp
end
theorem len_mem {prog : Program} {w : World} {A : Around} {E : Value → Shared → Prop} {s : Shared} {h₀ : Heap} {L l : Addr} {news : Led} {vs : List Value} {n k : Nat} {Q : Value → Shared → Prop} (N : News h₀ L s.heap news) (hm : (l, listOf vs.toArray n) ∈ news) (hl : vs.length = k) (hk : k ≤ 1000)
    (h : ∀ t tk, Q (.int (k : Int) t) { s with toks := tk }) : wpAny (model prog w) A (call (.builtin "len") [.ref l]) Q E s := by
  have hls : s.heap.IsList l vs.toArray := ⟨_, (N _ hm).1, rfl, _, rfl⟩
  have e : (vs.toArray.size : Int) = (k : Int) := by rw [List.size_toArray, hl]
  refine call_len_list hls (by rw [e]; omega) ?_
  rw [e]
  exact h _ _
/-- what the loops that reckon keep -/
def DueI (w : World) (g fr P q : Addr) (ps rs : List Value) (n0 n1 : Nat) (W H ca cd : Int) (D4 DD : Dt) (nx : Led) (ρ : Addr → Tag) : Prop :=
  (P, listOf ps.toArray n0) ∈ nx ∧ ρ P = none ∧ (q, listOf rs.toArray n1) ∈ nx ∧ ρ q = none ∧ TabIn nx ρ 1 P (pA W ca) (pA H cd) DD ∧ GridIn w nx ρ g (pA W ca) (pA H cd) D4 ∧ FrameIn w nx ρ fr W H ca cd
theorem DueI.keep {w : World} {g fr P q : Addr} {ps rs : List Value} {n0 n1 : Nat} {W H ca cd : Int} {D4 DD : Dt} {nx nx2 : Led} {ρ ρ2 : Addr → Tag} (h : DueI w g fr P q ps rs n0 n1 W H ca cd D4 DD nx ρ) (K : Keeps isFrz nx ρ nx2 ρ2) : DueI w g fr P q ps rs n0 n1 W H ca cd D4 DD nx2 ρ2 := by
  obtain ⟨a1, a2, a3, a4, a5, a6, a7⟩ := h
  have k1 := K _ a1 (by rw [a2]; exact none_frz)
  have k2 := K _ a3 (by rw [a4]; exact none_frz)
  exact ⟨k1.1, k1.2.trans a2, k2.1, k2.2.trans a4, a5.keep K none_frz (row_frzT 1 (by decide)), a6.keep K none_frz row_frz, a7.keep K none_frz⟩
theorem due_some (D4 : Dt) (k bw bh pw n y j k' y' x' : Nat) : ∃ z, dueX (dueR (fullD D4) k bw bh pw n) k bw bh y j k' y' x' = some z := by
  unfold dueX
  by_cases h : k' = k ∧ y' = y ∧ x' < j ∧ (bw ≤ x' ∨ bh ≤ y')
  · rw [if_pos h]; exact ⟨_, rfl⟩
  · rw [if_neg h]
    unfold dueR
    by_cases h2 : k' = k ∧ y' < n ∧ x' < pw ∧ (bw ≤ x' ∨ bh ≤ y')
    · rw [if_pos h2]; exact ⟨_, rfl⟩
    · rw [if_neg h2]; exact ⟨_, rfl⟩
theorem due_cell {h₀ h' : Heap} {L : Addr} {news : Led} {ρ : Addr → Tag} {t : Nat} {P : Addr} {A B : Nat → Nat} {D : Dt} (h : TabIn news ρ t P A B D) (N : News h₀ L h' news) {ps rs : List Value} {n0 n1 k y x : Nat} {q : Addr} (hP : (P, listOf ps.toArray n0) ∈ news) (hq : ps[k]? = some (.ref q)) (hm : (q, listOf rs.toArray n1) ∈ news) (hk : k < 2) (hy : y < B k) (hx : x < A k)
    (hs : ∃ z, D k y x = some z) : ∃ (r2 : Addr) (vs2 : List Value) (m2 : Nat) (c : Addr) (z : C4) (u0 u1 u2 u3 : Tok) (nc : Nat), rs[y]? = some (.ref r2) ∧ (r2, listOf vs2.toArray m2) ∈ news ∧ vs2[x]? = some (.ref c) ∧ (c, listOf (c4 z u0 u1 u2 u3).toArray nc) ∈ news ∧ z.1 = dcAt D k y x := by
  obtain ⟨r, vs, n2, a1, a2, a3, a4, a5, a6⟩ := h.row N hP hq hm hk hy
  obtain ⟨v, b1, b2⟩ := a5 x hx
  obtain ⟨z, hz⟩ := hs
  rw [hz] at b2
  obtain ⟨c, u0, u1, u2, u3, nc, e, c1, c2⟩ := b2
  subst e
  exact ⟨r, vs, n2, c, z, u0, u1, u2, u3, nc, a1, a3, b1, c2, by unfold dcAt; rw [hz]; rfl⟩
theorem ite_min {b y : Nat} (hb : 1 ≤ b) : (if (b : Int) - 1 < (y : Int) then (b : Int) - 1 else (y : Int)).toNat = min y (b - 1) := by
  split <;> omega
theorem due_turn {w : World} {g fr P q r : Addr} {ps rs vs : List Value} {n0 n1 m9 y x : Nat} {W H ca cd : Int} {D4 DD D' : Dt} {nx : Led} {ρ : Addr → Tag} {c2 : Addr} {z0 : Int} {u0 u1 u2 u3 : Tok} {nc k : Nat}
    (e1 : (P, listOf ps.toArray n0) ∈ nx) (e2 : ρ P = none) (e3 : (q, listOf rs.toArray n1) ∈ nx) (e4 : ρ q = none) (G : GridIn w nx ρ g (pA W ca) (pA H cd) D4) (Fi : FrameIn w nx ρ fr W H ca cd) (hS : Sep nx ρ) (hr : ρ r = some (1, k, y)) (hm : (r, listOf vs.toArray m9) ∈ nx) (hx : x < pA W ca k)
    (hl : ∀ (news' : Led) (x : Nat) (v : Value) (z : Option C4) (n : Nat), x < pA W ca k → (∀ p ∈ nx, ρ p.1 ≠ some (1, k, y) → p ∈ news') → (r, listOf (vs.set x v).toArray n) ∈ news' → CellIn news' ρ v z → TabIn news' ρ 1 P (pA W ca) (pA H cd) (upd DD k y x z))
    (lt : ∀ p ∈ nx, p.1 < c2) {h₀ h : Heap} {L : Addr} (N : News h₀ L h ((r, listOf (vs.set ((x : Nat) : Int).toNat (.ref c2)).toArray m9) :: restOf r ((c2, listOf [Value.int z0 u0, .int 0 u1, .int 0 u2, .int 0 u3].toArray nc) :: nx))) (hD : upd DD k y x (some (z0, 0, 0, 0)) = D') :
    Sep ((r, listOf (vs.set ((x : Nat) : Int).toNat (.ref c2)).toArray m9) :: restOf r ((c2, listOf [Value.int z0 u0, .int 0 u1, .int 0 u2, .int 0 u3].toArray nc) :: nx)) ρ ∧ (∀ p ∈ nx, ρ p.1 = frz → p ∈ ((r, listOf (vs.set ((x : Nat) : Int).toNat (.ref c2)).toArray m9) :: restOf r ((c2, listOf [Value.int z0 u0, .int 0 u1, .int 0 u2, .int 0 u3].toArray nc) :: nx)) ∧ ρ p.1 = frz) ∧ DueI w g fr P q ps rs n0 n1 W H ca cd D4 D' ((r, listOf (vs.set ((x : Nat) : Int).toNat (.ref c2)).toArray m9) :: restOf r ((c2, listOf [Value.int z0 u0, .int 0 u1, .int 0 u2, .int 0 u3].toArray nc) :: nx)) ρ := by
  have K : Keeps (isTag (some (1, k, y))) nx ρ ((r, listOf (vs.set ((x : Nat) : Int).toNat (.ref c2)).toArray m9) :: restOf r ((c2, listOf [Value.int z0 u0, .int 0 u1, .int 0 u2, .int 0 u3].toArray nc) :: nx)) ρ := cons_keep.trans (upd_keep hr)
  have k1 := (K _ e1 (by rw [e2]; exact none_tag)).1
  have k2 := (K _ e3 (by rw [e4]; exact none_tag)).1
  have hc : ρ c2 = none := hS.fresh lt
  have cr : c2 ≠ r := fun e => by rw [e, hr] at hc; cases hc
  refine ⟨upd_sep (Sep.cons hS), fun p hp e => ⟨(K p hp (by rw [e]; intro h; cases h)).1, e⟩, k1, e2, k2, e4, ?_, G.keep K none_tag (fun _ _ h => by cases h), Fi.keep K none_tag⟩
  rw [← hD]
  refine hl _ x (.ref c2) _ m9 hx (fun p hp hb => (K p hp hb).1) (.head _) ⟨c2, u0, u1, u2, u3, nc, rfl, hc, .tail _ (mem_restOf (.head _) cr)⟩
theorem toNat_lt2 {r : Int} (h0 : 0 ≤ r) (h1 : r < 2) : r.toNat < 2 := by omega
section
variable {prog : Program} {w : World} {A : Around} {E : Value → Shared → Prop} {s : Shared} {env : Env} {h₀ : Heap} {body : List Stmt} {Q : Flow → Shared → Prop}
theorem call_enumS {A' : Around} {l : Addr} {xs : List Value} {k n : Nat} {m₀ : Str → Option Value} {news : Led} {ρ₀ : Addr → Tag} {x y : Str} {px py pt : Pos} {x1 : Nat} (stored : List Str) (J : Nat → Led → (Addr → Tag) → Prop)
    (hh : A.handled = none) (hl : (l, listOf xs.toArray k) ∈ news) (hn : xs.length = n) (F : Fr h₀ env.locals s.heap m₀) (N : News h₀ env.locals s.heap news) (hS : Sep news ρ₀) (hj : J 0 news ρ₀)
    (hx : env.kindOf x = some .local) (hy : env.kindOf y = some .local) (hp : (env.scope.kind == .class || (env.scope.kind == .module && env.locals != env.globals)) = false)
    (hJ : ∀ i nx ρ nx' ρ', J i nx ρ → Keeps isFrz nx ρ nx' ρ' → J i nx' ρ') (hfix : ∀ i nx ρ, J i nx ρ → (l, listOf xs.toArray k) ∈ nx)
    (turn : ∀ (i : Nat) t v (u : Str → Option Value) nx ρ h tk, i < n → xs[i]? = some v → Sep nx ρ → (∀ p ∈ news, ρ₀ p.1 = frz → p ∈ nx ∧ ρ p.1 = frz) → J i nx ρ → Fr h₀ env.locals h (fun z => if z = y then some v else if z = x then some (.int (i : Int) t) else if stored.contains z then u z else m₀ z) → News h₀ env.locals h nx →
      wpAny (model prog w) A (execs body env) (TurnEnd2 h₀ env.locals (fun m nx ρ => KeepsMap stored m₀ m ∧ J (i + 1) nx ρ) nx ρ { s with heap := h, toks := tk } Q) E { s with heap := h, toks := tk })
    (done : ∀ (u : Str → Option Value) nx ρ h tk, Sep nx ρ → (∀ p ∈ news, ρ₀ p.1 = frz → p ∈ nx ∧ ρ p.1 = frz) → J n nx ρ → Fr h₀ env.locals h (fun z => if stored.contains z then u z else m₀ z) → News h₀ env.locals h nx → Q .next { s with heap := h, toks := tk }) :
    wpAny (model prog w) A' (call (.type "enumerate") [.ref l]) (ForSrc prog w A h₀ env (.Tuple [.Name x px, .Name y py] x1 pt) body Q E) E s := by
  refine call_enum (fun i m nx ρ => KeepsMap stored m₀ m ∧ J i nx ρ) hh hl hn F N hS ⟨fun _ _ => rfl, hj⟩ hx hy hp (fun i m nx ρ nx' ρ' h K => ⟨h.1, hJ i nx ρ nx' ρ' h.2 K⟩) (fun i m nx ρ h => hfix i nx ρ h.2) ?_ ?_
  · rintro i t v m nx ρ h tk hin hv hS' hf ⟨hm, hj'⟩ F' N'
    have e : (fun z => if z = y then some v else if z = x then some (.int (i : Int) t) else m z) = fun z => if z = y then some v else if z = x then some (.int (i : Int) t) else if stored.contains z then m z else m₀ z := by
      funext z
      rw [← congrFun hm.eq z]
    rw [e] at F'
    exact turn i t v m nx ρ h tk hin hv hS' hf hj' F' N'
  · rintro m nx ρ h tk hS' hf ⟨hm, hj'⟩ F' N'
    rw [hm.eq] at F'
    exact done m nx ρ h tk hS' hf hj' F' N'
end
end PDue
section PEq
open PySem PySem.W PyProof.Rows PySem.Calls PySem.Spec
set_option maxRecDepth 100000
set_option maxHeartbeats 2000000
def cellDat : Option C4 → Dat
  | none => .none
  | some z => .list [.int z.1, .int z.2.1, .int z.2.2.1, .int z.2.2.2]
def rowDat (a : Nat) (Dy : Nat → Option C4) : Dat := .list ((List.range a).map fun x => cellDat (Dy x))
def planeDat (a b : Nat) (Dk : Nat → Nat → Option C4) : Dat := .list ((List.range b).map fun y => rowDat a (Dk y))
theorem datAll_of {news : Led} : ∀ (n : Nat) (vs : List Value) (f : Nat → Dat), vs.length = n → (∀ i, i < n → ∃ v, vs[i]? = some v ∧ DatIn news v (f i)) → DatAll news vs ((List.range n).map f)
  | 0, [], f, _, _ => .nil
  | n + 1, v :: r, f, hl, h => by
    rw [List.range_succ_eq_map, List.map_cons, List.map_map]
    obtain ⟨v', e, hd⟩ := h 0 (Nat.succ_pos n)
    have e' : v = v' := by simpa using e
    subst e'
    refine .cons hd (datAll_of n r (f ∘ Nat.succ) (by simpa using hl) fun i hi => ?_)
    obtain ⟨u, e2, h2⟩ := h (i + 1) (Nat.succ_lt_succ hi)
    exact ⟨u, by simpa using e2, h2⟩
theorem CellIn.dat {news : Led} {ρ : Addr → Tag} {v : Value} : ∀ {z : Option C4}, CellIn news ρ v z → DatIn news v (cellDat z)
  | none, h => by
    have e : v = .none := h
    rw [e]; exact .none
  | some z, ⟨c, t0, t1, t2, t3, n, e, _, hm⟩ => by
    rw [e]
    exact .list hm (.cons (.int _ _) (.cons (.int _ _) (.cons (.int _ _) (.cons (.int _ _) .nil))))
theorem RowIn.dat {news : Led} {ρ : Addr → Tag} {tg : Tag} {r : Addr} {A : Nat} {Dy : Nat → Option C4} (h : RowIn news ρ tg r A Dy) : DatIn news (.ref r) (rowDat A Dy) := by
  obtain ⟨e, vs, n, hm, hl, hx⟩ := h
  exact .list hm (datAll_of A vs _ hl fun i hi => let ⟨v, h1, h2⟩ := hx i hi; ⟨v, h1, h2.dat⟩)
theorem PlaneIn.dat {news : Led} {ρ : Addr → Tag} {t k : Nat} {q : Addr} {A B : Nat} {Dk : Nat → Nat → Option C4} (h : PlaneIn news ρ t k q A B Dk) : DatIn news (.ref q) (planeDat A B Dk) := by
  obtain ⟨e, rs, n, hm, hl, hy⟩ := h
  exact .list hm (datAll_of B rs _ hl fun i hi => let ⟨r, h1, h2⟩ := hy i hi; ⟨.ref r, h1, h2.dat⟩)
theorem cell_ok (n : Nat) : ∀ z : Option C4, kqdOk (n + 2) (cellDat z) = true
  | none => by simp [cellDat, kqdOk]
  | some z => by simp [cellDat, kqdOk]
theorem row_ok (n a : Nat) (Dy : Nat → Option C4) : kqdOk (n + 3) (rowDat a Dy) = true := by
  unfold rowDat
  rw [kqdOk, List.all_map, List.all_eq_true]
  exact fun x _ => cell_ok n (Dy x)
theorem plane_ok (n a b : Nat) (Dk : Nat → Nat → Option C4) : kqdOk (n + 4) (planeDat a b Dk) = true := by
  unfold planeDat
  rw [kqdOk, List.all_map, List.all_eq_true]
  exact fun x _ => row_ok n a (Dk x)
theorem plane_ext {a b : Nat} {Dk Dk' : Nat → Nat → Option C4} (h : ∀ y, y < b → ∀ x, x < a → Dk y x = Dk' y x) : planeDat a b Dk = planeDat a b Dk' := by
  unfold planeDat rowDat
  refine congrArg Dat.list (List.map_congr_left fun y hy => congrArg Dat.list (List.map_congr_left fun x hx => ?_))
  rw [h y (List.mem_range.mp hy) x (List.mem_range.mp hx)]
open Classical in
theorem tab_eq {prog : Program} {w : World} {A : Around} {E : Value → Shared → Prop} {s : Shared} {h₀ : Heap} {L : Addr} {news : Led} {ρ : Addr → Tag} {t1 t2 : Nat} {P1 P2 : Addr} {Am Bm : Nat → Nat} {D1 D2 : Dt} {Q : Value → Shared → Prop}
    (N : News h₀ L s.heap news) (T1 : TabIn news ρ t1 P1 Am Bm D1) (T2 : TabIn news ρ t2 P2 Am Bm D2) (h : ∀ k, k < 2 → ∀ y, y < Bm k → ∀ x, x < Am k → D1 k y x = D2 k y x) (hu : A.units + 64 < cLine) (hQ : Q (.bool true) s) :
    wpAny (model prog w) A (compareOp .Eq (.ref P1) (.ref P2)) Q E s := by
  obtain ⟨_, q0, q1, n, hm, a0, a1⟩ := T1
  obtain ⟨_, q0', q1', n', hm', b0, b1⟩ := T2
  have D0 : DatAll news [.ref q0, .ref q1] [planeDat (Am 0) (Bm 0) (D1 0), planeDat (Am 1) (Bm 1) (D1 1)] := .cons a0.dat (.cons a1.dat .nil)
  have D0' : DatAll news [.ref q0', .ref q1'] [planeDat (Am 0) (Bm 0) (D2 0), planeDat (Am 1) (Bm 1) (D2 1)] := .cons b0.dat (.cons b1.dat .nil)
  have ok : ∀ D : Dt, ∀ d ∈ [planeDat (Am 0) (Bm 0) (D 0), planeDat (Am 1) (Bm 1) (D 1)], kqdOk 8 d = true := fun D d hd => by
    rcases List.mem_cons.mp hd with rfl | hd
    · exact plane_ok 4 _ _ _
    · rw [List.mem_singleton.mp hd]; exact plane_ok 4 _ _ _
  have e : [planeDat (Am 0) (Bm 0) (D1 0), planeDat (Am 1) (Bm 1) (D1 1)] = [planeDat (Am 0) (Bm 0) (D2 0), planeDat (Am 1) (Bm 1) (D2 1)] := by
    rw [plane_ext (h 0 (by decide)), plane_ext (h 1 (by decide))]
  refine kqd_eq N hm rfl rfl D0 (fun _ h => h) hm' rfl rfl D0' (fun _ h => h) (ok D1) (ok D2) hu ?_
  rw [decide_eq_true e]
  exact hQ
theorem map_en {α : Type} {z xy xr xx : Str} {a b c d e f : α} {st : List Str} (hst : st = [xy, xr, xx]) (h2 : st.contains z = false) :
    (if z = xx then a else if ([] : List Str).contains z then b else if z = xr then c else if z = xy then d else if st.contains z then e else f) = f := by
  have h3 : z ≠ xy ∧ z ≠ xr ∧ z ≠ xx := by
    subst hst
    simpa using h2
  rw [if_neg h3.2.2, if_neg (by simp), if_neg h3.2.1, if_neg h3.1, if_neg (by rw [h2]; exact Bool.false_ne_true)]
theorem pad_none : ¬ padBad none := by
  rintro (h | ⟨k, y, h⟩) <;> cases h
theorem pad_row1 : ∀ k y, ¬ padBad (some (1, k, y)) := by
  rintro k y (h | ⟨k', y', h⟩) <;> cases h
theorem with_fin {M : Model} {A : Around} {E : Value → Shared → Prop} {s : Shared} {t : Sem Flow} {Q : Flow → Shared → Prop} {h₀ : Heap} {L : Addr} {m₀ : Str → Option Value} (_F : Fr h₀ L s.heap m₀) (h : ∀ h' tk m', Fr h₀ L h' m' → Q (.ret (.bool true)) { s with heap := h', toks := tk })
    (k : (∀ h' tk m', Fr h₀ L h' m' → Q (.ret (.bool true)) { s with heap := h', toks := tk }) → wpAny M A t Q E s) : wpAny M A t Q E s := k h
end PEq
section PLaw
open PySem PySem.W PyProof.Rows PySem.Calls PySem.Spec
set_option maxRecDepth 100000
set_option maxHeartbeats 4000000
local macro_rules | `(tactic| walk_at "my sub") => `(tactic| ((with_reducible show wpAny _ _ (subscriptTail _ _ (Value.ref _) (Value.int _ _)) _ _ _); k_dflt (refine' item_mem (by k_asm) (by k_mem) (by first | omega | (split <;> omega)) (by first | omega | (split <;> omega)) (by first | with_reducible assumption | assumption | exact rfl) ?_ (by with_unfolding_all rfl); k_whole)))
local macro_rules | `(tactic| walk_at "my stop") => `(tactic| ((fail_if_success (with_reducible show wpAny _ _ (pyIter _) _ _ _)); (fail_if_success (with_reducible show wpAny _ _ (subscriptTail _ _ (Value.ref _) (Value.int _ _)) _ _ _)); (fail_if_success (with_reducible show wpAny _ _ (setItem (Value.ref _) (Value.int _ _) _) _ _ _)); (fail_if_success (with_reducible show wpAny _ _ (call (Value.ref 165) _) _ _ _)); (fail_if_success (with_reducible show wpAny _ _ (call (Value.ref 188) _) _ _ _)); (fail_if_success (with_reducible show wpAny _ _ (call (Value.ref 35) _) _ _ _)); (fail_if_success (with_reducible show wpAny _ _ (call (Value.type "enumerate") _) _ _ _)); (fail_if_success (with_reducible show ForSrc _ _ _ _ _ _ _ _ _ _ _)); (fail_if_success (with_reducible show wpAny _ _ (compareOp CmpOp.Eq (Value.ref _) (Value.ref _)) _ _ _)); skip))
local macro_rules | `(tactic| walk_at "my steps") => `(tactic| repeat' (first | walk_at "my sub" | ((walk_at "my stop"); (first | (k_unfold; (try dsimp only)) | (k_end; wrow_close) | walk1 | (dsimp only; walk1) | (leave1; walk_say "STEP leave1"; try dsimp only))) | fail "no step"))
local macro_rules | `(tactic| walk_at "my barn") => `(tactic| first | assumption | exact BarnIn.mono (by assumption) (fun _ h => List.mem_cons_of_mem _ h) | exact BarnIn.mono (by assumption) (fun _ h => List.mem_cons_of_mem _ (List.mem_cons_of_mem _ h)))
local macro_rules | `(tactic| walk_at "call ref") => `(tactic| (k_here; (with_reducible show wpAny _ _ (call (Value.ref 176) _) _ _ _); (k_dflt (refine' barn_tag (by k_asm) (by k_asm) (by k_asm) (by k_asm) (by k_asm) (by first | exact rfl | assumption) (by ktr_room) (by assumption) (by assumption) (by walk_at "my om") ?_)); (intro q' news' ρ' h' tk' hS' hB' hN' F' N'); (try k_sweep)))
local macro_rules | `(tactic| walk_at "my comp") => `(tactic| first | assumption | exact CompIn.mono (by assumption) (fun _ h => List.mem_cons_of_mem _ h))
local macro_rules | `(tactic| walk_at "call ref") => `(tactic| (k_here; (with_reducible show wpAny _ _ (call (Value.ref 59) _) _ _ _); (k_dflt (refine' comp_call (by k_asm) (by k_asm) (by k_asm) (by k_asm) (by k_asm) (by first | exact rfl | assumption) (by ktr_room) (by walk_at "my sep") ?_)); (intro c' news' h' tk' hS' hC' hs' F' N'); (have hB' := BarnIn.mono (by walk_at "my barn") hs'); (try have hC2' := CompIn.mono (by walk_at "my comp") hs'); (try k_sweep)))
local macro_rules | `(tactic| walk_at "call ref") => `(tactic| (k_here; (with_reducible show wpAny _ _ (call (Value.ref 125) _) _ _ _); (k_dflt (refine' frame_call (by k_asm) (by k_asm) (by k_asm) (by k_asm) (by k_asm) (by first | exact rfl | assumption) (by ktr_room) (by k_mem) (by exact Sep.fresh (by assumption) (by assumption)) (by walk_at "my comp") (by walk_at "my comp") (by walk_at "my sep") ?_)); (intro f' news' h' tk' hS' hFi' hs' F' N'); (have hB' := BarnIn.mono (by walk_at "my barn") hs'); (try k_sweep)))
local macro_rules | `(tactic| walk_at "call ref") => `(tactic| (k_here; (with_reducible show wpAny _ _ (call (Value.ref 183) _) _ _ _); (k_dflt (refine' straw_tag (by k_asm) (by k_asm) (by k_asm) (by k_asm) (by k_asm) (by first | exact rfl | assumption) (by ktr_room) (by walk_at "my sep") (by walk_at "my barn") (by decide) (by decide) ?_)); (intro r' t' news' h' tk' hr0' hr1' S' B' K' F' N'); (try have hF' := FrameIn.keep K' none_tag (by walk_at "my frame")); (try have hC' := CompIn.keep K' none_tag (by walk_at "my comp")); (try have hG' := GridIn.keep K' none_tag (fun _ _ h => by cases h) (by walk_at "my grid")); (try k_sweep)))
local macro_rules | `(tactic| walk_at "call ref") => `(tactic| (k_here; (with_reducible show wpAny _ _ (call (Value.ref 162) _) _ _ _); (k_dflt (refine' put_call4 (by k_asm) (by k_asm) (by k_asm) (by k_asm) (by k_asm) (by first | exact rfl | assumption) (by ktr_room) (by walk_at "my sep") (by walk_at "my grid") (by assumption) (by k_mem) (by exact Sep.fresh (by assumption) (by assumption)) (by walk_at "my om") (by walk_at "my om") (by walk_at "my om") (by walk_at "my om") (by walk_at "my om") (by walk_at "my om") ?_)); (intro news' h' tk' hS' hG' hK' F' N'); (try k_sweep)))

local macro_rules | `(tactic| walk_at "call builtin:len") => `(tactic| (k_here; (with_reducible show wpAny _ _ (call (Value.builtin "len") [Value.ref _]) _ _ _); k_dflt (refine' len_mem (by k_asm) (by k_mem) (by assumption) (by omega) ?_; k_whole); intro t' tk'))
local macro_rules | `(tactic| walk_at "exec For Tuple Call cons nil") => `(tactic| (k_here; (rename Fr _ _ _ _ => lF'); (with_unfolding_all refine' for_src lF' ?_); k_whole))
set_option maxHeartbeats 8000000 in
theorem t1 : PySem.Challenge.rw_xm0815_01.Holds := hd (by
  k_go0
  all_goals try k_fold
  rename Fr _ _ _ _ => F0
  refine with_fin F0 ?_ fun fin => ?_
  · intro hz tz mz Fz
    (try dsimp only)
    walk_at "my steps"
  (try k_fold)
  walk_at "my steps"
  rename FrameIn _ _ _ _ _ _ _ _ => Fi0
  rename BarnIn _ _ _ => hBa
  rename Sep _ _ => hS
  rename (∀ a : Addr, _ ∧ _ ∧ _) => hN
  (try k_fold)
  refine abs4 Fi0 (by omega) fun W H ca cd hF hb => ?_
  clear Fi0
  k_dflt (refine' grid_call ?k1 ?k2 ?k3 ?k4 ?k5 ?k6 ?k7 hS hF hb (fun a => ⟨(hN a).1, (hN a).2.2⟩) ?_)
  case k1 => k_asm
  case k2 => k_asm
  case k3 => k_asm
  case k4 => k_asm
  case k5 => k_asm
  case k6 => exact rfl
  case k7 => ktr_room
  intro g n2 ρ2 h2 tk2 hS2 hG2 K2 F2 N3
  (try k_fold)
  have hF2 := hF.keep K2 id
  have hBa2 := hBa.keep K2 id
  clear hF hBa hS K2
  (try dsimp only)
  (try k_fold)
  walk_at "my steps"
  rename Int => pl
  rename ((_ : Int) < 2) => hpl1
  rename ((0 : Int) ≤ _) => hpl0
  rename IsRange _ _ _ _ _ _ _ _ => R3
  rename Fr _ _ _ _ => F3
  rename News _ _ _ _ => N3
  rename Sep _ ρ2 => S3
  rename BarnIn _ ρ2 _ => Ba3
  rename FrameIn _ _ ρ2 _ _ _ _ _ => Fi3
  rename GridIn _ _ ρ2 _ _ _ _ => G3
  have hB : ∀ k, pA W ca k < 1000 ∧ pA H cd k < 1000 := pad_small hb
  obtain ⟨w0, w1, x0, x1, v0, v1, y0, y1⟩ := id hb
  refine tag_range0 2 (fun k nx ρ' => LawI _ g _ _ W H ca cd nx ρ') [Str.ofString "across", Str.ofString "down", Str.ofString "wide", Str.ofString "high", Str.ofString "y", Str.ofString "x"] rfl R3 (by decide) (fun _ _ _ _ _ h K => h.keep K) F3 (news_sub N3 fun p hp => List.Mem.tail _ hp) S3 ⟨⟨_, G3⟩, Fi3, Ba3⟩ ?_ ?_
  · intro k tk3 u3 nx ρ4 hh tkk hk hS4 hfz4 hI4 F4 N4
    (try k_fold)
    obtain ⟨⟨D4, G4⟩, Fi4, Ba4⟩ := hI4
    obtain ⟨dfr4, l4, kf4, tf4, m14, m24⟩ := Fi4.inst
    obtain ⟨dg4, P4, k04, k14, t04, g14, g24⟩ := G4.inst
    clear R3 F3 N3 S3 Ba3 Fi3 G3 hG2 hF2 hBa2 hS2
    have q1 := dimsN w0 w1 v0 v1 (k := ((k : Nat) : Int).toNat) hk
    have q2 := dimsN x0 x1 y0 y1 (k := ((k : Nat) : Int).toNat) hk
    (try k_fold)
    walk_at "my steps"
    rename IsRange _ _ _ _ _ _ _ _ => R5
    rename Fr _ _ _ _ => F5
    rename News _ _ _ _ => N5
    refine tag_range0 (pA H cd ((k : Nat) : Int).toNat) (fun _ nx ρ' => LawI _ g _ _ W H ca cd nx ρ') [Str.ofString "x"] rfl R5 (Nat.le_trans q2.2.2 (by decide)) (fun _ _ _ _ _ h K => h.keep K) F5 (news_sub N5 fun p hp => List.Mem.tail _ (List.Mem.tail _ hp)) hS4 ⟨⟨_, G4⟩, Fi4, Ba4⟩ ?_ ?_
    · intro y ty u5 nx5 ρ5 hh5 tk5 hy hS5 hfz5 hI5 F6 N6
      (try k_fold)
      clear R5 F5 N5 hS4 G4 Fi4 Ba4 m14 m24 g14 g24 F4 N4 hfz4
      (try k_fold)
      walk_at "my steps"
      rename IsRange _ _ _ _ _ _ _ _ => R7
      rename Fr _ _ _ _ => F7
      rename News _ _ _ _ => N7
      refine tag_range0 (pA W ca ((k : Nat) : Int).toNat) (fun _ nx ρ' => LawI _ g _ _ W H ca cd nx ρ') [] rfl R7 (Nat.le_trans q1.2.2 (by decide)) (fun _ _ _ _ _ h K => h.keep K) F7 N7 hS5 hI5 ?_ ?_
      · intro x tx u7 nx7 ρ7 hh7 tk7 hx hS7 hfz7 hI7 F8 N8
        (try k_fold)
        obtain ⟨⟨D7, G7⟩, Fi7, Ba7⟩ := hI7
        obtain ⟨dg7, P7, k07, k17, t07, g17, g27⟩ := G7.inst
        clear R7 F7 N7 hS5 hI5 hfz5
        (try k_fold)
        walk_at "my steps"
        all_goals rename Fr _ _ _ _ => F9
        all_goals rename News _ _ _ _ => N9
        all_goals rename Sep _ ρ7 => S9
        all_goals rename GridIn _ _ ρ7 _ _ _ _ => G9
        all_goals rename FrameIn _ _ ρ7 _ _ _ _ _ => Fi9
        all_goals rename BarnIn _ ρ7 _ => B9
        all_goals first
          | exact turn_end F9 N9 (fun z h1 h2 => map_id h1 h2) S9 (fun p hp e => ⟨hp, e⟩) ⟨⟨_, G9⟩, Fi9, B9⟩
          | ((rename (∀ p ∈ _ :: _, _ ≠ _ → _ ∈ _) => K9)
             (rename Keeps _ _ _ _ _ => Kb)
             (rename Keeps _ nx7 _ _ _ => Ka)
             exact turn_end F9 N9 (fun z h1 h2 => map_id h1 h2) S9 (fill_end Ka Kb K9 Fi9 B9 G9).1 (fill_end Ka Kb K9 Fi9 B9 G9).2)
      · intro u7 nx7 ρ7 hh7 tk7 hS7 hfz7 hI7 F8 N8
        (try k_fold)
        clear R7 F7 N7
        (try dsimp only)
        (try k_fold)
        walk_at "my steps"
        rename Fr _ _ _ _ => F9
        rename News _ _ _ _ => N9
        exact turn_end F9 N9 (fun z h1 h2 => map_two rfl h1 h2) hS7 hfz7 hI7
    · intro u5 nx5 ρ5 hh5 tk5 hS5 hfz5 hI5 F6 N6
      (try k_fold)
      clear R5 F5 N5 F4 N4
      (try dsimp only)
      (try k_fold)
      walk_at "my steps"
      rename Fr _ _ _ _ => F9
      rename News _ _ _ _ => N9
      exact turn_end F9 N9 (fun z h1 h2 => map_six rfl h1 h2) hS5 (fun p hp e => hfz5 p hp e) hI5
  · intro u3 nx ρ4 hh tkk hS4 hfz4 hI4 F4 N4
    (try k_fold)
    obtain ⟨⟨D4, G4⟩, Fi4, Ba4⟩ := hI4
    clear R3 F3 N3 S3 Ba3 Fi3 G3 hG2 hF2 hBa2 hS2
    (try dsimp only)
    (try k_fold)
    walk_at "my steps"
    obtain ⟨ρ5, S5, hN5, K5⟩ := scrub hS4
    have G5 := G4.keep K5 none86 (row86 0 (by decide))
    have Fi5 := Fi4.keep K5 none86
    clear G4 Fi4 Ba4 hS4 K5
    k_dflt (refine' rows_call 1 (by decide) ?k1 ?k2 ?k3 ?k4 ?k5 ?k6 ?k7 S5 G5 Fi5 hb hN5 hB ?_)
    case k1 => k_asm
    case k2 => k_asm
    case k3 => k_asm
    case k4 => k_asm
    case k5 => k_asm
    case k6 => exact rfl
    case k7 => ktr_room
    intro P n6 ρ6 h6 tk6 S6 T6 K6 F6 N6
    (try k_fold)
    have G6 := G5.keep K6 id (fun _ _ => id)
    have Fi6 := Fi5.keep K6 id
    obtain ⟨dfr6, l6, kf6, tf6, m16, m26⟩ := Fi6.inst
    obtain ⟨ps, n0, q, rs, n1, p1, p2, p3, p4, p5, p6⟩ := T6.plane (toNat_lt2 hpl0 hpl1)
    clear F4 N4 G5 Fi5 S5 K6 hN5 hfz4
    (try dsimp only)
    (try k_fold)
    walk_at "my steps"
    rename Fr _ _ _ _ => F7
    rename News _ _ _ _ => N7
    have q1 := dimsN w0 w1 v0 v1 (k := pl.toNat) (by omega)
    have q2 := dimsN x0 x1 y0 y1 (k := pl.toNat) (by omega)
    refine call_enumS (n := pA H cd pl.toNat) [Str.ofString "y", Str.ofString "row", Str.ofString "x"] (fun i nx ρ' => DueI _ g _ P q ps rs n0 n1 W H ca cd D4 (dueR (fullD D4) pl.toNat (bA W ca pl.toNat) (bA H cd pl.toNat) (pA W ca pl.toNat) i) nx ρ') rfl p3 p6 F7 (news_sub N7 fun p hp => List.Mem.tail _ hp) S6 ⟨p1, p4, p3, p5, by rw [dueR_zero]; exact T6, G6, Fi6⟩ rfl rfl rfl (fun _ _ _ _ _ h K => h.keep K) (fun _ _ _ h => h.2.2.1) ?_ ?_
    · intro y ty v uy nx7 ρ7 hh7 tk7 hy hv S7 frz7 J7 F8 N8
      (try k_fold)
      obtain ⟨d1, d2, d3, d4, T7, G7, Fi7⟩ := J7
      obtain ⟨r, vs, m2, r1, r2, r3, r4, r5, r6⟩ := T7.row N8 d1 p2 d3 (toNat_lt2 hpl0 hpl1) hy
      obtain rfl : v = .ref r := Option.some.inj (hv.symm.trans r1)
      clear F7 N7 S6 T6 G6 Fi6 m16 m26 p1 p3 hv
      (try k_fold)
      walk_at "my steps"
      rename IsRange _ _ _ _ _ _ _ _ => R9
      rename Fr _ _ _ _ => F9
      rename News _ _ _ _ => N9
      refine tag_range0 (pA W ca pl.toNat) (fun j nx ρ' => DueI _ g _ P q ps rs n0 n1 W H ca cd D4 (dueX (dueR (fullD D4) pl.toNat (bA W ca pl.toNat) (bA H cd pl.toNat) (pA W ca pl.toNat) y) pl.toNat (bA W ca pl.toNat) (bA H cd pl.toNat) y j) nx ρ') [] rfl R9 (Nat.le_trans q1.2.2 (by decide)) (fun _ _ _ _ _ h K => h.keep K) F9 N9 S7 ⟨d1, d2, d3, d4, by rw [dueX_zero]; exact T7, G7, Fi7⟩ ?_ ?_
      · intro x tx ux nx9 ρ9 hh9 tk9 hx S9 frz9 J9 F10 N10
        (try k_fold)
        obtain ⟨e1, e2, e3, e4, T9, G9, Fi9⟩ := J9
        obtain ⟨r', vs9, m9, s1, s2, s3, s4, s5, s6⟩ := T9.row N10 e1 p2 e3 (toNat_lt2 hpl0 hpl1) hy
        obtain rfl : r' = r := by rw [r1] at s1; cases s1; rfl
        clear R9 F9 N9 S7 T7 G7 Fi7 d1 d2 d3 d4 r2 r3 r4 r5 r6
        obtain ⟨r2, vs2, mm2, c2, z2, w0', w1', w2', w3', nc, f1, f2, f3, f4, f5⟩ := due_cell (y := min y (bA H cd pl.toNat - 1)) (x := min x (bA W ca pl.toNat - 1)) T9 N10 e1 p2 e3 (toNat_lt2 hpl0 hpl1) (by omega) (by omega) (due_some _ _ _ _ _ _ _ _ _ _ _)
        rw [← ite_min q2.1] at f1
        rw [← ite_min q1.1] at f3
        (try k_fold)
        walk_at "my steps"
        all_goals rename Fr _ _ _ _ => F11
        all_goals rename News _ _ _ _ => N11
        all_goals first
          | exact turn_end F11 N11 (fun z h1 h2 => map_id h1 h2) S9 (fun p hp e => ⟨hp, e⟩) ⟨e1, e2, e3, e4, by rw [← dueX_skip _ (by omega)]; exact T9, G9, Fi9⟩
          | (refine set_mem (vs := vs9) F11 N11 (List.Mem.tail _ s3) (by omega) (by omega) (by omega) ?_
             intro h12 F12 N12
             (try k_fold)
             (try dsimp only)
             (try k_fold)
             walk_at "my steps"
             (rename (∀ p ∈ nx9, _ < _) => lt9)
             have hD := dueX_step (k := pl.toNat) (y := y) (j := x) (dueR (fullD D4) pl.toNat (bA W ca pl.toNat) (bA H cd pl.toNat) (pA W ca pl.toNat) y) q1.1 q2.1 (by omega)
             rw [← f5] at hD
             obtain ⟨t1, t2, t3⟩ := due_turn e1 e2 e3 e4 G9 Fi9 S9 s2 s3 hx s6 lt9 N12 hD
             exact turn_end F12 N12 (fun z h1 h2 => map_id h1 h2) t1 t2 t3)
      · intro ux nx9 ρ9 hh9 tk9 S9 frz9 J9 F10 N10
        (try k_fold)
        clear R9 F9 N9
        rw [dueR_step _ q1.1 q2.1] at J9
        (try dsimp only)
        (try k_fold)
        walk_at "my steps"
        rename Fr _ _ _ _ => F11
        rename News _ _ _ _ => N11
        exact turn_end2 F11 N11 S9 frz9 ⟨fun z h2 => map_en rfl h2, J9⟩
    · intro uy nx7 ρ7 hh7 tk7 S7 frz7 J7 F8 N8
      (try k_fold)
      obtain ⟨d1, d2, d3, d4, T7, G7, Fi7⟩ := J7
      clear F7 N7 S6 T6 G6 Fi6 m16 m26 p1 p3
      (try dsimp only)
      (try k_fold)
      walk_at "my steps"
      k_dflt (refine' pad_call (i := pl) (fun nx ρ' => TabIn nx ρ' 1 P (pA W ca) (pA H cd) (dueR (fullD D4) pl.toNat (bA W ca pl.toNat) (bA H cd pl.toNat) (pA W ca pl.toNat) (pA H cd pl.toNat)) ∧ FrameIn _ nx ρ' _ W H ca cd) ?k1 ?k2 ?k3 ?k4 ?k5 ?k6 ?k7 S7 G7 Fi7 hb hpl0 hpl1 (fun _ _ _ _ h K => ⟨h.1.keep K pad_none pad_row1, h.2.keep K pad_none⟩) ⟨T7, Fi7⟩ hB ?_)
      case k1 => k_asm
      case k2 => k_asm
      case k3 => k_asm
      case k4 => k_asm
      case k5 => k_asm
      case k6 => exact rfl
      case k7 => ktr_room
      intro n8 ρ8 h8 tk8 S8 G8 Z8 frz8 F9 N9
      (try k_fold)
      obtain ⟨T8, Fi8⟩ := Z8
      clear F8 N8 T7 G7 Fi7 d1 d3 S7
      (try dsimp only)
      (try k_fold)
      walk_at "my steps"
      obtain ⟨ρ9, S9, hN9, K9⟩ := scrub S8
      have G9 := G8.keep K9 none86 (row86 0 (by decide))
      have T9 := T8.keep K9 none86 (row86 1 (by decide))
      have Fi9 := Fi8.keep K9 none86
      rename Fr _ _ _ _ => F9
      rename News _ _ _ _ => N9
      clear S8 G8 T8 Fi8 K9
      k_dflt (refine' rows_call 2 (by decide) ?k1 ?k2 ?k3 ?k4 ?k5 ?k6 ?k7 S9 G9 Fi9 hb hN9 hB ?_)
      case k1 => k_asm
      case k2 => k_asm
      case k3 => k_asm
      case k4 => k_asm
      case k5 => k_asm
      case k6 => exact rfl
      case k7 => ktr_room
      intro P2 n10 ρ10 h10 tk10 S10 T10 K10 F10 N10
      (try k_fold)
      have T11 := T9.keep K10 id (fun _ _ => id)
      clear F9 N9 G9 T9 Fi9 S9
      (try dsimp only)
      (try k_fold)
      walk_at "my steps"
      refine tab_eq N10 T10 T11 (fun k hk y hy x hx => pad_due D4 q1.1 q1.2.1 q2.1 q2.2.1 (fun e => e ▸ hy) (fun e => e ▸ hx)) (by ke_room) ?_
      exact fin _ _ _ F10)
end PLaw
end Mine
end Walks
set_option maxRecDepth 100000 in
set_option maxHeartbeats 8000000 in
theorem PySem.Challenge.cw_xm0815_01_holds : PySem.Challenge.rw_xm0815_01.Holds :=
  Mine.t1
