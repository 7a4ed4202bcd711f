import PyProof.Rows.All
import Wide.All
import OpenK.AllK
import Wide.FinOn
import PySem.Challenge.RW_xm0681_01
open PySem PySem.W PyProof.Rows
set_option Elab.async false
namespace Mine
set_option maxRecDepth 100000 in
set_option maxHeartbeats 8000000 in
open_top hd for PySem.Challenge.rw_xm0681_01
theorem off_of_lt {l : List (Addr × Obj)} {d d' : Addr} (h : ∀ p ∈ l, p.1 < d) (hd : d ≤ d') : ∀ p ∈ l, p.1 ≠ d' := fun p hp => Nat.ne_of_lt (Nat.lt_of_lt_of_le (h p hp) hd)
abbrev tupOf (vs : List Value) (n : Nat) : Obj := { cls := .type "tuple", data := .seq vs.toArray n }
theorem fm_lo (x : Int) {b : Int} (h : 0 < b) : 0 ≤ x.fmod b := by rw [Int.fmod_eq_emod_of_nonneg _ (Int.le_of_lt h)]; exact Int.emod_nonneg _ (by omega)
theorem fm_hi (x : Int) {b : Int} (h : 0 < b) : x.fmod b < b := by rw [Int.fmod_eq_emod_of_nonneg _ (Int.le_of_lt h)]; exact Int.emod_lt_of_pos _ h
theorem fd_lo {x b : Int} (hx : 0 ≤ x) (h : 0 < b) : 0 ≤ x.fdiv b := Int.fdiv_nonneg hx (Int.le_of_lt h)
theorem fd_hi {x b : Int} (hx : 0 ≤ x) (h : 0 < b) : x.fdiv b ≤ x := by rw [Int.fdiv_eq_ediv_of_nonneg _ (Int.le_of_lt h)]; exact Int.ediv_le_self _ hx
theorem mul_lcg {u : Int} : PySem.IntMulOk (u.fmod 2147483647) (u.fmod 2147483647) :=
  PySem.IntMulOk.of_left (PySem.intBits_le_64 (by have := fm_lo u (b := 2147483647) (by decide); omega) (by have := fm_hi u (b := 2147483647) (by decide); omega))
theorem news_sub {h₀ h : Heap} {L : Addr} {news news' : List (Addr × Obj)} (N : News h₀ L h news') (hs : List.Sublist news news') : News h₀ L h news := fun p hp => N p (hs.subset hp)
def Stop (P : Prop) : Prop := P
theorem Stop.out {P : Prop} (h : Stop P) : P := h
theorem Stop.intro {P : Prop} (h : P) : Stop P := h
theorem getD_mem {ns : List Int} {k : Nat} (h : k < ns.length) : ns.getD k 0 ∈ ns := by
  rw [List.getD_eq_getElem?_getD, List.getElem?_eq_getElem h]
  exact List.getElem_mem h
-- two addresses apart, told so that omega does not split on it
def Nx (a b : Addr) : Prop := a ≠ b
theorem Nx.l {a b : Addr} (h : Nx a b) : a ≠ b := h
theorem Nx.r {a b : Addr} (h : Nx a b) : b ≠ a := fun e => h e.symm
theorem Nx.of {a b : Addr} (h : a ≠ b) : Nx a b := h
theorem isi_tup {prog : Program} {w : World} {A : Around} {E : Value → Shared → Prop} {s : Shared} {Q : Value → Shared → Prop} {h₀ : Heap} {L a : Addr} {vs : List Value} {n : Nat} {news : List (Addr × Obj)} (N : News h₀ L s.heap news) (hm : (a, tupOf vs n) ∈ news) (h : Q (.bool true) s) :
    wpAny (model prog w) A (call (.builtin "isinstance") [.ref a, .type "tuple"]) Q E s := IsiPair.tuple_tuple (N _ hm).1 rfl h

local macro_rules | `(tactic| k_all) => `(tactic| first | assumption | exact off_of_lt (by assumption) (by show (_ : Nat) ≤ _; omega))
local macro_rules | `(tactic| units_room) => `(tactic| first | (simp only [units_in1, units_deeper, Around.mark_units, units_caller]; decide) | (simp only [units_in1, units_deeper, Around.mark_units, ktrTop]; omega) | fail "units_room")
local macro_rules | `(tactic| ktr_room) => `(tactic| first | (simp only [depth_in1, depth_deeper, depth_caller]; decide) | (simp only [depth_in1, depth_deeper, ktrTop]; omega) | fail "ktr_room")
local macro_rules | `(tactic| walk_at "subscriptTail Name Constant ref int") => `(tactic| (k_here; (with_reducible show wpAny _ _ (subscriptTail _ _ (Value.ref _) (Value.int _ _)) _ _ _); (with_unfolding_all refine' item_litK ?k1 ?k2 ?k3 ?k4 ?_ ?k6; (case k1 => is_list); (case k2 => decide); (case k3 => decide); (case k4 => rfl); (case k6 => with_unfolding_all rfl); k_whole)))
-- the ledger's part: a sublist
local macro_rules | `(tactic| tb_start) => `(tactic| (repeat' (first | exact List.Sublist.refl _ | refine List.Sublist.cons_cons _ ?_ | refine List.Sublist.cons _ ?_)))
-- a ledger at an end
local macro_rules | `(tactic| tb_rel) => `(tactic| exact news_sub (by assumption) (by tb_start))
-- every conjunction at hand, taken apart
local macro_rules | `(tactic| ktr_unf) => `(tactic| (repeat (rename _ ∧ _ => hAnd'; obtain ⟨_, _⟩ := hAnd')))
local macro_rules | `(tactic| k_ne) => `(tactic| first | exact Nx.l (by with_reducible assumption) | exact Nx.r (by with_reducible assumption) | fail "k_ne: no fact")
local macro_rules | `(tactic| walk_at "call builtin:isinstance") => `(tactic| (k_here; (with_reducible show wpAny _ _ (call (Value.builtin _) [Value.ref _, Value.type _]) _ _ _); k_dflt (refine' isi_tup ?N ?m ?_; (case N => k_asm); (case m => k_mem); k_whole)))

theorem off_take : True := by
  w_top off
  exact trivial
section
local macro_rules | `(tactic| walk_at "binaryOp Mult int int") => `(tactic| (with_reducible refine mul_int ?_ mul_lcg))
local macro_rules | `(tactic| walk_at "pad of this part") => `(tactic| skip)
set_option maxRecDepth 100000 in
set_option maxHeartbeats 8000000 in
theorem take_ok {w : World} {mean : ExcName → Option Value} {mg mb : Str → Option Value} {dp un : Nat} {gd : Option (List Code)} {cn : Str} {cs : Scope} {a : Addr} {ccd : Value} {cl : List (Str × Addr)} {outer : List Env} {A₀ : Around} {base h₀ : Heap} {L : Addr} {m : Str → Option Value} {s : Shared} {Q E : Value → Shared → Prop} {rest : List (Addr × Obj)}
    {src : Addr} {n : Nat} {x y top : Int} {tx ty tt : Tok}
    (B : Below A₀ base outer h₀) (F : Fr h₀ L s.heap m) (X : (hd.heap_39 w.params).In h₀) (N : News h₀ L s.heap ((src, listOf #[.int x tx, .int y ty] n) :: rest)) (T : Top hd.view_39 (looseW hd.view_39 []) mean mg mb h₀) (hk : cs.kind = .function) (hdp : dp + 1 < recursionLimit) (hun : un + 8 < cLine)
    (hoff : ∀ p ∈ rest, p.1 ≠ src) (hx : 0 ≤ x) (hy : 0 ≤ y) (hy2 : y < 2147483647) (ht : 1 ≤ top) (ht2 : top ≤ 100)
    (ret : ∀ d t x' y' tx' ty' h' tk', 0 ≤ d → d < top → 0 ≤ x' → 0 ≤ y' → y' < 2147483647 → Fr h₀ L h' m → News h₀ L h' ((src, listOf #[.int x' tx', .int y' ty'] n) :: rest) → Q (.int d t) { s with heap := h', toks := tk' }) :
    wpAny (model PySem.Challenge.rw_xm0681_01.row.prog w) (ktrTop dp un gd cn cs L a ccd cl outer) (call (.ref 49) [.ref src, .int top tt]) Q E s := by
  revert X; k_fill; intro X
  refine wpAny_call ?_
  k_dflt ktr_enter
  k_steps
  · refine' ret _ _ _ _ _ _ _ _ ?a ?b ?c ?d ?e ?F ?N
    case F => k_asm
    case N => k_asm
    case a => exact fm_lo _ (by omega)
    case b => exact fm_hi _ (by omega)
    case c => exact fd_lo hx (by omega)
    case d => exact hy
    case e => exact hy2
  · refine' ret _ _ _ _ _ _ _ _ ?a ?b ?c ?d ?e ?F ?N
    case F => k_asm
    case N => k_asm
    case a => omega
    case b => omega
    case c => exact hx
    case d => exact hy
    case e => exact hy2
  · refine' ret _ _ _ _ _ _ _ _ ?a ?b ?c ?d ?e ?F ?N
    case F => k_asm
    case N => k_asm
    case a => exact fm_lo _ (by omega)
    case b => exact fm_hi _ (by omega)
    case c => exact hx
    case d => exact fm_lo _ (by omega)
    case e => exact fm_hi _ (by omega)
end
theorem take_upd {w : World} {mean : ExcName → Option Value} {mg mb : Str → Option Value} {dp un : Nat} {gd : Option (List Code)} {cn : Str} {cs : Scope} {a : Addr} {ccd : Value} {cl : List (Str × Addr)} {outer : List Env} {A₀ : Around} {base h₀ : Heap} {L : Addr} {m : Str → Option Value} {s : Shared} {Q E : Value → Shared → Prop} {news : List (Addr × Obj)} {g : Obj → List (Addr × Obj)}
    {src : Addr} {n : Nat} {x y top : Int} {tx ty tt : Tok}
    (B : Below A₀ base outer h₀) (F : Fr h₀ L s.heap m) (X : (hd.heap_39 w.params).In h₀) (N : News h₀ L s.heap news) (T : Top hd.view_39 (looseW hd.view_39 []) mean mg mb h₀) (hk : cs.kind = .function) (hdp : dp + 1 < recursionLimit) (hun : un + 8 < cLine)
    (U : UpdF src (listOf #[.int x tx, .int y ty] n) news g) (hx : 0 ≤ x) (hy : 0 ≤ y) (hy2 : y < 2147483647) (ht : 1 ≤ top) (ht2 : top ≤ 100)
    (ret : ∀ d t x' y' tx' ty' h' tk', 0 ≤ d → d < top → 0 ≤ x' → 0 ≤ y' → y' < 2147483647 → Fr h₀ L h' m → News h₀ L h' (g (listOf #[.int x' tx', .int y' ty'] n)) → Q (.int d t) { s with heap := h', toks := tk' }) :
    wpAny (model PySem.Challenge.rw_xm0681_01.row.prog w) (ktrTop dp un gd cn cs L a ccd cl outer) (call (.ref 49) [.ref src, .int top tt]) Q E s := by
  obtain ⟨pre, post, e, hg, h1, h2⟩ := U.split
  have N' : News h₀ L s.heap ((src, listOf #[.int x tx, .int y ty] n) :: (pre ++ post)) := fun p hp => N p (by
    rw [e]
    rcases List.mem_cons.mp hp with rfl | hp
    · exact List.mem_append.mpr (.inr (.head _))
    · rcases List.mem_append.mp hp with hp | hp
      · exact List.mem_append.mpr (.inl hp)
      · exact List.mem_append.mpr (.inr (.tail _ hp)))
  refine take_ok B F X N' T hk hdp hun (fun p hp => (List.mem_append.mp hp).elim (h1 p) (h2 p)) hx hy hy2 ht ht2 ?_
  intro d t x' y' tx' ty' h' tk' a1 a2 a3 a4 a5 F' N''
  refine ret d t x' y' tx' ty' h' tk' a1 a2 a3 a4 a5 F' ?_
  rw [hg]
  intro p hp
  refine N'' p ?_
  rcases List.mem_append.mp hp with hp | hp
  · exact .tail _ (List.mem_append.mpr (.inl hp))
  · rcases List.mem_cons.mp hp with rfl | hp
    · exact .head _
    · exact .tail _ (List.mem_append.mpr (.inr hp))

local macro_rules | `(tactic| walk_at "call ref") => `(tactic| (k_here; (with_reducible show wpAny _ _ (call (Value.ref 49) _) _ _ _); k_dflt (refine' take_upd ?B ?F ?X ?N ?T ?hk ?hdp ?hun ?U ?hx ?hy ?hy2 ?ht ?ht2 ?_; (case hk => exact rfl); (case B => k_asm); (case F => k_asm); (case X => k_asm); (case N => k_asm); (case T => k_asm); (case U => k_updF); (case hdp => ktr_room); (case hun => units_room); (case hx => first | assumption | omega); (case hy => first | assumption | omega); (case hy2 => first | assumption | omega); (case ht => first | omega | l_fact); (case ht2 => first | omega | l_fact); k_whole); intro d' t' x' y' tx' ty' h' tk' hd1' hd2' hx1' hy1' hy2' F' N'; (try dsimp only at N'); (try dsimp only); (try k_sweep); (try k_fold)))

theorem off_one : True := by
  w_top off
  exact trivial
set_option maxRecDepth 100000 in
set_option maxHeartbeats 8000000 in
theorem one_ok {w : World} {mean : ExcName → Option Value} {mg mb : Str → Option Value} {dp un : Nat} {gd : Option (List Code)} {cn : Str} {cs : Scope} {a : Addr} {ccd : Value} {cl : List (Str × Addr)} {outer : List Env} {A₀ : Around} {base h₀ : Heap} {L : Addr} {m : Str → Option Value} {s : Shared} {Q E : Value → Shared → Prop} {rest : List (Addr × Obj)}
    {src th : Addr} {n nt : Nat} {x y : Int} {tx ty : Tok} {vs : List Value} {ns : List Int}
    (B : Below A₀ base outer h₀) (F : Fr h₀ L s.heap m) (X : (hd.heap_39 w.params).In h₀) (N : News h₀ L s.heap ((src, listOf #[.int x tx, .int y ty] n) :: (th, listOf vs.toArray nt) :: rest)) (T : Top hd.view_39 (looseW hd.view_39 []) mean mg mb h₀) (hk : cs.kind = .function) (hdp : dp + 2 < recursionLimit) (hun : un + 16 < cLine)
    (I : IntsAre vs ns) (hl1 : 1 ≤ ns.length) (hl2 : ns.length ≤ 10) (hts : th ≠ src) (hoff : ∀ p ∈ rest, p.1 ≠ src) (hx : 0 ≤ x) (hy : 0 ≤ y) (hy2 : y < 2147483647)
    (ret : ∀ v t x' y' tx' ty' h' tk', v ∈ ns → 0 ≤ x' → 0 ≤ y' → y' < 2147483647 → Fr h₀ L h' m → News h₀ L h' ((src, listOf #[.int x' tx', .int y' ty'] n) :: (th, listOf vs.toArray nt) :: rest) → Q (.int v t) { s with heap := h', toks := tk' }) :
    wpAny (model PySem.Challenge.rw_xm0681_01.row.prog w) (ktrTop dp un gd cn cs L a ccd cl outer) (call (.ref 56) [.ref src, .ref th]) Q E s := by
  revert X; k_fill; intro X
  refine wpAny_call ?_
  k_dflt ktr_enter
  k_steps
  refine' ret _ _ _ _ _ _ _ _ ?a ?c ?d ?e ?F ?N
  case F => k_asm
  case N => k_asm
  case a => exact getD_mem (by have := IntsAre.length I; omega)
  case c => assumption
  case d => assumption
  case e => assumption
theorem one_upd {w : World} {mean : ExcName → Option Value} {mg mb : Str → Option Value} {dp un : Nat} {gd : Option (List Code)} {cn : Str} {cs : Scope} {a : Addr} {ccd : Value} {cl : List (Str × Addr)} {outer : List Env} {A₀ : Around} {base h₀ : Heap} {L : Addr} {m : Str → Option Value} {s : Shared} {Q E : Value → Shared → Prop} {news : List (Addr × Obj)} {g : Obj → List (Addr × Obj)}
    {src th : Addr} {n nt : Nat} {x y : Int} {tx ty : Tok} {vs : List Value} {ns : List Int}
    (B : Below A₀ base outer h₀) (F : Fr h₀ L s.heap m) (X : (hd.heap_39 w.params).In h₀) (N : News h₀ L s.heap news) (T : Top hd.view_39 (looseW hd.view_39 []) mean mg mb h₀) (hk : cs.kind = .function) (hdp : dp + 2 < recursionLimit) (hun : un + 16 < cLine)
    (U : UpdF src (listOf #[.int x tx, .int y ty] n) news g) (hm : (th, listOf vs.toArray nt) ∈ news) (I : IntsAre vs ns) (hl1 : 1 ≤ ns.length) (hl2 : ns.length ≤ 10) (hts : th ≠ src) (hx : 0 ≤ x) (hy : 0 ≤ y) (hy2 : y < 2147483647)
    (ret : ∀ v t x' y' tx' ty' h' tk', v ∈ ns → 0 ≤ x' → 0 ≤ y' → y' < 2147483647 → Fr h₀ L h' m → News h₀ L h' (g (listOf #[.int x' tx', .int y' ty'] n)) → Q (.int v t) { s with heap := h', toks := tk' }) :
    wpAny (model PySem.Challenge.rw_xm0681_01.row.prog w) (ktrTop dp un gd cn cs L a ccd cl outer) (call (.ref 56) [.ref src, .ref th]) Q E s := by
  obtain ⟨pre, post, e, hg, h1, h2⟩ := U.split
  have N' : News h₀ L s.heap ((src, listOf #[.int x tx, .int y ty] n) :: (th, listOf vs.toArray nt) :: (pre ++ post)) := fun p hp => N p (by
    rcases List.mem_cons.mp hp with rfl | hp
    · rw [e]; exact List.mem_append.mpr (.inr (.head _))
    · rcases List.mem_cons.mp hp with rfl | hp
      · exact hm
      · rw [e]
        rcases List.mem_append.mp hp with hp | hp
        · exact List.mem_append.mpr (.inl hp)
        · exact List.mem_append.mpr (.inr (.tail _ hp)))
  refine one_ok B F X N' T hk hdp hun I hl1 hl2 hts (fun p hp => (List.mem_append.mp hp).elim (h1 p) (h2 p)) hx hy hy2 ?_
  intro v t x' y' tx' ty' h' tk' a1 a3 a4 a5 F' N''
  refine ret v t x' y' tx' ty' h' tk' a1 a3 a4 a5 F' ?_
  rw [hg]
  intro p hp
  refine N'' p ?_
  rcases List.mem_append.mp hp with hp | hp
  · exact .tail _ (.tail _ (List.mem_append.mpr (.inl hp)))
  · rcases List.mem_cons.mp hp with rfl | hp
    · exact .head _
    · exact .tail _ (.tail _ (List.mem_append.mpr (.inr hp)))

local macro_rules | `(tactic| walk_at "call ref") => `(tactic| (k_here; (with_reducible show wpAny _ _ (call (Value.ref 56) _) _ _ _); k_dflt (refine' one_upd ?B ?F ?X ?N ?T ?hk ?hdp ?hun ?U ?hm ?I ?hl1 ?hl2 ?hts ?hx ?hy ?hy2 ?_; (case hk => exact rfl); (case B => k_asm); (case F => k_asm); (case X => k_asm); (case N => k_asm); (case T => k_asm); (case U => k_updF); (case hm => k_mem); (case I => l_ints); (case hdp => ktr_room); (case hun => units_room); (case hl1 => (simp only [List.length_cons, List.length_nil]; omega)); (case hl2 => (simp only [List.length_cons, List.length_nil]; omega)); (case hts => k_ne); (case hx => first | assumption | omega); (case hy => first | assumption | omega); (case hy2 => first | assumption | omega); k_whole); intro v' t' x' y' tx' ty' h' tk' hv' hx1' hy1' hy2' F' N'; (try (first | (have hvb' : -3 ≤ v' ∧ v' ≤ 9 := (by (simp only [List.mem_cons, List.not_mem_nil, or_false] at hv'; omega))) | (have hvb' : 1 ≤ v' ∧ v' ≤ 100000000000000000000 := (by (simp only [List.mem_cons, List.not_mem_nil, or_false, Int.reduceToNat, Int.reducePow] at hv'; omega))))); (try dsimp only at N'); (try dsimp only); (try k_sweep); (try k_fold)))

theorem off_part : True := by
  w_top off
  exact trivial
theorem part_step {v u : Int} (h1 : v ∈ [(1 : Int), 2, 3, 1, 10 ^ Int.toNat 20]) (h2 : u ∈ [(1 : Int), -1]) : v * u ≠ 0 ∧ -100000000000000000000 ≤ v * u ∧ v * u ≤ 100000000000000000000 := by
  simp only [List.mem_cons, List.not_mem_nil, or_false, Int.reduceToNat, Int.reducePow] at h1 h2
  rcases h2 with rfl | rfl <;> omega
theorem mul_row {x k c : Int} (h0 : 0 ≤ k) (h1 : k < 0 + ((c - 0).toNat : Int)) (h2 : -3 ≤ c ∧ c ≤ 9) : PySem.IntMulOk x k := PySem.IntMulOk.of_right (PySem.intBits_le_64 (by omega) (by omega))
section
local macro_rules | `(tactic| walk_at "binaryOp Mult int int") => `(tactic| (with_reducible refine mul_int ?_ (mul_row (by assumption) (by assumption) (by assumption))))
set_option maxRecDepth 100000 in
set_option maxHeartbeats 8000000 in
theorem part_ok {w : World} {mean : ExcName → Option Value} {mg mb : Str → Option Value} {dp un : Nat} {gd : Option (List Code)} {cn : Str} {cs : Scope} {a : Addr} {ccd : Value} {cl : List (Str × Addr)} {outer : List Env} {A₀ : Around} {base h₀ : Heap} {L : Addr} {m : Str → Option Value} {s : Shared} {Q E : Value → Shared → Prop} {rest : List (Addr × Obj)}
    {src : Addr} {n : Nat} {x y size : Int} {tx ty ts : Tok}
    (B : Below A₀ base outer h₀) (F : Fr h₀ L s.heap m) (X : (hd.heap_39 w.params).In h₀) (N : News h₀ L s.heap ((src, listOf #[.int x tx, .int y ty] n) :: rest)) (T : Top hd.view_39 (looseW hd.view_39 []) mean mg mb h₀) (hk : cs.kind = .function) (hdp : dp + 8 < recursionLimit) (hun : un + 64 < cLine)
    (hoff : ∀ p ∈ rest, p.1 ≠ src) (hx : 0 ≤ x) (hy : 0 ≤ y) (hy2 : y < 2147483647) (hs : 0 ≤ size) (hs2 : size ≤ 6)
    (rall : ∀ r ix nr nx vs x' y' tx' ty' h' tk', IntsAre vs (rangeKs 1 (size + 1 - 1).toNat) → 0 ≤ x' → 0 ≤ y' → y' < 2147483647 → r ≠ src → ix ≠ src → Fr h₀ L h' m → News h₀ L h' ((r, tupOf [.none, .ref ix] nr) :: (ix, listOf vs.toArray nx) :: (src, listOf #[.int x' tx', .int y' ty'] n) :: rest) → Q (.ref r) { s with heap := h', toks := tk' }) (rnum : ∀ r ix nr nx v t1 t2 x' y' tx' ty' h' tk', -1 ≤ v → v ≤ size + 2 → 0 ≤ x' → 0 ≤ y' → y' < 2147483647 → r ≠ src → ix ≠ src → Fr h₀ L h' m → News h₀ L h' ((r, tupOf [.int v t1, .ref ix] nr) :: (ix, listOf [.int v t2].toArray nx) :: (src, listOf #[.int x' tx', .int y' ty'] n) :: rest) → Q (.ref r) { s with heap := h', toks := tk' }) (rrow : ∀ r ix pa nr nx np f k c tf tk tc vs x' y' tx' ty' h' tk', IntsAre vs ((rangeKs 0 (c - 0).toNat).map fun i => f + k * i) → -3 ≤ f → f ≤ 9 → k ≠ 0 → -100000000000000000000 ≤ k → k ≤ 100000000000000000000 → -3 ≤ c → c ≤ 9 → 0 ≤ x' → 0 ≤ y' → y' < 2147483647 → r ≠ src → ix ≠ src → pa ≠ src → Fr h₀ L h' m → News h₀ L h' ((r, tupOf [.ref pa, .ref ix] nr) :: (ix, listOf vs.toArray nx) :: (pa, tupOf [.int f tf, .int k tk, .int c tc] np) :: (src, listOf #[.int x' tx', .int y' ty'] n) :: rest) → Q (.ref r) { s with heap := h', toks := tk' }) :
    wpAny (model PySem.Challenge.rw_xm0681_01.row.prog w) (ktrTop dp un gd cn cs L a ccd cl outer) (call (.ref 61) [.ref src, .int size ts]) Q E s := by
  revert X; k_fill; intro X
  refine wpAny_call ?_
  k_dflt (refine' code_defC ?k1 ?k2 ?k3 ?k4 ?k5 ?kA ?kF ?kK ?k6 ?k7 ?k8 ?k9 ?kB ?kD ?_ ?c2 ?c3 ?c4; (case kA => exact rfl); (case kF => exact rfl); (case kK => assumption); (case k1 => k_asm); (case k2 => k_asm); (case k3 => k_asm); (case k4 => k_asm); (case k5 => k_asm); (case k6 => k_is); (case k7 => k_is); (case k8 => ktr_room); (case k9 => exact BindsTo.of_eq rfl); (case kB => exact rfl); (case kD => decide +kernel); (case c2 => exact rfl); (case c3 => exact rfl); (case c4 => exact rfl); k_whole; intro g' L' h' tk' cells' FG' F' N' Y' B' X' T' l1; (have l1r := l1); (try k_lt l1); (have hLr : ∀ p ∈ rest, p.1 < L' := fun p hp => l1r p (by first | exact hp | exact .tail _ hp | exact .tail _ (.tail _ hp) | exact .tail _ (.tail _ (.tail _ hp)) | exact .tail _ (.tail _ (.tail _ (.tail _ hp))))); clear l1r; k_cells Y'; (try simp only [List.cons_append, List.nil_append] at N'); (try dsimp only); (try k_lift B'); (try k_fold))
  k_steps
  · refine' rall _ _ _ _ _ _ _ _ _ _ _ ?I ?a ?b ?c ?d ?e ?F ?N
    case F => k_asm
    case N => tb_rel
    case I => assumption
    case a => assumption
    case b => assumption
    case c => assumption
    case d => k_ne
    case e => k_ne
  · refine' rnum _ _ _ _ _ _ _ _ _ _ _ _ _ ?I ?J ?a ?b ?c ?d ?e ?F ?N
    case F => k_asm
    case N => tb_rel
    case I => omega
    case J => omega
    case a => assumption
    case b => assumption
    case c => assumption
    case d => k_ne
    case e => k_ne
  · refine' rrow _ _ _ _ _ _ _ _ _ _ _ _ _ _ _ _ _ _ _ ?I ?I1 ?I2 ?I3 ?I4 ?I5 ?I6 ?I7 ?a ?b ?c ?d ?e ?f ?F ?N
    case F => k_asm
    case N => tb_rel
    case I => assumption
    case I1 => omega
    case I2 => omega
    case I3 => exact (part_step (by assumption) (by assumption)).1
    case I4 => exact (part_step (by assumption) (by assumption)).2.1
    case I5 => exact (part_step (by assumption) (by assumption)).2.2
    case I6 => omega
    case I7 => omega
    case a => assumption
    case b => assumption
    case c => assumption
    case d => k_ne
    case e => (ktr_unf; first | assumption | (refine Ne.symm ?_; assumption))
    case f => k_ne
end


theorem off_pool : True := by
  w_top off
  exact trivial
theorem pool_lo (e : Int) (b : Bool) : 0 ≤ (if -1 - e > e then -1 - e else e) * (if b = true then 1 else 0) := by
  cases b
  · simp
  · simp only [if_true, Int.mul_one]; split <;> omega
theorem pool_y (z : Int) (b : Bool) : 0 ≤ z.fmod 2147483647 * (if b = true then 1 else 0) ∧ z.fmod 2147483647 * (if b = true then 1 else 0) < 2147483647 := by
  have h1 := fm_lo z (b := 2147483647) (by decide)
  have h2 := fm_hi z (b := 2147483647) (by decide)
  cases b
  · simp
  · simp only [if_true, Int.mul_one]; exact ⟨h1, h2⟩
set_option maxRecDepth 100000 in
set_option maxHeartbeats 8000000 in
theorem pool_ok {w : World} {mean : ExcName → Option Value} {mg mb : Str → Option Value} {dp un : Nat} {gd : Option (List Code)} {cn : Str} {cs : Scope} {a : Addr} {ccd : Value} {cl : List (Str × Addr)} {outer : List Env} {A₀ : Around} {base h₀ : Heap} {L : Addr} {m : Str → Option Value} {s : Shared} {Q E : Value → Shared → Prop} {rest : List (Addr × Obj)}
    {sc : Addr} {vs : List Value} {ns : List Int}
    (B : Below A₀ base outer h₀) (F : Fr h₀ L s.heap m) (X : (hd.heap_39 w.params).In h₀) (N : News h₀ L s.heap (rest)) (T : Top hd.view_39 (looseW hd.view_39 []) mean mg mb h₀) (hk : cs.kind = .function) (hdp : dp + 8 < recursionLimit) (hun : un + 64 < cLine)
    (hl : base.IsList sc vs.toArray) (I : IntsAre vs ns) (hlay : (PyData.list (ns.map PyData.int)).layable0 = true)
    (ret : ∀ r n x y tx ty h' tk', 0 ≤ x → 0 ≤ y → y < 2147483647 → (∀ p ∈ rest, p.1 < r) → Fr h₀ L h' m → News h₀ L h' ((r, listOf #[.int x tx, .int y ty] n) :: rest) → Q (.ref r) { s with heap := h', toks := tk' }) :
    wpAny (model PySem.Challenge.rw_xm0681_01.row.prog w) (ktrTop dp un gd cn cs L a ccd cl outer) (call (.ref 42) [.ref sc]) Q E s := by
  revert X; k_fill; intro X
  refine wpAny_call ?_
  k_dflt (refine' code_def ?k1 ?k2 ?k3 ?k4 ?k5 ?kA ?kF ?kK ?k6 ?k7 ?k8 ?k9 ?kB ?_ ?c2 ?c3 ?c4 ?c5; (case kA => exact rfl); (case kF => exact rfl); (case kK => assumption); (case k1 => k_asm); (case k2 => k_asm); (case k3 => k_asm); (case k4 => k_asm); (case k5 => k_asm); (case k6 => k_is); (case k7 => k_is); (case k8 => ktr_room); (case k9 => exact BindsTo.of_eq rfl); (case c5 => decide); (case kB => exact locs rfl); (case c2 => exact rfl); (case c3 => exact rfl); (case c4 => exact rfl); k_whole; intro g' L' h' FG' F' N' B' X' T'; (try dsimp only); (try k_lift B'); (try k_fold))
  k_steps
  all_goals (
    refine' ret _ _ _ _ _ _ _ _ ?pa ?pb ?pc ?pd ?F ?N
    case F => k_asm
    case N => tb_rel
    case pa => exact pool_lo _ _
    case pb => exact (pool_y _ _).1
    case pc => exact (pool_y _ _).2
    case pd => assumption)


theorem off_trow : True := by
  w_top off
  exact trivial
def rowOf (f k c size : Int) : Option (Int × Int × Int) := if c ≤ 0 then some (1, k, 0) else if c ≤ size ∧ 1 ≤ f ∧ f ≤ size ∧ 1 ≤ f + k * (c - 1) ∧ f + k * (c - 1) ≤ size then some (f, k, c) else none
set_option maxRecDepth 100000 in
set_option maxHeartbeats 8000000 in
theorem trow_row {w : World} {mean : ExcName → Option Value} {mg mb : Str → Option Value} {dp un : Nat} {gd : Option (List Code)} {cn : Str} {cs : Scope} {a : Addr} {ccd : Value} {cl : List (Str × Addr)} {outer : List Env} {A₀ : Around} {base h₀ : Heap} {L : Addr} {m : Str → Option Value} {s : Shared} {Q E : Value → Shared → Prop} {rest : List (Addr × Obj)}
    {pa : Addr} {np : Nat} {f k c size : Int} {tf tk tc ts : Tok}
    (B : Below A₀ base outer h₀) (F : Fr h₀ L s.heap m) (X : (hd.heap_39 w.params).In h₀) (N : News h₀ L s.heap ((pa, tupOf [.int f tf, .int k tk, .int c tc] np) :: rest)) (T : Top hd.view_39 (looseW hd.view_39 []) mean mg mb h₀) (hk : cs.kind = .function) (hdp : dp + 8 < recursionLimit) (hun : un + 64 < cLine)
    (hc : c ≤ 9)
    (rn : rowOf f k c size = none → ∀ h' tk', Fr h₀ L h' m → News h₀ L h' ((pa, tupOf [.int f tf, .int k tk, .int c tc] np) :: rest) → Q .none { s with heap := h', toks := tk' }) (rs : ∀ a1 a2 a3 t1 t2 t3 r nr h' tk', rowOf f k c size = some (a1, a2, a3) → Fr h₀ L h' m → News h₀ L h' ((r, tupOf [.int a1 t1, .int a2 t2, .int a3 t3] nr) :: (pa, tupOf [.int f tf, .int k tk, .int c tc] np) :: rest) → Q (.ref r) { s with heap := h', toks := tk' }) :
    wpAny (model PySem.Challenge.rw_xm0681_01.row.prog w) (ktrTop dp un gd cn cs L a ccd cl outer) (call (.ref 21) [.ref pa, .int size ts]) Q E s := by
  revert X; k_fill; intro X
  refine wpAny_call ?_
  k_dflt ktr_enter
  k_steps
  all_goals first
    | (refine' rs _ _ _ _ _ _ _ _ _ _ ?e ?F ?N; (case F => k_asm); (case N => tb_rel); (case e => (unfold rowOf; (repeat' split) <;> first | rfl | (exfalso; omega))))
    | (refine' rn ?e _ _ ?F ?N; (case F => k_asm); (case N => tb_rel); (case e => (unfold rowOf; (repeat' split) <;> first | rfl | (exfalso; omega))))
set_option maxRecDepth 100000 in
set_option maxHeartbeats 8000000 in
theorem trow_num {w : World} {mean : ExcName → Option Value} {mg mb : Str → Option Value} {dp un : Nat} {gd : Option (List Code)} {cn : Str} {cs : Scope} {a : Addr} {ccd : Value} {cl : List (Str × Addr)} {outer : List Env} {A₀ : Around} {base h₀ : Heap} {L : Addr} {m : Str → Option Value} {s : Shared} {Q E : Value → Shared → Prop} {rest : List (Addr × Obj)}
    {v size : Int} {tv ts : Tok}
    (B : Below A₀ base outer h₀) (F : Fr h₀ L s.heap m) (X : (hd.heap_39 w.params).In h₀) (N : News h₀ L s.heap (rest)) (T : Top hd.view_39 (looseW hd.view_39 []) mean mg mb h₀) (hk : cs.kind = .function) (hdp : dp + 8 < recursionLimit) (hun : un + 64 < cLine)
    
    (rn : ¬ (1 ≤ v ∧ v ≤ size) → ∀ h' tk', Fr h₀ L h' m → News h₀ L h' rest → Q .none { s with heap := h', toks := tk' }) (rs : 1 ≤ v ∧ v ≤ size → ∀ t1 t2 r nr h' tk', Fr h₀ L h' m → News h₀ L h' ((r, tupOf [.int v t1, .int 1 t2, .none] nr) :: rest) → Q (.ref r) { s with heap := h', toks := tk' }) :
    wpAny (model PySem.Challenge.rw_xm0681_01.row.prog w) (ktrTop dp un gd cn cs L a ccd cl outer) (call (.ref 21) [.int v tv, .int size ts]) Q E s := by
  revert X; k_fill; intro X
  refine wpAny_call ?_
  k_dflt ktr_enter
  k_steps
  all_goals first
    | (refine' rs ?e _ _ _ _ _ _ ?F ?N; (case F => k_asm); (case N => tb_rel); (case e => omega))
    | (refine' rn ?e _ _ ?F ?N; (case F => k_asm); (case N => tb_rel); (case e => omega))
set_option maxRecDepth 100000 in
set_option maxHeartbeats 8000000 in
theorem trow_all {w : World} {mean : ExcName → Option Value} {mg mb : Str → Option Value} {dp un : Nat} {gd : Option (List Code)} {cn : Str} {cs : Scope} {a : Addr} {ccd : Value} {cl : List (Str × Addr)} {outer : List Env} {A₀ : Around} {base h₀ : Heap} {L : Addr} {m : Str → Option Value} {s : Shared} {Q E : Value → Shared → Prop} {rest : List (Addr × Obj)}
    {size : Int} {ts : Tok}
    (B : Below A₀ base outer h₀) (F : Fr h₀ L s.heap m) (X : (hd.heap_39 w.params).In h₀) (N : News h₀ L s.heap (rest)) (T : Top hd.view_39 (looseW hd.view_39 []) mean mg mb h₀) (hk : cs.kind = .function) (hdp : dp + 8 < recursionLimit) (hun : un + 64 < cLine)
    
    (rs : ∀ t1 t2 t3 r nr h' tk', Fr h₀ L h' m → News h₀ L h' ((r, tupOf [.int 1 t1, .int 1 t2, .int size t3] nr) :: rest) → Q (.ref r) { s with heap := h', toks := tk' }) :
    wpAny (model PySem.Challenge.rw_xm0681_01.row.prog w) (ktrTop dp un gd cn cs L a ccd cl outer) (call (.ref 21) [.none, .int size ts]) Q E s := by
  revert X; k_fill; intro X
  refine wpAny_call ?_
  k_dflt ktr_enter
  k_steps
  refine' rs _ _ _ _ _ _ _ ?F ?N
  case F => k_asm
  case N => tb_rel


theorem off_ltaken : True := by
  w_top off
  exact trivial
def outs (size : Int) (ns : List Int) : List Int := ns.filter fun i => decide (i < 1) || decide (size < i)
theorem outs_nil {size : Int} {ns : List Int} (h : decide (List.map (fun a => a) (List.filter (fun i => decide (i < 1) || decide (size < i)) ns) = []) = true) : outs size ns = [] := by
  have h := of_decide_eq_true h
  rw [List.map_id'] at h
  exact h
theorem outs_ne {size : Int} {ns : List Int} (h : decide (List.map (fun a => a) (List.filter (fun i => decide (i < 1) || decide (size < i)) ns) = []) = false) : outs size ns ≠ [] := by
  have h := of_decide_eq_false h
  rw [List.map_id'] at h
  exact h
section
local macro_rules | `(tactic| walk_at "eval ListComp") => `(tactic| (k_here; refine Stop.out ?_))
set_option maxRecDepth 100000 in
set_option maxHeartbeats 8000000 in
theorem ltaken_row {w : World} {mean : ExcName → Option Value} {mg mb : Str → Option Value} {dp un : Nat} {gd : Option (List Code)} {cn : Str} {cs : Scope} {a : Addr} {ccd : Value} {cl : List (Str × Addr)} {outer : List Env} {A₀ : Around} {base h₀ : Heap} {L : Addr} {m : Str → Option Value} {s : Shared} {Q E : Value → Shared → Prop} {rest : List (Addr × Obj)}
    {pa ix : Addr} {np nx : Nat} {f k c size : Int} {tf tk tc ts : Tok} {vs : List Value} {ns : List Int}
    (B : Below A₀ base outer h₀) (F : Fr h₀ L s.heap m) (X : (hd.heap_39 w.params).In h₀) (N : News h₀ L s.heap ((ix, listOf vs.toArray nx) :: (pa, tupOf [.int f tf, .int k tk, .int c tc] np) :: rest)) (T : Top hd.view_39 (looseW hd.view_39 []) mean mg mb h₀) (hk : cs.kind = .function) (hdp : dp + 8 < recursionLimit) (hun : un + 160 < cLine)
    (I : IntsAre vs ns) (hl : ns.length ≤ 100)
    (rn : outs size ns ≠ [] → ∀ h' tk', Fr h₀ L h' m → News h₀ L h' ((ix, listOf vs.toArray nx) :: (pa, tupOf [.int f tf, .int k tk, .int c tc] np) :: rest) → Q .none { s with heap := h', toks := tk' }) (rs : outs size ns = [] → ∀ a1 t1 t2 t3 r nr h' tk', (ns = [] → a1 = 1) → (ns ≠ [] → a1 = f) → Fr h₀ L h' m → News h₀ L h' ((r, tupOf [.int a1 t1, .int k t2, .int (ns.length : Int) t3] nr) :: (ix, listOf vs.toArray nx) :: (pa, tupOf [.int f tf, .int k tk, .int c tc] np) :: rest) → Q (.ref r) { s with heap := h', toks := tk' }) :
    wpAny (model PySem.Challenge.rw_xm0681_01.row.prog w) (ktrTop dp un gd cn cs L a ccd cl outer) (call (.ref 66) [.ref pa, .ref ix, .int size ts]) Q E s := by
  revert X; k_fill; intro X
  refine wpAny_call ?_
  k_dflt (refine' code_defC ?k1 ?k2 ?k3 ?k4 ?k5 ?kA ?kF ?kK ?k6 ?k7 ?k8 ?k9 ?kB ?kD ?_ ?c2 ?c3 ?c4; (case kA => exact rfl); (case kF => exact rfl); (case kK => assumption); (case k1 => k_asm); (case k2 => k_asm); (case k3 => k_asm); (case k4 => k_asm); (case k5 => k_asm); (case k6 => k_is); (case k7 => k_is); (case k8 => ktr_room); (case k9 => exact BindsTo.of_eq rfl); (case kB => exact rfl); (case kD => decide +kernel); (case c2 => exact rfl); (case c3 => exact rfl); (case c4 => exact rfl); k_whole; intro g' L' h' tk' cells' FG' F' N' Y' B' X' T' l1; (have l1r := l1); (try k_lt l1); (have hLr : ∀ p ∈ rest, p.1 < L' := fun p hp => l1r p (by first | exact hp | exact .tail _ hp | exact .tail _ (.tail _ hp) | exact .tail _ (.tail _ (.tail _ hp)) | exact .tail _ (.tail _ (.tail _ (.tail _ hp))))); clear l1r; k_cells Y'; (try simp only [List.cons_append, List.nil_append] at N'); (try dsimp only); (try k_lift B'); (try k_fold))
  k_steps
  refine Stop.intro ?_
  refine' ListComp_DCn (K := ItemKind.int) (pz := fun i => decide (i < 1) || decide (size < i)) (d := PyData.int) ?hh ?hclos ?hcell ?hkind ?hnames ?hx ?h ?hs
  case hh => with_unfolding_all rfl
  case hclos => with_unfolding_all rfl
  case hcell => decide
  case hkind => with_unfolding_all rfl
  case hnames => decide
  case hx => with_unfolding_all rfl
  case hs => intro _; with_unfolding_all rfl
  case h =>
    with_reducible refine wpAny_compPack ?_
    k_steps
    all_goals first
      | (refine SeqLeaf.intro ?_; (with_unfolding_all refine ⟨?_, _, _, rfl, fun _ _ e => e⟩); first | (symm; simp only [Bool.or_eq_true, decide_eq_true_eq]; omega) | (symm; simp only [Bool.or_eq_false_iff, decide_eq_false_iff_not]; omega))
      | (refine' rn ?e _ _ ?F ?N; (case F => k_asm); (case N => tb_rel); (case e => exact outs_ne (by assumption)))
      | (refine' rs ?e _ _ _ _ _ _ _ _ ?e1 ?e2 ?F ?N; (case F => k_asm); (case N => tb_rel); (case e => exact outs_nil (by assumption)); (case e1 => (intro hq; first | rfl | exact absurd hq (of_decide_eq_false (by assumption)))); (case e2 => (intro hq; first | rfl | exact absurd (of_decide_eq_true (by assumption)) hq)))
      | exact default
set_option maxRecDepth 100000 in
set_option maxHeartbeats 8000000 in
theorem ltaken_num {w : World} {mean : ExcName → Option Value} {mg mb : Str → Option Value} {dp un : Nat} {gd : Option (List Code)} {cn : Str} {cs : Scope} {a : Addr} {ccd : Value} {cl : List (Str × Addr)} {outer : List Env} {A₀ : Around} {base h₀ : Heap} {L : Addr} {m : Str → Option Value} {s : Shared} {Q E : Value → Shared → Prop} {rest : List (Addr × Obj)}
    {ix : Addr} {nx : Nat} {v size : Int} {tv ts : Tok} {vs : List Value} {ns : List Int}
    (B : Below A₀ base outer h₀) (F : Fr h₀ L s.heap m) (X : (hd.heap_39 w.params).In h₀) (N : News h₀ L s.heap ((ix, listOf vs.toArray nx) :: rest)) (T : Top hd.view_39 (looseW hd.view_39 []) mean mg mb h₀) (hk : cs.kind = .function) (hdp : dp + 8 < recursionLimit) (hun : un + 160 < cLine)
    (I : IntsAre vs ns) (hl : ns.length ≤ 100)
    (rn : outs size ns ≠ [] → ∀ h' tk', Fr h₀ L h' m → News h₀ L h' ((ix, listOf vs.toArray nx) :: rest) → Q .none { s with heap := h', toks := tk' }) (rs : outs size ns = [] → ∀ t1 t2 r nr h' tk', Fr h₀ L h' m → News h₀ L h' ((r, tupOf [.int v t1, .int 1 t2, .none] nr) :: (ix, listOf vs.toArray nx) :: rest) → Q (.ref r) { s with heap := h', toks := tk' }) :
    wpAny (model PySem.Challenge.rw_xm0681_01.row.prog w) (ktrTop dp un gd cn cs L a ccd cl outer) (call (.ref 66) [.int v tv, .ref ix, .int size ts]) Q E s := by
  revert X; k_fill; intro X
  refine wpAny_call ?_
  k_dflt (refine' code_defC ?k1 ?k2 ?k3 ?k4 ?k5 ?kA ?kF ?kK ?k6 ?k7 ?k8 ?k9 ?kB ?kD ?_ ?c2 ?c3 ?c4; (case kA => exact rfl); (case kF => exact rfl); (case kK => assumption); (case k1 => k_asm); (case k2 => k_asm); (case k3 => k_asm); (case k4 => k_asm); (case k5 => k_asm); (case k6 => k_is); (case k7 => k_is); (case k8 => ktr_room); (case k9 => exact BindsTo.of_eq rfl); (case kB => exact rfl); (case kD => decide +kernel); (case c2 => exact rfl); (case c3 => exact rfl); (case c4 => exact rfl); k_whole; intro g' L' h' tk' cells' FG' F' N' Y' B' X' T' l1; (have l1r := l1); (try k_lt l1); (have hLr : ∀ p ∈ rest, p.1 < L' := fun p hp => l1r p (by first | exact hp | exact .tail _ hp | exact .tail _ (.tail _ hp) | exact .tail _ (.tail _ (.tail _ hp)) | exact .tail _ (.tail _ (.tail _ (.tail _ hp))))); clear l1r; k_cells Y'; (try simp only [List.cons_append, List.nil_append] at N'); (try dsimp only); (try k_lift B'); (try k_fold))
  k_steps
  refine Stop.intro ?_
  refine' ListComp_DCn (K := ItemKind.int) (pz := fun i => decide (i < 1) || decide (size < i)) (d := PyData.int) ?hh ?hclos ?hcell ?hkind ?hnames ?hx ?h ?hs
  case hh => with_unfolding_all rfl
  case hclos => with_unfolding_all rfl
  case hcell => decide
  case hkind => with_unfolding_all rfl
  case hnames => decide
  case hx => with_unfolding_all rfl
  case hs => intro _; with_unfolding_all rfl
  case h =>
    with_reducible refine wpAny_compPack ?_
    k_steps
    all_goals first
      | (refine SeqLeaf.intro ?_; (with_unfolding_all refine ⟨?_, _, _, rfl, fun _ _ e => e⟩); first | (symm; simp only [Bool.or_eq_true, decide_eq_true_eq]; omega) | (symm; simp only [Bool.or_eq_false_iff, decide_eq_false_iff_not]; omega))
      | (refine' rn ?e _ _ ?F ?N; (case F => k_asm); (case N => tb_rel); (case e => exact outs_ne (by assumption)))
      | (refine' rs ?e _ _ _ _ _ _ ?F ?N; (case F => k_asm); (case N => tb_rel); (case e => exact outs_nil (by assumption)))
      | exact default
set_option maxRecDepth 100000 in
set_option maxHeartbeats 8000000 in
theorem ltaken_all {w : World} {mean : ExcName → Option Value} {mg mb : Str → Option Value} {dp un : Nat} {gd : Option (List Code)} {cn : Str} {cs : Scope} {a : Addr} {ccd : Value} {cl : List (Str × Addr)} {outer : List Env} {A₀ : Around} {base h₀ : Heap} {L : Addr} {m : Str → Option Value} {s : Shared} {Q E : Value → Shared → Prop} {rest : List (Addr × Obj)}
    {ix : Addr} {nx : Nat} {size : Int} {ts : Tok} {vs : List Value} {ns : List Int}
    (B : Below A₀ base outer h₀) (F : Fr h₀ L s.heap m) (X : (hd.heap_39 w.params).In h₀) (N : News h₀ L s.heap ((ix, listOf vs.toArray nx) :: rest)) (T : Top hd.view_39 (looseW hd.view_39 []) mean mg mb h₀) (hk : cs.kind = .function) (hdp : dp + 8 < recursionLimit) (hun : un + 160 < cLine)
    (I : IntsAre vs ns) (hl : ns.length ≤ 100)
    (rn : outs size ns ≠ [] → ∀ h' tk', Fr h₀ L h' m → News h₀ L h' ((ix, listOf vs.toArray nx) :: rest) → Q .none { s with heap := h', toks := tk' }) (rs : outs size ns = [] → ∀ t1 t2 t3 r nr h' tk', Fr h₀ L h' m → News h₀ L h' ((r, tupOf [.int 1 t1, .int 1 t2, .int size t3] nr) :: (ix, listOf vs.toArray nx) :: rest) → Q (.ref r) { s with heap := h', toks := tk' }) :
    wpAny (model PySem.Challenge.rw_xm0681_01.row.prog w) (ktrTop dp un gd cn cs L a ccd cl outer) (call (.ref 66) [.none, .ref ix, .int size ts]) Q E s := by
  revert X; k_fill; intro X
  refine wpAny_call ?_
  k_dflt (refine' code_defC ?k1 ?k2 ?k3 ?k4 ?k5 ?kA ?kF ?kK ?k6 ?k7 ?k8 ?k9 ?kB ?kD ?_ ?c2 ?c3 ?c4; (case kA => exact rfl); (case kF => exact rfl); (case kK => assumption); (case k1 => k_asm); (case k2 => k_asm); (case k3 => k_asm); (case k4 => k_asm); (case k5 => k_asm); (case k6 => k_is); (case k7 => k_is); (case k8 => ktr_room); (case k9 => exact BindsTo.of_eq rfl); (case kB => exact rfl); (case kD => decide +kernel); (case c2 => exact rfl); (case c3 => exact rfl); (case c4 => exact rfl); k_whole; intro g' L' h' tk' cells' FG' F' N' Y' B' X' T' l1; (have l1r := l1); (try k_lt l1); (have hLr : ∀ p ∈ rest, p.1 < L' := fun p hp => l1r p (by first | exact hp | exact .tail _ hp | exact .tail _ (.tail _ hp) | exact .tail _ (.tail _ (.tail _ hp)) | exact .tail _ (.tail _ (.tail _ (.tail _ hp))))); clear l1r; k_cells Y'; (try simp only [List.cons_append, List.nil_append] at N'); (try dsimp only); (try k_lift B'); (try k_fold))
  k_steps
  refine Stop.intro ?_
  refine' ListComp_DCn (K := ItemKind.int) (pz := fun i => decide (i < 1) || decide (size < i)) (d := PyData.int) ?hh ?hclos ?hcell ?hkind ?hnames ?hx ?h ?hs
  case hh => with_unfolding_all rfl
  case hclos => with_unfolding_all rfl
  case hcell => decide
  case hkind => with_unfolding_all rfl
  case hnames => decide
  case hx => with_unfolding_all rfl
  case hs => intro _; with_unfolding_all rfl
  case h =>
    with_reducible refine wpAny_compPack ?_
    k_steps
    all_goals first
      | (refine SeqLeaf.intro ?_; (with_unfolding_all refine ⟨?_, _, _, rfl, fun _ _ e => e⟩); first | (symm; simp only [Bool.or_eq_true, decide_eq_true_eq]; omega) | (symm; simp only [Bool.or_eq_false_iff, decide_eq_false_iff_not]; omega))
      | (refine' rn ?e _ _ ?F ?N; (case F => k_asm); (case N => tb_rel); (case e => exact outs_ne (by assumption)))
      | (refine' rs ?e _ _ _ _ _ _ _ ?F ?N; (case F => k_asm); (case N => tb_rel); (case e => exact outs_nil (by assumption)))
      | exact default
end


theorem off_edge : True := by
  w_top off
  exact trivial
def edgeOf (f k c size : Int) : Int := if c > 0 ∧ (1 ≤ f ∧ f ≤ size) ∧ ¬ (1 ≤ f + k * (c - 1) ∧ f + k * (c - 1) ≤ size) then f + k * (c - 1) else f
theorem ret_eq {Q : Value → Shared → Prop} {x y : Int} {t : Tok} {s' : Shared} (e : x = y) (h : Q (.int y t) s') : Q (.int x t) s' := e ▸ h
set_option maxRecDepth 100000 in
set_option maxHeartbeats 8000000 in
theorem edge_ok {w : World} {mean : ExcName → Option Value} {mg mb : Str → Option Value} {dp un : Nat} {gd : Option (List Code)} {cn : Str} {cs : Scope} {a : Addr} {ccd : Value} {cl : List (Str × Addr)} {outer : List Env} {A₀ : Around} {base h₀ : Heap} {L : Addr} {m : Str → Option Value} {s : Shared} {Q E : Value → Shared → Prop} {rest : List (Addr × Obj)}
    {pa : Addr} {np : Nat} {f k c size : Int} {tf tk tc ts : Tok}
    (B : Below A₀ base outer h₀) (F : Fr h₀ L s.heap m) (X : (hd.heap_39 w.params).In h₀) (N : News h₀ L s.heap ((pa, tupOf [.int f tf, .int k tk, .int c tc] np) :: rest)) (T : Top hd.view_39 (looseW hd.view_39 []) mean mg mb h₀) (hk : cs.kind = .function) (hdp : dp + 8 < recursionLimit) (hun : un + 64 < cLine)
    (hc : -3 ≤ c) (hc2 : c ≤ 9)
    (ret : ∀ t h' tk', Fr h₀ L h' m → News h₀ L h' ((pa, tupOf [.int f tf, .int k tk, .int c tc] np) :: rest) → Q (.int (edgeOf f k c size) t) { s with heap := h', toks := tk' }) :
    wpAny (model PySem.Challenge.rw_xm0681_01.row.prog w) (ktrTop dp un gd cn cs L a ccd cl outer) (call (.ref 35) [.ref pa, .int size ts]) Q E s := by
  revert X; k_fill; intro X
  refine wpAny_call ?_
  k_dflt ktr_enter
  k_steps
  all_goals (refine' ret_eq (y := edgeOf f k c size) ?e (ret _ _ _ ?F ?N); (case F => k_asm); (case N => tb_rel); (case e => (unfold edgeOf; split <;> first | rfl | (exfalso; omega))))
theorem edge_upd {w : World} {mean : ExcName → Option Value} {mg mb : Str → Option Value} {dp un : Nat} {gd : Option (List Code)} {cn : Str} {cs : Scope} {a : Addr} {ccd : Value} {cl : List (Str × Addr)} {outer : List Env} {A₀ : Around} {base h₀ : Heap} {L : Addr} {m : Str → Option Value} {s : Shared} {Q E : Value → Shared → Prop} {news : List (Addr × Obj)}
    {pa : Addr} {np : Nat} {f k c size : Int} {tf tk tc ts : Tok}
    (B : Below A₀ base outer h₀) (F : Fr h₀ L s.heap m) (X : (hd.heap_39 w.params).In h₀) (N : News h₀ L s.heap news) (T : Top hd.view_39 (looseW hd.view_39 []) mean mg mb h₀) (hk : cs.kind = .function) (hdp : dp + 8 < recursionLimit) (hun : un + 64 < cLine)
    (hm : (pa, tupOf [.int f tf, .int k tk, .int c tc] np) ∈ news) (hc : -3 ≤ c) (hc2 : c ≤ 9)
    (ret : ∀ t h' tk', Fr h₀ L h' m → News h₀ L h' news → Q (.int (edgeOf f k c size) t) { s with heap := h', toks := tk' }) :
    wpAny (model PySem.Challenge.rw_xm0681_01.row.prog w) (ktrTop dp un gd cn cs L a ccd cl outer) (call (.ref 35) [.ref pa, .int size ts]) Q E s :=
  edge_ok B F X (fun p hp => N p ((List.mem_cons.mp hp).elim (fun e => e ▸ hm) id)) T hk hdp hun hc hc2 fun t h' tk' F' N' => ret t h' tk' F' fun p hp => N' p (.tail _ hp)

local macro_rules | `(tactic| walk_at "call ref") => `(tactic| (k_here; (with_reducible show wpAny _ _ (call (Value.ref 35) _) _ _ _); k_dflt (refine' edge_upd ?B ?F ?X ?N ?T ?hk ?hdp ?hun ?hm ?hc ?hc2 ?_; (case hk => exact rfl); (case B => k_asm); (case F => k_asm); (case X => k_asm); (case N => k_asm); (case T => k_asm); (case hm => k_mem); (case hdp => ktr_room); (case hun => units_room); (case hc => first | assumption | omega); (case hc2 => first | assumption | omega); k_whole); intro t' h' tk' F' N'; (try dsimp only); (try k_sweep); (try k_fold)))

theorem off_nrange : True := by
  w_top off
  exact trivial
theorem range_has (r : Addr) (a b c : Int) (t u v : Tok) (x : Int) (tx : Tok) :
    Meets (Builtin.«range.__contains__» ⟨[.ref r, .int x tx], []⟩) (fun _ R s => s.heap.get? r = some { cls := .type "range", dict := none, data := .fields #[.int a t, .int b u, .int c v], slots := #[] } ∧ R (.ok (.ret (Value.bool (Builtin.Range.rangePlace? a b c x).isSome))) s) :=
  .of_wp fun prog w A R s h => by obtain ⟨hp, g, d, tk, os⟩ := s; obtain ⟨hl, h⟩ := h; wp_walk; exact ⟨_, rfl, h⟩
theorem notIn_range {prog : Program} {w : World} {A : Around} {Q E : Value → Shared → Prop} {s : Shared} {r : Addr} {a b c x : Int} {t u v tx : Tok} (hr : IsRange s.heap r a b c t u v) (h : Q (.bool (!(Builtin.Range.rangePlace? a b c x).isSome)) s) :
    wpAny (model prog w) A (compareOp .NotIn (.int x tx) (.ref r)) Q E s := by
  have hT : s.TypeIs (.ref r) "range" := ⟨_, hr, rfl⟩
  show wpAny _ _ (do return .bool (!(← contains (.ref r) (.int x tx)))) Q E s
  exact wpAny_bind (wpAny_contains_slot hT F.slot_range_contains (call_meets (Q := fun v s' => wpAny _ A (truthy v) (fun b s'' => wpAny _ A (pure (Value.bool (!b))) Q E s'') E s') F.slot_range_contains hT F.entry_range_contains (F.args_range_contains_2 _ _) (range_has r a b c t u v x tx) ⟨hr, wpAny_pure (wpAny_pure h)⟩))
theorem place_one {b x : Int} : (Builtin.Range.rangePlace? 1 b 1 x).isSome = (decide (1 ≤ x) && decide (x < b)) := by
  unfold Builtin.Range.rangePlace?
  simp only [Int.emod_one, beq_self_eq_true, Bool.and_true]
  by_cases h : (decide (1 ≤ x) && decide (x < b)) = true <;> simp [h]


theorem off_ledge : True := by
  w_top off
  exact trivial
theorem item_ne {prog : Program} {w : World} {A : Around} {E : Value → Shared → Prop} {s : Shared} {value slice : PySem.Expr} {l : Addr} {vs : List Value} {ns : List Int} {u : Tok} {Q : Value → Shared → Prop} (hl : s.heap.IsList l vs.toArray)
    (hi : IntsAre vs (List.map (fun a => a) ns)) (hne : decide (List.map (fun a => a) ns = []) = false) (h : ∀ t, Q (.int (ns.getD 0 0) t) s)
    (hs : subscripted slice false (.ref l) (.int 0 u) = operate [.ref l, .int 0 u] (getItem (.ref l) (.int 0 u)) := by with_unfolding_all rfl) :
    wpAny (model prog w) A (subscriptTail value slice (.ref l) (.int 0 u)) Q E s := by
  rw [List.map_id'] at hi hne
  have hne := of_decide_eq_false hne
  cases hi with
  | nil => exact absurd rfl hne
  | cons k t r => exact item_litK hl (by decide) (by decide) rfl (h t) hs
def rowInts (f k c : Int) : List Int := (rangeKs 0 (c - 0).toNat).map fun i => f + k * i
def RowIs (ns : List Int) (f k c : Int) : Prop := ns = rowInts f k c
theorem rowInts_snoc {f k c : Int} (hc : 1 ≤ c) : rowInts f k c = rowInts f k (c - 1) ++ [f + k * (c - 1)] := by
  obtain ⟨n, rfl⟩ : ∃ n : Nat, c = (n : Int) + 1 := ⟨(c - 1).toNat, by omega⟩
  have e1 : ((n : Int) + 1 - 0).toNat = n + 1 := by omega
  have e2 : ((n : Int) + 1 - 1 - 0).toNat = n := by omega
  unfold rowInts rangeKs
  rw [e1, e2, List.range_succ]
  simp
theorem rowInts_cons {f k c : Int} (hc : 1 ≤ c) : ∃ r, rowInts f k c = f :: r := by
  obtain ⟨n, rfl⟩ : ∃ n : Nat, c = (n : Int) + 1 := ⟨(c - 1).toNat, by omega⟩
  have e1 : ((n : Int) + 1 - 0).toNat = n + 1 := by omega
  unfold rowInts rangeKs
  rw [e1, List.range_succ_eq_map]
  refine ⟨List.map (fun i => f + k * i) (List.map (fun i : Nat => (0 : Int) + (i : Int)) (List.map Nat.succ (List.range n))), ?_⟩
  simp only [List.map_cons]
  simp
theorem row_ends {ns : List Int} {f k c : Int} (h : RowIs ns f k c) (hc : 1 ≤ c) : ns.take 1 = [f] ∧ ns.drop (ns.length - 1) = [f + k * (c - 1)] ∧ ns.getD (Int.toNat 0) 0 = f := by
  have h' : ns = rowInts f k c := h
  refine ⟨?_, ?_, ?_⟩
  · obtain ⟨r, e⟩ := rowInts_cons (f := f) (k := k) hc
    rw [h', e]; rfl
  · rw [h', rowInts_snoc hc]; simp
  · obtain ⟨r, e⟩ := rowInts_cons (f := f) (k := k) hc
    rw [h', e]; rfl
theorem bey_one {ns : List Int} {f k c size : Int} (h : RowIs ns f k c) (hc : 1 ≤ c) (e : decide (List.map (fun a => a) (List.filter (fun i => !(decide (1 ≤ i) && decide (i < size + 1))) (List.take 1 ns ++ List.drop (ns.length - 1) ns)) = []) = true) : f = edgeOf f k c size := by
  have e := of_decide_eq_true e
  rw [List.map_id', (row_ends h hc).1, (row_ends h hc).2.1, List.filter_eq_nil_iff] at e
  have e1 := e f (by simp)
  have e2 := e (f + k * (c - 1)) (by simp)
  simp only [Bool.not_eq_true', Bool.and_eq_true, decide_eq_true_eq, Bool.not_eq_false] at e1 e2
  unfold edgeOf
  rw [if_neg (by omega)]
theorem bey_two {ns : List Int} {f k c size : Int} (h : RowIs ns f k c) (hc : 1 ≤ c) (e : (List.map PyData.int (List.filter (fun i => !(decide (1 ≤ i) && decide (i < size + 1))) (List.take 1 ns ++ List.drop (ns.length - 1) ns))).any (datHitsInt (ns.getD (Int.toNat 0) 0)) = true) : f = edgeOf f k c size := by
  rw [datHitsInt_map, (row_ends h hc).2.2, (row_ends h hc).1, (row_ends h hc).2.1, List.any_eq_true] at e
  obtain ⟨x, hx, hf⟩ := e
  have hf := eq_of_beq hf
  subst hf
  have hx := (List.mem_filter.mp hx).2
  have hx : ¬ (1 ≤ x ∧ x ≤ size) := by
    intro hq
    have : (decide (1 ≤ x) && decide (x < size + 1)) = true := by simp only [Bool.and_eq_true, decide_eq_true_eq]; omega
    rw [this] at hx
    cases hx
  unfold edgeOf
  rw [if_neg (by omega)]
theorem bey_three {ns : List Int} {f k c size : Int} (h : RowIs ns f k c) (hc : 1 ≤ c) (e : decide (List.map (fun a => a) (List.filter (fun i => !(decide (1 ≤ i) && decide (i < size + 1))) (List.take 1 ns ++ List.drop (ns.length - 1) ns)) = []) = false)
    (e2 : (List.map PyData.int (List.filter (fun i => !(decide (1 ≤ i) && decide (i < size + 1))) (List.take 1 ns ++ List.drop (ns.length - 1) ns))).any (datHitsInt (ns.getD (Int.toNat 0) 0)) = false) :
    (List.filter (fun i => !(decide (1 ≤ i) && decide (i < size + 1))) (List.take 1 ns ++ List.drop (ns.length - 1) ns)).getD 0 0 = edgeOf f k c size := by
  have e := of_decide_eq_false e
  rw [List.map_id', (row_ends h hc).1, (row_ends h hc).2.1] at e
  rw [datHitsInt_map, (row_ends h hc).2.2, (row_ends h hc).1, (row_ends h hc).2.1] at e2
  rw [(row_ends h hc).1, (row_ends h hc).2.1]
  have hf : (!(decide (1 ≤ f) && decide (f < size + 1))) = false := by
    cases hb : (!(decide (1 ≤ f) && decide (f < size + 1))) with
    | false => rfl
    | true =>
      rw [List.any_eq_false] at e2
      exact absurd (beq_self_eq_true f) (e2 f (List.mem_filter.mpr ⟨by simp, hb⟩))
  rw [List.singleton_append, List.filter_cons, hf] at e ⊢
  simp only [Bool.false_eq_true, if_false] at e ⊢
  cases hb : (!(decide (1 ≤ f + k * (c - 1)) && decide (f + k * (c - 1) < size + 1))) with
  | false => rw [List.filter_cons, hb] at e; exact absurd rfl e
  | true =>
    rw [List.filter_cons, hb, if_pos rfl]
    have hb : ¬ (1 ≤ f + k * (c - 1) ∧ f + k * (c - 1) ≤ size) := by
      intro hq
      have : (decide (1 ≤ f + k * (c - 1)) && decide (f + k * (c - 1) < size + 1)) = true := by simp only [Bool.and_eq_true, decide_eq_true_eq]; omega
      rw [this] at hb
      cases hb
    simp only [Bool.not_eq_false', Bool.and_eq_true, decide_eq_true_eq] at hf
    unfold edgeOf
    rw [if_pos ⟨by omega, ⟨hf.1, by omega⟩, hb⟩]
    rfl
section
local macro_rules | `(tactic| walk_at "subscriptTail Name Constant ref int") => `(tactic| (k_here; (with_reducible show wpAny _ _ (subscriptTail _ _ (Value.ref _) (Value.int _ _)) _ _ _); (with_unfolding_all refine' item_ne ?k1 ?k2 ?k3 ?_ ?k6; (case k1 => is_list); (case k2 => assumption); (case k3 => assumption); (case k6 => with_unfolding_all rfl); k_whole); intro _))
local macro_rules | `(tactic| walk_at "exec Assign cons ListComp") => `(tactic| (k_here; refine Stop.out ?_))
local macro_rules | `(tactic| walk_at "compareOp NotIn") => `(tactic| (k_here; (with_reducible show wpAny _ _ (compareOp CmpOp.NotIn (Value.int _ _) (Value.ref _)) _ _ _); (refine notIn_range (by assumption) ?_); (try simp only [place_one])))
set_option maxRecDepth 100000 in
set_option maxHeartbeats 8000000 in
theorem ledge_row {w : World} {mean : ExcName → Option Value} {mg mb : Str → Option Value} {dp un : Nat} {gd : Option (List Code)} {cn : Str} {cs : Scope} {a : Addr} {ccd : Value} {cl : List (Str × Addr)} {outer : List Env} {A₀ : Around} {base h₀ : Heap} {L : Addr} {m : Str → Option Value} {s : Shared} {Q E : Value → Shared → Prop} {rest : List (Addr × Obj)}
    {pa ix : Addr} {np nx : Nat} {f k c size : Int} {tf tk tc ts : Tok} {vs : List Value} {ns : List Int}
    (B : Below A₀ base outer h₀) (F : Fr h₀ L s.heap m) (X : (hd.heap_39 w.params).In h₀) (N : News h₀ L s.heap ((ix, listOf vs.toArray nx) :: (pa, tupOf [.int f tf, .int k tk, .int c tc] np) :: rest)) (T : Top hd.view_39 (looseW hd.view_39 []) mean mg mb h₀) (hk : cs.kind = .function) (hdp : dp + 8 < recursionLimit) (hun : un + 160 < cLine)
    (I : IntsAre vs ns) (hl : ns.length ≤ 100) (hl1 : 1 ≤ ns.length) (hs : 0 ≤ size) (hs2 : size ≤ 6) (hrow : RowIs ns f k c) (hc : 1 ≤ c)
    (ret : ∀ t h' tk', Fr h₀ L h' m → News h₀ L h' ((ix, listOf vs.toArray nx) :: (pa, tupOf [.int f tf, .int k tk, .int c tc] np) :: rest) → Q (.int (edgeOf f k c size) t) { s with heap := h', toks := tk' }) :
    wpAny (model PySem.Challenge.rw_xm0681_01.row.prog w) (ktrTop dp un gd cn cs L a ccd cl outer) (call (.ref 71) [.ref pa, .ref ix, .int size ts]) Q E s := by
  revert X; k_fill; intro X
  refine wpAny_call ?_
  k_dflt (refine' code_defC ?k1 ?k2 ?k3 ?k4 ?k5 ?kA ?kF ?kK ?k6 ?k7 ?k8 ?k9 ?kB ?kD ?_ ?c2 ?c3 ?c4; (case kA => exact rfl); (case kF => exact rfl); (case kK => assumption); (case k1 => k_asm); (case k2 => k_asm); (case k3 => k_asm); (case k4 => k_asm); (case k5 => k_asm); (case k6 => k_is); (case k7 => k_is); (case k8 => ktr_room); (case k9 => exact BindsTo.of_eq rfl); (case kB => exact rfl); (case kD => decide +kernel); (case c2 => exact rfl); (case c3 => exact rfl); (case c4 => exact rfl); k_whole; intro g' L' h' tk' cells' FG' F' N' Y' B' X' T' l1; (have l1r := l1); (try k_lt l1); (have hLr : ∀ p ∈ rest, p.1 < L' := fun p hp => l1r p (by first | exact hp | exact .tail _ hp | exact .tail _ (.tail _ hp) | exact .tail _ (.tail _ (.tail _ hp)) | exact .tail _ (.tail _ (.tail _ (.tail _ hp))))); clear l1r; k_cells Y'; (try simp only [List.cons_append, List.nil_append] at N'); (try dsimp only); (try k_lift B'); (try k_fold))
  k_steps
  refine Stop.intro ?_
  refine' Assign_ListComp_DCn (K := ItemKind.int) (pz := fun i => !(decide (1 ≤ i) && decide (i < size + 1))) (d := PyData.int) ?hsw ?hL ?hh ?hclos ?hcell ?hkind ?hnames ?hx ?hy ?hp ?h ?hs
  case hsw => with_unfolding_all rfl
  case hL => with_unfolding_all rfl
  case hh => with_unfolding_all rfl
  case hclos => with_unfolding_all rfl
  case hcell => decide
  case hkind => with_unfolding_all rfl
  case hnames => decide
  case hx => with_unfolding_all rfl
  case hy => with_unfolding_all rfl
  case hp => with_unfolding_all rfl
  case hs => intro _; with_unfolding_all rfl
  case h =>
    with_reducible refine wpAny_compPack ?_
    k_steps
    all_goals first
      | (refine' ret_eq (y := edgeOf f k c size) ?e (ret _ _ _ ?F ?N); (case F => k_asm); (case N => tb_rel); (case e => first | exact bey_one hrow hc (by assumption) | exact bey_two hrow hc (by assumption) | exact bey_three hrow hc (by assumption) (by assumption)))
      | exact default
end
set_option maxRecDepth 100000 in
set_option maxHeartbeats 8000000 in
theorem ledge_nil {w : World} {mean : ExcName → Option Value} {mg mb : Str → Option Value} {dp un : Nat} {gd : Option (List Code)} {cn : Str} {cs : Scope} {a : Addr} {ccd : Value} {cl : List (Str × Addr)} {outer : List Env} {A₀ : Around} {base h₀ : Heap} {L : Addr} {m : Str → Option Value} {s : Shared} {Q E : Value → Shared → Prop} {rest : List (Addr × Obj)}
    {pa ix : Addr} {np nx : Nat} {f k c size : Int} {tf tk tc ts : Tok}
    (B : Below A₀ base outer h₀) (F : Fr h₀ L s.heap m) (X : (hd.heap_39 w.params).In h₀) (N : News h₀ L s.heap ((ix, listOf [].toArray nx) :: (pa, tupOf [.int f tf, .int k tk, .int c tc] np) :: rest)) (T : Top hd.view_39 (looseW hd.view_39 []) mean mg mb h₀) (hk : cs.kind = .function) (hdp : dp + 8 < recursionLimit) (hun : un + 160 < cLine)
    (hs : 0 ≤ size) (hs2 : size ≤ 6)
    (ret : ∀ t h' tk', Fr h₀ L h' m → News h₀ L h' ((ix, listOf [].toArray nx) :: (pa, tupOf [.int f tf, .int k tk, .int c tc] np) :: rest) → Q (.int f t) { s with heap := h', toks := tk' }) :
    wpAny (model PySem.Challenge.rw_xm0681_01.row.prog w) (ktrTop dp un gd cn cs L a ccd cl outer) (call (.ref 71) [.ref pa, .ref ix, .int size ts]) Q E s := by
  revert X; k_fill; intro X
  refine wpAny_call ?_
  k_dflt (refine' code_defC ?k1 ?k2 ?k3 ?k4 ?k5 ?kA ?kF ?kK ?k6 ?k7 ?k8 ?k9 ?kB ?kD ?_ ?c2 ?c3 ?c4; (case kA => exact rfl); (case kF => exact rfl); (case kK => assumption); (case k1 => k_asm); (case k2 => k_asm); (case k3 => k_asm); (case k4 => k_asm); (case k5 => k_asm); (case k6 => k_is); (case k7 => k_is); (case k8 => ktr_room); (case k9 => exact BindsTo.of_eq rfl); (case kB => exact rfl); (case kD => decide +kernel); (case c2 => exact rfl); (case c3 => exact rfl); (case c4 => exact rfl); k_whole; intro g' L' h' tk' cells' FG' F' N' Y' B' X' T' l1; (have l1r := l1); (try k_lt l1); (have hLr : ∀ p ∈ rest, p.1 < L' := fun p hp => l1r p (by first | exact hp | exact .tail _ hp | exact .tail _ (.tail _ hp) | exact .tail _ (.tail _ (.tail _ hp)) | exact .tail _ (.tail _ (.tail _ (.tail _ hp))))); clear l1r; k_cells Y'; (try simp only [List.cons_append, List.nil_append] at N'); (try dsimp only); (try k_lift B'); (try k_fold))
  k_steps
  exact ret _ _ _ (by k_asm) (by tb_rel)
set_option maxRecDepth 100000 in
set_option maxHeartbeats 8000000 in
theorem ledge_num {w : World} {mean : ExcName → Option Value} {mg mb : Str → Option Value} {dp un : Nat} {gd : Option (List Code)} {cn : Str} {cs : Scope} {a : Addr} {ccd : Value} {cl : List (Str × Addr)} {outer : List Env} {A₀ : Around} {base h₀ : Heap} {L : Addr} {m : Str → Option Value} {s : Shared} {Q E : Value → Shared → Prop} {rest : List (Addr × Obj)}
    {ix : Addr} {nx : Nat} {v size : Int} {tv ts : Tok} {vs : List Value}
    (B : Below A₀ base outer h₀) (F : Fr h₀ L s.heap m) (X : (hd.heap_39 w.params).In h₀) (N : News h₀ L s.heap ((ix, listOf vs.toArray nx) :: rest)) (T : Top hd.view_39 (looseW hd.view_39 []) mean mg mb h₀) (hk : cs.kind = .function) (hdp : dp + 8 < recursionLimit) (hun : un + 160 < cLine)
    
    (ret : ∀ t h' tk', Fr h₀ L h' m → News h₀ L h' ((ix, listOf vs.toArray nx) :: rest) → Q (.int v t) { s with heap := h', toks := tk' }) :
    wpAny (model PySem.Challenge.rw_xm0681_01.row.prog w) (ktrTop dp un gd cn cs L a ccd cl outer) (call (.ref 71) [.int v tv, .ref ix, .int size ts]) Q E s := by
  revert X; k_fill; intro X
  refine wpAny_call ?_
  k_dflt (refine' code_defC ?k1 ?k2 ?k3 ?k4 ?k5 ?kA ?kF ?kK ?k6 ?k7 ?k8 ?k9 ?kB ?kD ?_ ?c2 ?c3 ?c4; (case kA => exact rfl); (case kF => exact rfl); (case kK => assumption); (case k1 => k_asm); (case k2 => k_asm); (case k3 => k_asm); (case k4 => k_asm); (case k5 => k_asm); (case k6 => k_is); (case k7 => k_is); (case k8 => ktr_room); (case k9 => exact BindsTo.of_eq rfl); (case kB => exact rfl); (case kD => decide +kernel); (case c2 => exact rfl); (case c3 => exact rfl); (case c4 => exact rfl); k_whole; intro g' L' h' tk' cells' FG' F' N' Y' B' X' T' l1; (have l1r := l1); (try k_lt l1); (have hLr : ∀ p ∈ rest, p.1 < L' := fun p hp => l1r p (by first | exact hp | exact .tail _ hp | exact .tail _ (.tail _ hp) | exact .tail _ (.tail _ (.tail _ hp)) | exact .tail _ (.tail _ (.tail _ (.tail _ hp))))); clear l1r; k_cells Y'; (try simp only [List.cons_append, List.nil_append] at N'); (try dsimp only); (try k_lift B'); (try k_fold))
  k_steps
  exact ret _ _ _ (by k_asm) (by tb_rel)
set_option maxRecDepth 100000 in
set_option maxHeartbeats 8000000 in
theorem ledge_all {w : World} {mean : ExcName → Option Value} {mg mb : Str → Option Value} {dp un : Nat} {gd : Option (List Code)} {cn : Str} {cs : Scope} {a : Addr} {ccd : Value} {cl : List (Str × Addr)} {outer : List Env} {A₀ : Around} {base h₀ : Heap} {L : Addr} {m : Str → Option Value} {s : Shared} {Q E : Value → Shared → Prop} {rest : List (Addr × Obj)}
    {ix : Addr} {nx : Nat} {size : Int} {ts : Tok} {vs : List Value}
    (B : Below A₀ base outer h₀) (F : Fr h₀ L s.heap m) (X : (hd.heap_39 w.params).In h₀) (N : News h₀ L s.heap ((ix, listOf vs.toArray nx) :: rest)) (T : Top hd.view_39 (looseW hd.view_39 []) mean mg mb h₀) (hk : cs.kind = .function) (hdp : dp + 8 < recursionLimit) (hun : un + 160 < cLine)
    
    (ret : ∀ t h' tk', Fr h₀ L h' m → News h₀ L h' ((ix, listOf vs.toArray nx) :: rest) → Q (.int 1 t) { s with heap := h', toks := tk' }) :
    wpAny (model PySem.Challenge.rw_xm0681_01.row.prog w) (ktrTop dp un gd cn cs L a ccd cl outer) (call (.ref 71) [.none, .ref ix, .int size ts]) Q E s := by
  revert X; k_fill; intro X
  refine wpAny_call ?_
  k_dflt (refine' code_defC ?k1 ?k2 ?k3 ?k4 ?k5 ?kA ?kF ?kK ?k6 ?k7 ?k8 ?k9 ?kB ?kD ?_ ?c2 ?c3 ?c4; (case kA => exact rfl); (case kF => exact rfl); (case kK => assumption); (case k1 => k_asm); (case k2 => k_asm); (case k3 => k_asm); (case k4 => k_asm); (case k5 => k_asm); (case k6 => k_is); (case k7 => k_is); (case k8 => ktr_room); (case k9 => exact BindsTo.of_eq rfl); (case kB => exact rfl); (case kD => decide +kernel); (case c2 => exact rfl); (case c3 => exact rfl); (case c4 => exact rfl); k_whole; intro g' L' h' tk' cells' FG' F' N' Y' B' X' T' l1; (have l1r := l1); (try k_lt l1); (have hLr : ∀ p ∈ rest, p.1 < L' := fun p hp => l1r p (by first | exact hp | exact .tail _ hp | exact .tail _ (.tail _ hp) | exact .tail _ (.tail _ (.tail _ hp)) | exact .tail _ (.tail _ (.tail _ (.tail _ hp))))); clear l1r; k_cells Y'; (try simp only [List.cons_append, List.nil_append] at N'); (try dsimp only); (try k_lift B'); (try k_fold))
  k_steps
  exact ret _ _ _ (by k_asm) (by tb_rel)


theorem off_loops : True := by
  w_top off
  exact trivial
section
variable {prog : Program} {w : World} {A : Around} {E : Value → Shared → Prop} {s : Shared} {env : Env} {h₀ : Heap} {target : Expr} {body : List Stmt} {Q : Flow → Shared → Prop}
theorem unrPost_mono {L : Addr} {s₁ : Shared} {its : List (Addr × Obj)} {R R' : (Str → Option Value) → List (Addr × Obj) → Prop} (h : ∀ m n, R m n → R' m n) {f : Flow} {s₂ : Shared} (p : UnrPostW h₀ L s₁ its R Q f s₂) : UnrPostW h₀ L s₁ its R' Q f s₂ := by
  cases f with
  | ret v => exact p
  | brk => exact p
  | next => obtain ⟨h', tk, m', n', a, b, c, d, e⟩ := p; exact ⟨h', tk, m', n', a, b, c, d, h _ _ e⟩
  | cont => obtain ⟨h', tk, m', n', a, b, c, d, e⟩ := p; exact ⟨h', tk, m', n', a, b, c, d, h _ _ e⟩
theorem allObj_mono {k k' : List (Addr × Obj) → Prop} (h : ∀ its, k its → k' its) : ∀ {ws : List (Addr × String)}, AllObj ws k → AllObj ws k'
  | [], p => h _ p
  | _ :: _, p => fun o e => allObj_mono (fun its q => h _ q) (p o e)
/-- the loop over a zip, by what holds between its turns -/
theorem zip_ind {ws : List (Addr × String)} {keep : List (Addr × Obj)} (I : List Value → List Value → (Str → Option Value) → List (Addr × Obj) → Prop)
    (done : ∀ xs ys m news, (xs = [] ∨ ys = []) → I xs ys m news → ∀ h tk, Fr h₀ env.locals h m → News h₀ env.locals h news → Q .next { s with heap := h, toks := tk })
    (turn : ∀ x xs y ys m news T h tk, I (x :: xs) (y :: ys) m news → IsTup h T #[x, y] → Fr h₀ env.locals h m → AllObj ws (fun its => News h₀ env.locals h (its ++ news) →
      wpAny (model prog w) A (assign target env (.ref T)) (fun _ s₂ => wpAny (model prog w) A (execs body env) (UnrPostW h₀ env.locals { s with heap := h, toks := tk } its (fun m' n' => SubL keep n' ∧ I xs ys m' n') Q) E s₂) E { s with heap := h, toks := tk })) :
    ∀ xs ys m news, I xs ys m news → ItemsRest prog w A E h₀ env target body Q s ws keep (zipItems xs ys) m news
  | [], ys, m, news, h => ItemsRest.zero (done [] ys m news (.inl rfl) h)
  | x :: xs, [], m, news, h => ItemsRest.zero (done (x :: xs) [] m news (.inr rfl) h)
  | x :: xs, y :: ys, m, news, h => ItemsRest.pair fun T _ h' tk ht F => allObj_mono (fun _ g N => by
      refine wpAny_mono (g N) (fun _ s₂ q => wpAny_mono q (fun f s₃ p => unrPost_mono (fun m' n' r => ⟨r.1, zip_ind I done turn xs ys m' n' r.2⟩) p) fun _ _ e => e) fun _ _ e => e)
      (turn x xs y ys m news T h' tk h ht F)
end
theorem canon_of {m : Str → Option Value} {a b d : Str} {D : Value} (hf : m d = some D) : m = fun y => if y = a then m a else if y = b then m b else if y = d then some D else m y := by
  funext y
  by_cases h1 : y = a
  · rw [if_pos h1, h1]
  · rw [if_neg h1]
    by_cases h2 : y = b
    · rw [if_pos h2, h2]
    · rw [if_neg h2]
      by_cases h3 : y = d
      · rw [if_pos h3, h3, hf]
      · rw [if_neg h3]
theorem unrEnd_of {h₀ : Heap} {L : Addr} {s₁ : Shared} {its : List (Addr × Obj)} {rest : (Str → Option Value) → List (Addr × Obj) → Prop} {h' : Heap} {tk : Nat} {m' : Str → Option Value} {all : List (Addr × Obj)} (news' : List (Addr × Obj)) (F : Fr h₀ L h' m') (N : News h₀ L h' all)
    (hI : ∀ p ∈ its, p ∈ all) (sub : ∀ p ∈ news', p ∈ all) (off : ∀ p ∈ news', ∀ q ∈ its, p.1 ≠ q.1) (r : rest m' news') : UnrEndW h₀ L s₁ its rest { s₁ with heap := h', toks := tk } :=
  ⟨h', tk, m', news', rfl, F, fun p hp => (List.mem_append.mp hp).elim (fun h => N p (hI p h)) fun h => N p (sub p h), off, r⟩
inductive Pt where
  | all
  | num (n : Int)
  | row (f k c : Int)
inductive PtIn (news : List (Addr × Obj)) : Value → Pt → Prop
  | all : PtIn news .none .all
  | num (n : Int) (t : Tok) : PtIn news (.int n t) (.num n)
  | row {pa : Addr} {np : Nat} {f k c : Int} {tf tk tc : Tok} : -3 ≤ c → c ≤ 9 → (pa, tupOf [.int f tf, .int k tk, .int c tc] np) ∈ news → PtIn news (.ref pa) (.row f k c)
inductive PtsIn (news : List (Addr × Obj)) : List Value → List Pt → Prop
  | nil : PtsIn news [] []
  | cons {v : Value} {vs : List Value} {p : Pt} {ps : List Pt} : PtIn news v p → PtsIn news vs ps → PtsIn news (v :: vs) (p :: ps)
theorem PtIn.mono {n n' : List (Addr × Obj)} {v : Value} {p : Pt} (h : PtIn n v p) (hs : ∀ q ∈ n, q ∈ n') : PtIn n' v p := by
  cases h with
  | all => exact .all
  | num n t => exact .num n t
  | row a b hm => exact .row a b (hs _ hm)
theorem PtsIn.mono {n n' : List (Addr × Obj)} {vs : List Value} {ps : List Pt} (h : PtsIn n vs ps) (hs : ∀ q ∈ n, q ∈ n') : PtsIn n' vs ps := by
  induction h with
  | nil => exact .nil
  | cons h _ ih => exact .cons (h.mono hs) ih
theorem PtsIn.snoc {n : List (Addr × Obj)} {vs : List Value} {ps : List Pt} {v : Value} {p : Pt} (h : PtsIn n vs ps) (hv : PtIn n v p) : PtsIn n (vs ++ [v]) (ps ++ [p]) := by
  induction h with
  | nil => exact .cons hv .nil
  | cons h _ ih => exact .cons h ih
theorem PtsIn.length {n : List (Addr × Obj)} {vs : List Value} {ps : List Pt} (h : PtsIn n vs ps) : vs.length = ps.length := by
  induction h with
  | nil => rfl
  | cons _ _ ih => rw [List.length_cons, List.length_cons, ih]
def edgeP : Pt → Int → Int
  | .all, _ => 1
  | .num n, _ => n
  | .row f k c, size => edgeOf f k c size


theorem off_indices : True := by
  w_top off
  exact trivial
theorem allLt_lt {d : Addr} {l : List (Addr × Obj)} (h : AllLt d l) : ∀ p ∈ l, p.1 < d := by
  induction l with
  | nil => intro p hp; exact absurd hp List.not_mem_nil
  | cons q r ih =>
    intro p hp
    have h1 : @LT.lt Nat _ q.1 d := h.1
    have h2 : AllLt d r := h.2
    cases hp with
    | head => exact h1
    | tail _ hp => exact ih h2 p hp
def ZTurn (h₀ : Heap) (L D : Addr) (s₁ : Shared) (pre post : List (Addr × Obj)) (fvs : List Value) (g : Int) (f : Flow) (s₂ : Shared) : Prop :=
  f = .next ∧ ∃ h' tk m' t n, s₂ = { s₁ with heap := h', toks := tk } ∧ m' ("found" : Str) = some (.ref D) ∧ Fr h₀ L h' m' ∧ News h₀ L h' (pre ++ (D, listOf (fvs ++ [Value.int g t]).toArray n) :: post)
def ZInv (D P S : Addr) (nP nS : Nat) (pvs svs : List Value) (ps : List Pt) (zs : List Int) (rest : List (Addr × Obj)) (xs ys : List Value) (m : Str → Option Value) (news : List (Addr × Obj)) : Prop :=
  ∃ qs us fvs gs n, PtsIn rest xs qs ∧ IntsAre ys us ∧ qs.length = us.length ∧ m ("found" : Str) = some (.ref D) ∧ IntsAre fvs gs ∧ gs ++ List.zipWith edgeP qs us = List.zipWith edgeP ps zs ∧ gs.length + us.length = zs.length ∧ news = (D, listOf fvs.toArray n) :: (P, listOf pvs.toArray nP) :: (S, listOf svs.toArray nS) :: rest
theorem zturn_of {h₀ h' : Heap} {L D : Addr} {s₁ : Shared} {pre post : List (Addr × Obj)} {fvs : List Value} {g : Int} {t : Tok} {m' : Str → Option Value} {n tk : Nat} (F : Fr h₀ L h' m') (hm : m' ("found" : Str) = some (.ref D)) (N : News h₀ L h' (pre ++ (D, listOf (fvs.toArray.push (.int g t)) n) :: post)) :
    ZTurn h₀ L D s₁ pre post fvs g .next { s₁ with heap := h', toks := tk } := ⟨rfl, h', tk, m', t, n, rfl, hm, F, by rw [← List.push_toArray]; exact N⟩
section
variable {prog : Program} {w : World} {A : Around} {E : Value → Shared → Prop} {s : Shared} {env : Env} {h₀ : Heap} {elts : List Expr} {k : Nat} {pos : Pos} {body : List Stmt} {Q : Flow → Shared → Prop}
theorem zip_loop {D P S : Addr} {nD nP nS : Nat} {pvs svs : List Value} {ps : List Pt} {zs : List Int} {rest : List (Addr × Obj)} {m₀ : Str → Option Value}
    (hh : A.handled = none) (F : Fr h₀ env.locals s.heap m₀) (N : News h₀ env.locals s.heap ((D, listOf [].toArray nD) :: (P, listOf pvs.toArray nP) :: (S, listOf svs.toArray nS) :: rest)) (hDP : P < D) (hDS : S < D) (hD : AllLt D rest)
    (HP : PtsIn rest pvs ps) (HS : IntsAre svs zs) (hlen : ps.length = zs.length) (hl : zs.length ≤ 10) (hm : m₀ ("found" : Str) = some (.ref D))
    (turn : ∀ x p size t fvs gs nD m I T h tk o1 o2 o3 o4 o5, PtIn rest x p → m ("found" : Str) = some (.ref D) → IntsAre fvs gs → gs.length ≤ 10 → (∀ q ∈ rest, q.1 < I) → (∀ q ∈ rest, q.1 ≠ D) → P < D ∧ S < D ∧ D < I → IsTup h T #[x, .int size t] → Fr h₀ env.locals h m →
      News h₀ env.locals h ((I + 4, o1) :: (I + 2, o2) :: (I + 3, o3) :: (I, o4) :: (I + 1, o5) :: (D, listOf fvs.toArray nD) :: (P, listOf pvs.toArray nP) :: (S, listOf svs.toArray nS) :: rest) →
      wpAny (model prog w) A (assign (.Tuple elts k pos) env (.ref T)) (fun _ s₂ => wpAny (model prog w) A (execs body env)
        (ZTurn h₀ env.locals D { s with heap := h, toks := tk } [(I + 4, o1), (I + 2, o2), (I + 3, o3), (I, o4), (I + 1, o5)] ((P, listOf pvs.toArray nP) :: (S, listOf svs.toArray nS) :: rest) fvs (edgeP p size)) E s₂) E { s with heap := h, toks := tk })
    (done : ∀ fvs n h tk m, IntsAre fvs (List.zipWith edgeP ps zs) → m ("found" : Str) = some (.ref D) → Fr h₀ env.locals h m → News h₀ env.locals h ((D, listOf fvs.toArray n) :: (P, listOf pvs.toArray nP) :: (S, listOf svs.toArray nS) :: rest) → Q .next { s with heap := h, toks := tk }) :
    wpAny (model prog w) A (call (.type "zip") [.ref P, .ref S]) (fun xv s₁ => wpAny (model prog w) A (pyIter xv) (fun it s₂ => TurnsAt prog w A h₀ env (.Tuple elts k pos) body Q E it s₂) E s₁) E s := by
  refine ktu_zip hh F N (.tail _ (.head _)) rfl rfl (.tail _ (.tail _ (.head _))) rfl rfl (fun I hI => ?_)
  have hrI : ∀ q ∈ rest, q.1 < I := fun q hq => hI q (.tail _ (.tail _ (.tail _ hq)))
  have hDI : D < I := hI _ (.head _)
  have hrD : ∀ q ∈ rest, q.1 ≠ D := fun q hq => Nat.ne_of_lt (allLt_lt hD q hq)
  have start : ZInv D P S nP nS pvs svs ps zs rest pvs svs m₀ ((D, listOf [].toArray nD) :: (P, listOf pvs.toArray nP) :: (S, listOf svs.toArray nS) :: rest) :=
    ⟨ps, zs, [], [], nD, HP, HS, hlen, hm, IntsAre.nil, List.nil_append _, by rw [List.length_nil, Nat.zero_add], rfl⟩
  refine zip_ind (ZInv D P S nP nS pvs svs ps zs rest) ?_ ?_ pvs svs m₀ _ start
  · rintro xs ys m news he ⟨qs, us, fvs, gs, n, hq, hu, hqu, hm', hf, hg, hgl, rfl⟩ h tk F' N'
    have e : us = [] ∧ qs = [] := by
      rcases he with rfl | rfl
      · cases hq; exact ⟨List.length_eq_zero_iff.mp hqu.symm, rfl⟩
      · cases hu; exact ⟨rfl, List.length_eq_zero_iff.mp hqu⟩
    rw [e.1, e.2, List.zipWith_nil_left, List.append_nil] at hg
    exact done fvs n h tk m (hg ▸ hf) hm' F' N'
  · rintro x xs y ys m news T h tk ⟨qs, us, fvs, gs, n, hq, hu, hqu, hm', hf, hg, hgl, rfl⟩ hT F'
    cases hq with
    | cons hp hq =>
      rename_i p qs
      cases hu with
      | cons size t hu =>
        rename_i us
        refine AllObj.cons fun o1 _ => AllObj.cons fun o2 _ => AllObj.cons fun o3 _ => AllObj.cons fun o4 _ => AllObj.cons fun o5 _ => AllObj.nil fun N' => ?_
        have hgl' : gs.length + (us.length + 1) = zs.length := by simpa using hgl
        refine wpAny_mono (turn x p size t fvs gs n m I T h tk o1 o2 o3 o4 o5 hp hm' hf (by omega) hrI hrD ⟨hDP, hDS, hDI⟩ hT F' (by simpa using N')) (fun _ s₂ q => wpAny_mono q (fun f s₃ z => ?_) fun _ _ e => e) fun _ _ e => e
        obtain ⟨rfl, h', tk', m', t', n', rfl, hm'', F'', N''⟩ := z
        refine unrEnd_of ((D, listOf (fvs ++ [Value.int (edgeP p size) t']).toArray n') :: (P, listOf pvs.toArray nP) :: (S, listOf svs.toArray nS) :: rest) F'' N'' (fun q hq => List.mem_append.mpr (.inl hq)) (fun q hq => List.mem_append.mpr (.inr hq)) ?_ ?_
        · intro q hq r hr
          have h1 : q.1 < I := by
            rcases List.mem_cons.mp hq with rfl | hq
            · exact hDI
            · exact hI q (.tail _ hq)
          have h2 : I ≤ r.1 := by
            simp only [List.mem_cons, List.not_mem_nil, or_false] at hr
            rcases hr with rfl | rfl | rfl | rfl | rfl
            · exact Nat.le_add_right _ _
            · exact Nat.le_add_right _ _
            · exact Nat.le_add_right _ _
            · exact Nat.le_refl _
            · exact Nat.le_add_right _ _
          exact Nat.ne_of_lt (Nat.lt_of_lt_of_le h1 h2)
        · refine ⟨⟨List.mem_cons_of_mem _ (.head _), List.mem_cons_of_mem _ (List.mem_cons_of_mem _ (.head _)), trivial⟩, qs, us, fvs ++ [Value.int (edgeP p size) t'], gs ++ [edgeP p size], n', hq, hu, by simpa using hqu, hm'', IntsAre.append hf (.cons _ _ .nil), ?_, ?_, rfl⟩
          · rw [List.append_assoc]; exact hg
          · rw [List.length_append, List.length_singleton]; omega
end
section
local macro_rules | `(tactic| walk_at "exec For Tuple Call") => `(tactic| (k_here; refine Stop.out ?_))
local macro_rules | `(tactic| walk_at "exec For Tuple Call cons nil") => `(tactic| (k_here; refine Stop.out ?_))
local macro_rules | `(tactic| walk_at "call type:zip") => `(tactic| (k_here; refine Stop.out ?_))
local macro_rules | `(tactic| walk_at "pad of this part") => `(tactic| skip)
set_option maxRecDepth 100000 in
set_option maxHeartbeats 8000000 in
theorem indices_ok {w : World} {mean : ExcName → Option Value} {mg mb : Str → Option Value} {dp un : Nat} {gd : Option (List Code)} {cn : Str} {cs : Scope} {a : Addr} {ccd : Value} {cl : List (Str × Addr)} {outer : List Env} {A₀ : Around} {base h₀ : Heap} {L : Addr} {m : Str → Option Value} {s : Shared} {Q E : Value → Shared → Prop} {rest : List (Addr × Obj)}
    {P S : Addr} {nP nS : Nat} {pvs svs : List Value} {ps : List Pt} {zs : List Int}
    (B : Below A₀ base outer h₀) (F : Fr h₀ L s.heap m) (X : (hd.heap_39 w.params).In h₀) (N : News h₀ L s.heap ((P, listOf pvs.toArray nP) :: (S, listOf svs.toArray nS) :: rest)) (T : Top hd.view_39 (looseW hd.view_39 []) mean mg mb h₀) (hk : cs.kind = .function) (hdp : dp + 16 < recursionLimit) (hun : un + 160 < cLine)
    (HP : PtsIn rest pvs ps) (HS : IntsAre svs zs) (hlen : ps.length = zs.length) (hl : zs.length ≤ 10)
    (ret : ∀ D n fvs h' tk', IntsAre fvs (List.zipWith edgeP ps zs) → Fr h₀ L h' m → News h₀ L h' ((D, listOf fvs.toArray n) :: (P, listOf pvs.toArray nP) :: (S, listOf svs.toArray nS) :: rest) → Q (.ref D) { s with heap := h', toks := tk' }) :
    wpAny (model PySem.Challenge.rw_xm0681_01.row.prog w) (ktrTop dp un gd cn cs L a ccd cl outer) (call (.ref 28) [.ref P, .ref S]) Q E s := by
  revert X; k_fill; intro X
  refine wpAny_call ?_
  k_dflt ktr_enter
  k_steps
  unfold Stop
  (rename Fr _ _ _ _ => lF)
  with_unfolding_all refine' For_turns lF ?_
  k_steps
  unfold Stop
  ktr_unf
  (rename Fr _ _ _ _ => lF)
  (rename News _ _ _ _ => nN)
  (rename AllLt _ _ => lA)
  with_unfolding_all refine' zip_loop (by rfl) lF nN (by assumption) (by assumption) lA HP HS hlen hl (by rfl) ?turn ?done
  case done =>
    intro fvs n h tk m' hf hm' F' N'
    rw [canon_of (a := ("size" : Str)) (b := ("part" : Str)) hm'] at F'
    dsimp only
    k_steps
    refine' ret _ _ _ _ _ hf ?F ?N
    case F => k_asm
    case N => tb_rel
  case turn =>
    intro x p size t fvs gs nD m' I T h tk o1 o2 o3 o4 o5 hp hm' hf hgl hrI hrD hlt hT F' N'
    rw [canon_of (a := ("size" : Str)) (b := ("part" : Str)) hm'] at F'
    generalize m' ("size" : Str) = u1 at F'
    generalize m' ("part" : Str) = u2 at F'
    have hfl : fvs.length ≤ 10 := by have := IntsAre.length hf; omega
    obtain ⟨hlt1, hlt2, hlt3⟩ := hlt
    replace hlt1 := ltN hlt1
    replace hlt2 := ltN hlt2
    replace hlt3 := ltN hlt3
    cases hp with
    | all =>
      (try k_fold)
      k_steps
      exact zturn_of (by assumption) (by rfl) (by first | assumption | exact news_sub (by assumption) (List.Sublist.cons _ (List.Sublist.refl _)))
    | num v tv =>
      (try k_fold)
      k_steps
      exact zturn_of (by assumption) (by rfl) (by first | assumption | exact news_sub (by assumption) (List.Sublist.cons _ (List.Sublist.refl _)))
    | row hc hc2 hm =>
      rename_i pa np f k c tf tk' tc
      have hpD := neN (hrD _ hm)
      have N2 : News _ _ _ (_ :: _) := fun q hq => (List.mem_cons.mp hq).elim (fun e => e ▸ N' _ (.tail _ (.tail _ (.tail _ (.tail _ (.tail _ (.tail _ (.tail _ (.tail _ hm)))))))))  (fun h => N' q h)
      clear N'
      (try k_fold)
      k_steps
      exact zturn_of (by assumption) (by rfl) (by first | assumption | exact news_sub (by assumption) (List.Sublist.cons _ (List.Sublist.refl _)))
end


theorem off_wraps : True := by
  w_top off
  exact trivial
theorem row_nil {ns : List Int} {f k c : Int} (h : RowIs ns f k c) (hc : ¬ 1 ≤ c) : ns = [] := by
  have h' : ns = rowInts f k c := h
  rw [h']
  unfold rowInts rangeKs
  rw [show (c - 0).toNat = 0 by omega]
  rfl
theorem row_length {ns : List Int} {f k c : Int} (h : RowIs ns f k c) : ns.length = (c - 0).toNat := by
  have h' : ns = rowInts f k c := h
  rw [h']
  unfold rowInts
  rw [List.length_map, rangeKs_length]
theorem row_len {ns : List Int} {f k c : Int} (h : RowIs ns f k c) (hc : 1 ≤ c) : 1 ≤ ns.length := by
  rw [row_length h]; omega
theorem row_mem {ns : List Int} {f k c : Int} (h : RowIs ns f k c) {x : Int} : x ∈ ns ↔ ∃ i : Nat, (i : Int) < c ∧ x = f + k * i := by
  have h' : ns = rowInts f k c := h
  rw [h']
  unfold rowInts rangeKs
  simp only [List.mem_map, List.mem_range]
  constructor
  · rintro ⟨_, ⟨i, hi, rfl⟩, rfl⟩
    exact ⟨i, by omega, by rw [Int.zero_add]⟩
  · rintro ⟨i, hi, rfl⟩
    exact ⟨_, ⟨i, by omega, rfl⟩, by rw [Int.zero_add]⟩
theorem outs_nil_iff {size : Int} {ns : List Int} : outs size ns = [] ↔ ∀ x ∈ ns, 1 ≤ x ∧ x ≤ size := by
  unfold outs
  rw [List.filter_eq_nil_iff]
  refine forall_congr' fun x => forall_congr' fun _ => ?_
  rw [Bool.or_eq_true, decide_eq_true_eq, decide_eq_true_eq]
  omega
theorem num_outs {size v : Int} : outs size [v] = [] ↔ 1 ≤ v ∧ v ≤ size := by
  rw [outs_nil_iff]
  simp
theorem all_outs {size : Int} : outs size (rangeKs 1 (size + 1 - 1).toNat) = [] := by
  rw [outs_nil_iff]
  intro x hx
  have := mem_rangeKs hx
  omega
theorem mid_in {f k size : Int} {i j : Nat} (hij : i ≤ j) (h0 : 1 ≤ f ∧ f ≤ size) (h1 : 1 ≤ f + k * j ∧ f + k * j ≤ size) : 1 ≤ f + k * i ∧ f + k * i ≤ size := by
  have hi : (0 : Int) ≤ (i : Int) := Int.natCast_nonneg i
  have hij' : (i : Int) ≤ (j : Int) := Int.ofNat_le.mpr hij
  rcases Int.le_total 0 k with hk | hk
  · have a1 := Int.mul_nonneg hk hi
    have a2 := Int.mul_le_mul_of_nonneg_left hij' hk
    omega
  · have a1 := Int.mul_nonneg (Int.neg_nonneg.mpr hk) hi
    have a2 := Int.mul_le_mul_of_nonneg_left hij' (Int.neg_nonneg.mpr hk)
    rw [Int.neg_mul] at a1 a2
    rw [Int.neg_mul] at a2
    omega
theorem wide_out {f k size : Int} {j : Nat} (hk : k ≠ 0) (h0 : 1 ≤ f ∧ f ≤ size) (h1 : 1 ≤ f + k * j ∧ f + k * j ≤ size) : (j : Int) < size := by
  have hj : (0 : Int) ≤ (j : Int) := Int.natCast_nonneg j
  rcases Int.lt_or_gt_of_ne hk with hk | hk
  · have a2 := Int.mul_le_mul_of_nonneg_right (show (1 : Int) ≤ -k by omega) hj
    rw [Int.neg_mul] at a2
    omega
  · have a2 := Int.mul_le_mul_of_nonneg_right (show (1 : Int) ≤ k by omega) hj
    omega
theorem row_outs_none {ns : List Int} {f k c size : Int} (h : RowIs ns f k c) (hk : k ≠ 0) (e : rowOf f k c size = none) : outs size ns ≠ [] := by
  intro hq
  rw [outs_nil_iff] at hq
  unfold rowOf at e
  split at e
  · cases e
  · rename_i hc
    split at e
    · cases e
    · rename_i hn
      obtain ⟨j, rfl⟩ : ∃ j : Nat, c = (j : Int) + 1 := ⟨(c - 1).toNat, by omega⟩
      have h0 := hq f ((row_mem h).mpr ⟨0, by omega, by simp⟩)
      have h1 := hq (f + k * j) ((row_mem h).mpr ⟨j, by omega, rfl⟩)
      have h2 := wide_out hk h0 h1
      rw [show (j : Int) + 1 - 1 = j by omega] at hn
      exact hn ⟨by omega, h0.1, h0.2, h1.1, h1.2⟩
theorem row_outs_some {ns : List Int} {f k c size a1 a2 a3 : Int} (h : RowIs ns f k c) (_hk : k ≠ 0) (e : rowOf f k c size = some (a1, a2, a3)) :
    outs size ns = [] ∧ k = a2 ∧ (ns.length : Int) = a3 ∧ (ns = [] → a1 = 1) ∧ (ns ≠ [] → a1 = f) := by
  unfold rowOf at e
  split at e
  · rename_i hc
    cases e
    have hn := row_nil h (by omega)
    subst hn
    exact ⟨rfl, rfl, rfl, fun _ => rfl, fun hq => absurd rfl hq⟩
  · rename_i hc
    split at e
    · rename_i hi
      cases e
      have hl := row_length h
      refine ⟨?_, rfl, by rw [hl]; omega, fun hq => ?_, fun _ => rfl⟩
      · rw [outs_nil_iff]
        intro x hx
        obtain ⟨i, hi', rfl⟩ := (row_mem h).mp hx
        obtain ⟨j, rfl⟩ : ∃ j : Nat, c = (j : Int) + 1 := ⟨(c - 1).toNat, by omega⟩
        rw [show (j : Int) + 1 - 1 = j by omega] at hi
        exact mid_in (j := j) (by omega) ⟨hi.2.1, hi.2.2.1⟩ ⟨hi.2.2.2.1, hi.2.2.2.2⟩
      · rw [hq] at hl
        have : (c - 0).toNat = 0 := hl.symm
        omega
    · cases e
theorem trow_row_upd {w : World} {mean : ExcName → Option Value} {mg mb : Str → Option Value} {dp un : Nat} {gd : Option (List Code)} {cn : Str} {cs : Scope} {a : Addr} {ccd : Value} {cl : List (Str × Addr)} {outer : List Env} {A₀ : Around} {base h₀ : Heap} {L : Addr} {m : Str → Option Value} {s : Shared} {Q E : Value → Shared → Prop} {news : List (Addr × Obj)}
    {pa : Addr} {np : Nat} {f k c size : Int} {tf tk tc ts : Tok}
    (B : Below A₀ base outer h₀) (F : Fr h₀ L s.heap m) (X : (hd.heap_39 w.params).In h₀) (N : News h₀ L s.heap news) (T : Top hd.view_39 (looseW hd.view_39 []) mean mg mb h₀) (hk : cs.kind = .function) (hdp : dp + 8 < recursionLimit) (hun : un + 64 < cLine)
    (hm : (pa, tupOf [.int f tf, .int k tk, .int c tc] np) ∈ news) (hc2 : c ≤ 9)
    (rn : rowOf f k c size = none → ∀ h' tk', Fr h₀ L h' m → News h₀ L h' news → Q .none { s with heap := h', toks := tk' })
    (rs : ∀ a1 a2 a3 t1 t2 t3 r nr h' tk', rowOf f k c size = some (a1, a2, a3) → Fr h₀ L h' m → News h₀ L h' ((r, tupOf [.int a1 t1, .int a2 t2, .int a3 t3] nr) :: news) → Q (.ref r) { s with heap := h', toks := tk' }) :
    wpAny (model PySem.Challenge.rw_xm0681_01.row.prog w) (ktrTop dp un gd cn cs L a ccd cl outer) (call (.ref 21) [.ref pa, .int size ts]) Q E s := by
  exact trow_row B F X (fun p hp => N p ((List.mem_cons.mp hp).elim (fun e => e ▸ hm) id)) T hk hdp hun hc2 (fun e h' tk' F' N' => rn e h' tk' F' (fun p hp => N' p (.tail _ (hp)))) (fun a1 a2 a3 t1 t2 t3 r nr h' tk' e F' N' => rs a1 a2 a3 t1 t2 t3 r nr h' tk' e F' (fun p hp => N' p ((List.mem_cons.mp hp).elim (fun e => e ▸ .head _) fun hp => .tail _ (.tail _ (hp)))))

theorem ltaken_row_none {w : World} {mean : ExcName → Option Value} {mg mb : Str → Option Value} {dp un : Nat} {gd : Option (List Code)} {cn : Str} {cs : Scope} {a : Addr} {ccd : Value} {cl : List (Str × Addr)} {outer : List Env} {A₀ : Around} {base h₀ : Heap} {L : Addr} {m : Str → Option Value} {s : Shared} {Q E : Value → Shared → Prop} {news : List (Addr × Obj)}
    {pa : Addr} {np : Nat} {f k c size : Int} {tf tk tc ts : Tok} {ix : Addr} {nx : Nat} {vs : List Value} {ns : List Int}
    (B : Below A₀ base outer h₀) (F : Fr h₀ L s.heap m) (X : (hd.heap_39 w.params).In h₀) (N : News h₀ L s.heap news) (T : Top hd.view_39 (looseW hd.view_39 []) mean mg mb h₀) (hk : cs.kind = .function) (hdp : dp + 8 < recursionLimit) (hun : un + 160 < cLine)
    (hm : (pa, tupOf [.int f tf, .int k tk, .int c tc] np) ∈ news) (hx : (ix, listOf vs.toArray nx) ∈ news) (I : IntsAre vs ns) (hl : ns.length ≤ 100) (hrow : RowIs ns f k c) (hk0 : k ≠ 0) (e : rowOf f k c size = none)
    (ret : ∀ h' tk', Fr h₀ L h' m → News h₀ L h' news → Q .none { s with heap := h', toks := tk' }) :
    wpAny (model PySem.Challenge.rw_xm0681_01.row.prog w) (ktrTop dp un gd cn cs L a ccd cl outer) (call (.ref 66) [.ref pa, .ref ix, .int size ts]) Q E s := by
  exact ltaken_row B F X (fun p hp => N p ((List.mem_cons.mp hp).elim (fun e => e ▸ hx) fun hp => (List.mem_cons.mp hp).elim (fun e => e ▸ hm) id)) T hk hdp hun I hl (fun _ h' tk' F' N' => ret h' tk' F' (fun p hp => N' p (.tail _ (.tail _ (hp))))) (fun e2 => absurd e2 (row_outs_none hrow hk0 e))

theorem ltaken_row_some {w : World} {mean : ExcName → Option Value} {mg mb : Str → Option Value} {dp un : Nat} {gd : Option (List Code)} {cn : Str} {cs : Scope} {a : Addr} {ccd : Value} {cl : List (Str × Addr)} {outer : List Env} {A₀ : Around} {base h₀ : Heap} {L : Addr} {m : Str → Option Value} {s : Shared} {Q E : Value → Shared → Prop} {news : List (Addr × Obj)}
    {pa : Addr} {np : Nat} {f k c size : Int} {tf tk tc ts : Tok} {ix : Addr} {nx : Nat} {vs : List Value} {ns : List Int} {a1 a2 a3 : Int}
    (B : Below A₀ base outer h₀) (F : Fr h₀ L s.heap m) (X : (hd.heap_39 w.params).In h₀) (N : News h₀ L s.heap news) (T : Top hd.view_39 (looseW hd.view_39 []) mean mg mb h₀) (hk : cs.kind = .function) (hdp : dp + 8 < recursionLimit) (hun : un + 160 < cLine)
    (hm : (pa, tupOf [.int f tf, .int k tk, .int c tc] np) ∈ news) (hx : (ix, listOf vs.toArray nx) ∈ news) (I : IntsAre vs ns) (hl : ns.length ≤ 100) (hrow : RowIs ns f k c) (hk0 : k ≠ 0) (e : rowOf f k c size = some (a1, a2, a3))
    (ret : ∀ t1 t2 t3 r nr h' tk', Fr h₀ L h' m → News h₀ L h' ((r, tupOf [.int a1 t1, .int a2 t2, .int a3 t3] nr) :: news) → Q (.ref r) { s with heap := h', toks := tk' }) :
    wpAny (model PySem.Challenge.rw_xm0681_01.row.prog w) (ktrTop dp un gd cn cs L a ccd cl outer) (call (.ref 66) [.ref pa, .ref ix, .int size ts]) Q E s := by
  obtain ⟨o1, o2, o3, o4, o5⟩ := row_outs_some hrow hk0 e
  refine ltaken_row B F X (fun p hp => N p ((List.mem_cons.mp hp).elim (fun e => e ▸ hx) fun hp => (List.mem_cons.mp hp).elim (fun e => e ▸ hm) id)) T hk hdp hun I hl (fun e2 => absurd o1 e2) (fun _ b1 t1 t2 t3 r nr h' tk' e1 e2 F' N' => ?_)
  have eb : b1 = a1 := by
    by_cases hq : ns = []
    · rw [e1 hq, o4 hq]
    · rw [e2 hq, o5 hq]
  subst eb o2 o3
  exact ret t1 t2 t3 r nr h' tk' F' (fun p hp => N' p ((List.mem_cons.mp hp).elim (fun e => e ▸ .head _) fun hp => .tail _ (.tail _ (.tail _ (hp)))))

theorem ltaken_num_none {w : World} {mean : ExcName → Option Value} {mg mb : Str → Option Value} {dp un : Nat} {gd : Option (List Code)} {cn : Str} {cs : Scope} {a : Addr} {ccd : Value} {cl : List (Str × Addr)} {outer : List Env} {A₀ : Around} {base h₀ : Heap} {L : Addr} {m : Str → Option Value} {s : Shared} {Q E : Value → Shared → Prop} {news : List (Addr × Obj)}
    {v size : Int} {tv ts t2 : Tok} {ix : Addr} {nx : Nat}
    (B : Below A₀ base outer h₀) (F : Fr h₀ L s.heap m) (X : (hd.heap_39 w.params).In h₀) (N : News h₀ L s.heap news) (T : Top hd.view_39 (looseW hd.view_39 []) mean mg mb h₀) (hk : cs.kind = .function) (hdp : dp + 8 < recursionLimit) (hun : un + 160 < cLine)
    (hx : (ix, listOf [.int v t2].toArray nx) ∈ news) (e : ¬ (1 ≤ v ∧ v ≤ size))
    (ret : ∀ h' tk', Fr h₀ L h' m → News h₀ L h' news → Q .none { s with heap := h', toks := tk' }) :
    wpAny (model PySem.Challenge.rw_xm0681_01.row.prog w) (ktrTop dp un gd cn cs L a ccd cl outer) (call (.ref 66) [.int v tv, .ref ix, .int size ts]) Q E s := by
  exact ltaken_num B F X (fun p hp => N p ((List.mem_cons.mp hp).elim (fun e => e ▸ hx) id)) T hk hdp hun (.cons v t2 .nil) (by rw [List.length_singleton]; omega) (fun _ h' tk' F' N' => ret h' tk' F' (fun p hp => N' p (.tail _ (hp)))) (fun e2 => absurd (num_outs.mp e2) e)

theorem ltaken_num_some {w : World} {mean : ExcName → Option Value} {mg mb : Str → Option Value} {dp un : Nat} {gd : Option (List Code)} {cn : Str} {cs : Scope} {a : Addr} {ccd : Value} {cl : List (Str × Addr)} {outer : List Env} {A₀ : Around} {base h₀ : Heap} {L : Addr} {m : Str → Option Value} {s : Shared} {Q E : Value → Shared → Prop} {news : List (Addr × Obj)}
    {v size : Int} {tv ts t2 : Tok} {ix : Addr} {nx : Nat}
    (B : Below A₀ base outer h₀) (F : Fr h₀ L s.heap m) (X : (hd.heap_39 w.params).In h₀) (N : News h₀ L s.heap news) (T : Top hd.view_39 (looseW hd.view_39 []) mean mg mb h₀) (hk : cs.kind = .function) (hdp : dp + 8 < recursionLimit) (hun : un + 160 < cLine)
    (hx : (ix, listOf [.int v t2].toArray nx) ∈ news) (e : 1 ≤ v ∧ v ≤ size)
    (ret : ∀ t1 t2 r nr h' tk', Fr h₀ L h' m → News h₀ L h' ((r, tupOf [.int v t1, .int 1 t2, .none] nr) :: news) → Q (.ref r) { s with heap := h', toks := tk' }) :
    wpAny (model PySem.Challenge.rw_xm0681_01.row.prog w) (ktrTop dp un gd cn cs L a ccd cl outer) (call (.ref 66) [.int v tv, .ref ix, .int size ts]) Q E s := by
  exact ltaken_num B F X (fun p hp => N p ((List.mem_cons.mp hp).elim (fun e => e ▸ hx) id)) T hk hdp hun (.cons v t2 .nil) (by rw [List.length_singleton]; omega) (fun e2 => absurd (num_outs.mpr e) e2) (fun _ t1 t2 r nr h' tk' F' N' => ret t1 t2 r nr h' tk' F' (fun p hp => N' p ((List.mem_cons.mp hp).elim (fun e => e ▸ .head _) fun hp => .tail _ (.tail _ (hp)))))

theorem ltaken_all_some {w : World} {mean : ExcName → Option Value} {mg mb : Str → Option Value} {dp un : Nat} {gd : Option (List Code)} {cn : Str} {cs : Scope} {a : Addr} {ccd : Value} {cl : List (Str × Addr)} {outer : List Env} {A₀ : Around} {base h₀ : Heap} {L : Addr} {m : Str → Option Value} {s : Shared} {Q E : Value → Shared → Prop} {news : List (Addr × Obj)}
    {size : Int} {ts : Tok} {ix : Addr} {nx : Nat} {vs : List Value}
    (B : Below A₀ base outer h₀) (F : Fr h₀ L s.heap m) (X : (hd.heap_39 w.params).In h₀) (N : News h₀ L s.heap news) (T : Top hd.view_39 (looseW hd.view_39 []) mean mg mb h₀) (hk : cs.kind = .function) (hdp : dp + 8 < recursionLimit) (hun : un + 160 < cLine)
    (hx : (ix, listOf vs.toArray nx) ∈ news) (I : IntsAre vs (rangeKs 1 (size + 1 - 1).toNat)) (hs : 0 ≤ size) (hs2 : size ≤ 6)
    (ret : ∀ t1 t2 t3 r nr h' tk', Fr h₀ L h' m → News h₀ L h' ((r, tupOf [.int 1 t1, .int 1 t2, .int size t3] nr) :: news) → Q (.ref r) { s with heap := h', toks := tk' }) :
    wpAny (model PySem.Challenge.rw_xm0681_01.row.prog w) (ktrTop dp un gd cn cs L a ccd cl outer) (call (.ref 66) [.none, .ref ix, .int size ts]) Q E s := by
  exact ltaken_all B F X (fun p hp => N p ((List.mem_cons.mp hp).elim (fun e => e ▸ hx) id)) T hk hdp hun I (by rw [rangeKs_length]; omega) (fun e2 => absurd all_outs e2) (fun _ t1 t2 t3 r nr h' tk' F' N' => ret t1 t2 t3 r nr h' tk' F' (fun p hp => N' p ((List.mem_cons.mp hp).elim (fun e => e ▸ .head _) fun hp => .tail _ (.tail _ (hp)))))

theorem ledge_row_upd {w : World} {mean : ExcName → Option Value} {mg mb : Str → Option Value} {dp un : Nat} {gd : Option (List Code)} {cn : Str} {cs : Scope} {a : Addr} {ccd : Value} {cl : List (Str × Addr)} {outer : List Env} {A₀ : Around} {base h₀ : Heap} {L : Addr} {m : Str → Option Value} {s : Shared} {Q E : Value → Shared → Prop} {news : List (Addr × Obj)}
    {pa : Addr} {np : Nat} {f k c size : Int} {tf tk tc ts : Tok} {ix : Addr} {nx : Nat} {vs : List Value} {ns : List Int}
    (B : Below A₀ base outer h₀) (F : Fr h₀ L s.heap m) (X : (hd.heap_39 w.params).In h₀) (N : News h₀ L s.heap news) (T : Top hd.view_39 (looseW hd.view_39 []) mean mg mb h₀) (hk : cs.kind = .function) (hdp : dp + 8 < recursionLimit) (hun : un + 160 < cLine)
    (hm : (pa, tupOf [.int f tf, .int k tk, .int c tc] np) ∈ news) (hx : (ix, listOf vs.toArray nx) ∈ news) (I : IntsAre vs ns) (hl : ns.length ≤ 100) (hrow : RowIs ns f k c) (hs : 0 ≤ size) (hs2 : size ≤ 6)
    (ret : ∀ t h' tk', Fr h₀ L h' m → News h₀ L h' news → Q (.int (edgeOf f k c size) t) { s with heap := h', toks := tk' }) :
    wpAny (model PySem.Challenge.rw_xm0681_01.row.prog w) (ktrTop dp un gd cn cs L a ccd cl outer) (call (.ref 71) [.ref pa, .ref ix, .int size ts]) Q E s := by
  by_cases hc : 1 ≤ c
  · exact ledge_row B F X (fun p hp => N p ((List.mem_cons.mp hp).elim (fun e => e ▸ hx) fun hp => (List.mem_cons.mp hp).elim (fun e => e ▸ hm) id)) T hk hdp hun I hl (row_len hrow hc) hs hs2 hrow hc (fun t h' tk' F' N' => ret t h' tk' F' (fun p hp => N' p (.tail _ (.tail _ (hp)))))
  · have e := row_nil hrow hc
    subst e
    cases I
    refine ledge_nil B F X (fun p hp => N p ((List.mem_cons.mp hp).elim (fun e => e ▸ hx) fun hp => (List.mem_cons.mp hp).elim (fun e => e ▸ hm) id)) T hk hdp hun hs hs2 (fun t h' tk' F' N' => ?_)
    have e : edgeOf f k c size = f := by unfold edgeOf; rw [if_neg (by omega)]
    rw [← e]
    exact ret t h' tk' F' (fun p hp => N' p (.tail _ (.tail _ (hp))))

theorem ledge_num_upd {w : World} {mean : ExcName → Option Value} {mg mb : Str → Option Value} {dp un : Nat} {gd : Option (List Code)} {cn : Str} {cs : Scope} {a : Addr} {ccd : Value} {cl : List (Str × Addr)} {outer : List Env} {A₀ : Around} {base h₀ : Heap} {L : Addr} {m : Str → Option Value} {s : Shared} {Q E : Value → Shared → Prop} {news : List (Addr × Obj)}
    {v size : Int} {tv ts : Tok} {ix : Addr} {nx : Nat} {vs : List Value}
    (B : Below A₀ base outer h₀) (F : Fr h₀ L s.heap m) (X : (hd.heap_39 w.params).In h₀) (N : News h₀ L s.heap news) (T : Top hd.view_39 (looseW hd.view_39 []) mean mg mb h₀) (hk : cs.kind = .function) (hdp : dp + 8 < recursionLimit) (hun : un + 160 < cLine)
    (hx : (ix, listOf vs.toArray nx) ∈ news)
    (ret : ∀ t h' tk', Fr h₀ L h' m → News h₀ L h' news → Q (.int v t) { s with heap := h', toks := tk' }) :
    wpAny (model PySem.Challenge.rw_xm0681_01.row.prog w) (ktrTop dp un gd cn cs L a ccd cl outer) (call (.ref 71) [.int v tv, .ref ix, .int size ts]) Q E s := by
  exact ledge_num B F X (fun p hp => N p ((List.mem_cons.mp hp).elim (fun e => e ▸ hx) id)) T hk hdp hun (fun t h' tk' F' N' => ret t h' tk' F' (fun p hp => N' p (.tail _ (hp))))

theorem ledge_all_upd {w : World} {mean : ExcName → Option Value} {mg mb : Str → Option Value} {dp un : Nat} {gd : Option (List Code)} {cn : Str} {cs : Scope} {a : Addr} {ccd : Value} {cl : List (Str × Addr)} {outer : List Env} {A₀ : Around} {base h₀ : Heap} {L : Addr} {m : Str → Option Value} {s : Shared} {Q E : Value → Shared → Prop} {news : List (Addr × Obj)}
    {size : Int} {ts : Tok} {ix : Addr} {nx : Nat} {vs : List Value}
    (B : Below A₀ base outer h₀) (F : Fr h₀ L s.heap m) (X : (hd.heap_39 w.params).In h₀) (N : News h₀ L s.heap news) (T : Top hd.view_39 (looseW hd.view_39 []) mean mg mb h₀) (hk : cs.kind = .function) (hdp : dp + 8 < recursionLimit) (hun : un + 160 < cLine)
    (hx : (ix, listOf vs.toArray nx) ∈ news)
    (ret : ∀ t h' tk', Fr h₀ L h' m → News h₀ L h' news → Q (.int 1 t) { s with heap := h', toks := tk' }) :
    wpAny (model PySem.Challenge.rw_xm0681_01.row.prog w) (ktrTop dp un gd cn cs L a ccd cl outer) (call (.ref 71) [.none, .ref ix, .int size ts]) Q E s := by
  exact ledge_all B F X (fun p hp => N p ((List.mem_cons.mp hp).elim (fun e => e ▸ hx) id)) T hk hdp hun (fun t h' tk' F' N' => ret t h' tk' F' (fun p hp => N' p (.tail _ (hp))))

theorem indices_upd {w : World} {mean : ExcName → Option Value} {mg mb : Str → Option Value} {dp un : Nat} {gd : Option (List Code)} {cn : Str} {cs : Scope} {a : Addr} {ccd : Value} {cl : List (Str × Addr)} {outer : List Env} {A₀ : Around} {base h₀ : Heap} {L : Addr} {m : Str → Option Value} {s : Shared} {Q E : Value → Shared → Prop} {news : List (Addr × Obj)}
    {P S : Addr} {nP nS : Nat} {pvs svs : List Value} {ps : List Pt} {zs : List Int}
    (B : Below A₀ base outer h₀) (F : Fr h₀ L s.heap m) (X : (hd.heap_39 w.params).In h₀) (N : News h₀ L s.heap news) (T : Top hd.view_39 (looseW hd.view_39 []) mean mg mb h₀) (hk : cs.kind = .function) (hdp : dp + 16 < recursionLimit) (hun : un + 160 < cLine)
    (hP : (P, listOf pvs.toArray nP) ∈ news) (hS : (S, listOf svs.toArray nS) ∈ news) (HP : PtsIn news pvs ps) (HS : IntsAre svs zs) (hlen : ps.length = zs.length) (hl : zs.length ≤ 10)
    (ret : ∀ D n fvs h' tk', IntsAre fvs (List.zipWith edgeP ps zs) → Fr h₀ L h' m → News h₀ L h' ((D, listOf fvs.toArray n) :: news) → Q (.ref D) { s with heap := h', toks := tk' }) :
    wpAny (model PySem.Challenge.rw_xm0681_01.row.prog w) (ktrTop dp un gd cn cs L a ccd cl outer) (call (.ref 28) [.ref P, .ref S]) Q E s := by
  exact indices_ok B F X (fun p hp => N p ((List.mem_cons.mp hp).elim (fun e => e ▸ hP) fun hp => (List.mem_cons.mp hp).elim (fun e => e ▸ hS) id)) T hk hdp hun HP HS hlen hl (fun D n fvs h' tk' e F' N' => ret D n fvs h' tk' e F' (fun p hp => N' p ((List.mem_cons.mp hp).elim (fun e => e ▸ .head _) fun hp => .tail _ (.tail _ (.tail _ (hp))))))

theorem part_upd {w : World} {mean : ExcName → Option Value} {mg mb : Str → Option Value} {dp un : Nat} {gd : Option (List Code)} {cn : Str} {cs : Scope} {a : Addr} {ccd : Value} {cl : List (Str × Addr)} {outer : List Env} {A₀ : Around} {base h₀ : Heap} {L : Addr} {m : Str → Option Value} {s : Shared} {Q E : Value → Shared → Prop} {news : List (Addr × Obj)} {g : Obj → List (Addr × Obj)}
    {src : Addr} {n : Nat} {x y size : Int} {tx ty ts : Tok}
    (B : Below A₀ base outer h₀) (F : Fr h₀ L s.heap m) (X : (hd.heap_39 w.params).In h₀) (N : News h₀ L s.heap news) (T : Top hd.view_39 (looseW hd.view_39 []) mean mg mb h₀) (hk : cs.kind = .function) (hdp : dp + 8 < recursionLimit) (hun : un + 64 < cLine)
    (U : UpdF src (listOf #[.int x tx, .int y ty] n) news g) (hx : 0 ≤ x) (hy : 0 ≤ y) (hy2 : y < 2147483647) (hs : 0 ≤ size) (hs2 : size ≤ 6)
    (rall : ∀ r ix nr nx vs x' y' tx' ty' h' tk', IntsAre vs (rangeKs 1 (size + 1 - 1).toNat) → 0 ≤ x' → 0 ≤ y' → y' < 2147483647 → Nx r src → Nx ix src → Fr h₀ L h' m →
      News h₀ L h' ((r, tupOf [.none, .ref ix] nr) :: (ix, listOf vs.toArray nx) :: g (listOf #[.int x' tx', .int y' ty'] n)) → Q (.ref r) { s with heap := h', toks := tk' })
    (rnum : ∀ r ix nr nx v t1 t2 x' y' tx' ty' h' tk', -1 ≤ v → v ≤ size + 2 → 0 ≤ x' → 0 ≤ y' → y' < 2147483647 → Nx r src → Nx ix src → Fr h₀ L h' m →
      News h₀ L h' ((r, tupOf [.int v t1, .ref ix] nr) :: (ix, listOf [.int v t2].toArray nx) :: g (listOf #[.int x' tx', .int y' ty'] n)) → Q (.ref r) { s with heap := h', toks := tk' })
    (rrow : ∀ r ix pa nr nx np f k c tf tk tc vs ns x' y' tx' ty' h' tk', IntsAre vs ns → RowIs ns f k c → ns.length ≤ 100 → -3 ≤ f → f ≤ 9 → k ≠ 0 → -3 ≤ c → c ≤ 9 → 0 ≤ x' → 0 ≤ y' → y' < 2147483647 → Nx r src → Nx ix src → Nx pa src → Fr h₀ L h' m →
      News h₀ L h' ((r, tupOf [.ref pa, .ref ix] nr) :: (ix, listOf vs.toArray nx) :: (pa, tupOf [.int f tf, .int k tk, .int c tc] np) :: g (listOf #[.int x' tx', .int y' ty'] n)) → Q (.ref r) { s with heap := h', toks := tk' }) :
    wpAny (model PySem.Challenge.rw_xm0681_01.row.prog w) (ktrTop dp un gd cn cs L a ccd cl outer) (call (.ref 61) [.ref src, .int size ts]) Q E s := by
  obtain ⟨pre, post, e, hg, h1, h2⟩ := U.split
  have N' : News h₀ L s.heap ((src, listOf #[.int x tx, .int y ty] n) :: (pre ++ post)) := fun p hp => N p (by
    rw [e]
    rcases List.mem_cons.mp hp with rfl | hp
    · exact List.mem_append.mpr (.inr (.head _))
    · rcases List.mem_append.mp hp with hp | hp
      · exact List.mem_append.mpr (.inl hp)
      · exact List.mem_append.mpr (.inr (.tail _ hp)))
  have sw : ∀ o' : Obj, ∀ p ∈ g o', p ∈ (src, o') :: (pre ++ post) := fun o' p hp => by
    rw [hg] at hp
    rcases List.mem_append.mp hp with hp | hp
    · exact .tail _ (List.mem_append.mpr (.inl hp))
    · rcases List.mem_cons.mp hp with rfl | hp
      · exact .head _
      · exact .tail _ (List.mem_append.mpr (.inr hp))
  refine part_ok B F X N' T hk hdp hun (fun p hp => (List.mem_append.mp hp).elim (h1 p) (h2 p)) hx hy hy2 hs hs2 ?_ ?_ ?_
  · intro r ix nr nx vs x' y' tx' ty' h' tk' hI b1 b2 b3 b4 b5 F' N''
    refine rall r ix nr nx vs x' y' tx' ty' h' tk' hI b1 b2 b3 (.of b4) (.of b5) F' (fun p hp => N'' p ?_)
    rcases List.mem_cons.mp hp with rfl | hp
    · exact .head _
    · rcases List.mem_cons.mp hp with rfl | hp
      · exact .tail _ (.head _)
      · exact .tail _ (.tail _ (sw _ p hp))
  · intro r ix nr nx v t1 t2 x' y' tx' ty' h' tk' c1 c2 b1 b2 b3 b4 b5 F' N''
    refine rnum r ix nr nx v t1 t2 x' y' tx' ty' h' tk' c1 c2 b1 b2 b3 (.of b4) (.of b5) F' (fun p hp => N'' p ?_)
    rcases List.mem_cons.mp hp with rfl | hp
    · exact .head _
    · rcases List.mem_cons.mp hp with rfl | hp
      · exact .tail _ (.head _)
      · exact .tail _ (.tail _ (sw _ p hp))
  · intro r ix pa nr nx np f k c tf tk tc vs x' y' tx' ty' h' tk' hI c1 c2 c3 c4 c5 c6 c7 b1 b2 b3 b4 b5 b6 F' N''
    refine rrow r ix pa nr nx np f k c tf tk tc vs _ x' y' tx' ty' h' tk' hI rfl (by rw [List.length_map, rangeKs_length]; omega) c1 c2 c3 c6 c7 b1 b2 b3 (.of b4) (.of b5) (.of b6) F' (fun p hp => N'' p ?_)
    rcases List.mem_cons.mp hp with rfl | hp
    · exact .head _
    · rcases List.mem_cons.mp hp with rfl | hp
      · exact .tail _ (.head _)
      · rcases List.mem_cons.mp hp with rfl | hp
        · exact .tail _ (.tail _ (.head _))
        · exact .tail _ (.tail _ (.tail _ (sw _ p hp)))

local macro_rules | `(tactic| walk_at "call ref") => `(tactic| (k_here; (with_reducible show wpAny _ _ (call (Value.ref 61) _) _ _ _); k_dflt (refine' part_upd ?B ?F ?X ?N ?T ?hk ?hdp ?hun ?U ?hx ?hy ?hy2 ?hs ?hs2 ?_ ?_ ?_; (case hk => exact rfl); (case B => k_asm); (case F => k_asm); (case X => k_asm); (case N => k_asm); (case T => k_asm); (case U => k_updF); (case hdp => ktr_room); (case hun => units_room); (case hx => first | assumption | omega); (case hy => first | assumption | omega); (case hy2 => first | assumption | omega); (case hs => first | assumption | omega); (case hs2 => first | assumption | omega)); all_goals (intros; (try ((rename News _ _ _ _ => nN'); (dsimp only at nN'))); (try dsimp only); (try k_sweep); (try k_fold))))
local macro_rules | `(tactic| walk_at "call ref") => `(tactic| (k_here; (with_reducible show wpAny _ _ (call (Value.ref 21) [Value.ref _, _]) _ _ _); k_dflt (refine' trow_row_upd ?B ?F ?X ?N ?T ?hk ?hdp ?hun ?hm ?hc ?_ ?_; (case hk => exact rfl); (case B => k_asm); (case F => k_asm); (case X => k_asm); (case N => k_asm); (case T => k_asm); (case hm => k_mem); (case hdp => ktr_room); (case hun => units_room); (case hc => first | assumption | omega)); all_goals (intros; (try ((rename News _ _ _ _ => nN'); (dsimp only at nN'))); (try dsimp only); (try k_sweep); (try k_fold))))
local macro_rules | `(tactic| walk_at "call ref") => `(tactic| (k_here; (with_reducible show wpAny _ _ (call (Value.ref 21) [Value.int _ _, _]) _ _ _); k_dflt (refine' trow_num ?B ?F ?X ?N ?T ?hk ?hdp ?hun ?_ ?_; (case hk => exact rfl); (case B => k_asm); (case F => k_asm); (case X => k_asm); (case N => k_asm); (case T => k_asm); (case hdp => ktr_room); (case hun => units_room)); all_goals (intros; (try ((rename News _ _ _ _ => nN'); (dsimp only at nN'))); (try dsimp only); (try k_sweep); (try k_fold))))
local macro_rules | `(tactic| walk_at "call ref") => `(tactic| (k_here; (with_reducible show wpAny _ _ (call (Value.ref 21) [Value.none, _]) _ _ _); k_dflt (refine' trow_all ?B ?F ?X ?N ?T ?hk ?hdp ?hun ?_; (case hk => exact rfl); (case B => k_asm); (case F => k_asm); (case X => k_asm); (case N => k_asm); (case T => k_asm); (case hdp => ktr_room); (case hun => units_room)); all_goals (intros; (try ((rename News _ _ _ _ => nN'); (dsimp only at nN'))); (try dsimp only); (try k_sweep); (try k_fold))))
local macro_rules | `(tactic| walk_at "call ref") => `(tactic| (k_here; (with_reducible show wpAny _ _ (call (Value.ref 66) [Value.ref _, _, _]) _ _ _); k_dflt (first | (refine' ltaken_row_none ?B ?F ?X ?N ?T ?hk ?hdp ?hun ?hm ?hx ?I ?hl ?hr ?h0 ?e ?_; (case hk => exact rfl); (case B => k_asm); (case F => k_asm); (case X => k_asm); (case N => k_asm); (case T => k_asm); (case hm => k_mem); (case hx => k_mem); (case I => assumption); (case hl => assumption); (case hr => assumption); (case h0 => assumption); (case e => assumption); (case hdp => ktr_room); (case hun => units_room); k_whole; intro h' tk' F' N'; (try dsimp only); (try k_sweep); (try k_fold)) | (refine' ltaken_row_some ?B ?F ?X ?N ?T ?hk ?hdp ?hun ?hm ?hx ?I ?hl ?hr ?h0 ?e ?_; (case hk => exact rfl); (case B => k_asm); (case F => k_asm); (case X => k_asm); (case N => k_asm); (case T => k_asm); (case hm => k_mem); (case hx => k_mem); (case I => assumption); (case hl => assumption); (case hr => assumption); (case h0 => assumption); (case e => assumption); (case hdp => ktr_room); (case hun => units_room); k_whole; intro t1' t2' t3' r' nr' h' tk' F' N'; (try dsimp only); (try k_sweep); (try k_fold)))))
local macro_rules | `(tactic| walk_at "call ref") => `(tactic| (k_here; (with_reducible show wpAny _ _ (call (Value.ref 66) [Value.int _ _, _, _]) _ _ _); k_dflt (first | (refine' ltaken_num_none ?B ?F ?X ?N ?T ?hk ?hdp ?hun ?hx ?e ?_; (case hk => exact rfl); (case B => k_asm); (case F => k_asm); (case X => k_asm); (case N => k_asm); (case T => k_asm); (case hx => k_mem); (case e => assumption); (case hdp => ktr_room); (case hun => units_room); k_whole; intro h' tk' F' N'; (try dsimp only); (try k_sweep); (try k_fold)) | (refine' ltaken_num_some ?B ?F ?X ?N ?T ?hk ?hdp ?hun ?hx ?e ?_; (case hk => exact rfl); (case B => k_asm); (case F => k_asm); (case X => k_asm); (case N => k_asm); (case T => k_asm); (case hx => k_mem); (case e => assumption); (case hdp => ktr_room); (case hun => units_room); k_whole; intro t1' t2' r' nr' h' tk' F' N'; (try dsimp only); (try k_sweep); (try k_fold)))))
local macro_rules | `(tactic| walk_at "call ref") => `(tactic| (k_here; (with_reducible show wpAny _ _ (call (Value.ref 66) [Value.none, _, _]) _ _ _); k_dflt (refine' ltaken_all_some ?B ?F ?X ?N ?T ?hk ?hdp ?hun ?hx ?I ?hs ?hs2 ?_; (case hk => exact rfl); (case B => k_asm); (case F => k_asm); (case X => k_asm); (case N => k_asm); (case T => k_asm); (case hx => k_mem); (case I => assumption); (case hs => first | assumption | omega); (case hs2 => first | assumption | omega); (case hdp => ktr_room); (case hun => units_room); k_whole); intro t1' t2' t3' r' nr' h' tk' F' N'; (try dsimp only); (try k_sweep); (try k_fold)))
local macro_rules | `(tactic| walk_at "call ref") => `(tactic| (k_here; (with_reducible show wpAny _ _ (call (Value.ref 71) [Value.ref _, _, _]) _ _ _); k_dflt (refine' ledge_row_upd ?B ?F ?X ?N ?T ?hk ?hdp ?hun ?hm ?hx ?I ?hl ?hr ?hs ?hs2 ?_; (case hk => exact rfl); (case B => k_asm); (case F => k_asm); (case X => k_asm); (case N => k_asm); (case T => k_asm); (case hm => k_mem); (case hx => k_mem); (case I => assumption); (case hl => assumption); (case hr => assumption); (case hs => first | assumption | omega); (case hs2 => first | assumption | omega); (case hdp => ktr_room); (case hun => units_room); k_whole); intro t' h' tk' F' N'; (try dsimp only); (try k_sweep); (try k_fold)))
local macro_rules | `(tactic| walk_at "call ref") => `(tactic| (k_here; (with_reducible show wpAny _ _ (call (Value.ref 71) [Value.int _ _, _, _]) _ _ _); k_dflt (refine' ledge_num_upd ?B ?F ?X ?N ?T ?hk ?hdp ?hun ?hx ?_; (case hk => exact rfl); (case B => k_asm); (case F => k_asm); (case X => k_asm); (case N => k_asm); (case T => k_asm); (case hx => k_mem); (case hdp => ktr_room); (case hun => units_room); k_whole); intro t' h' tk' F' N'; (try dsimp only); (try k_sweep); (try k_fold)))
local macro_rules | `(tactic| walk_at "call ref") => `(tactic| (k_here; (with_reducible show wpAny _ _ (call (Value.ref 71) [Value.none, _, _]) _ _ _); k_dflt (refine' ledge_all_upd ?B ?F ?X ?N ?T ?hk ?hdp ?hun ?hx ?_; (case hk => exact rfl); (case B => k_asm); (case F => k_asm); (case X => k_asm); (case N => k_asm); (case T => k_asm); (case hx => k_mem); (case hdp => ktr_room); (case hun => units_room); k_whole); intro t' h' tk' F' N'; (try dsimp only); (try k_sweep); (try k_fold)))
local macro_rules | `(tactic| walk_at "call ref") => `(tactic| (k_here; (with_reducible show wpAny _ _ (call (Value.ref 42) _) _ _ _); k_dflt (refine' pool_ok ?B ?F ?X ?N ?T ?hk ?hdp ?hun ?hl ?I ?hlay ?_; (case hk => exact rfl); (case B => k_asm); (case F => k_asm); (case X => k_asm); (case N => k_asm); (case T => k_asm); (case hl => assumption); (case I => assumption); (case hlay => assumption); (case hdp => ktr_room); (case hun => units_room); k_whole); intro r' n' x' y' tx' ty' h' tk' hx1' hy1' hy2' l1' F' N'; (try k_lt l1'); (try dsimp only); (try k_sweep); (try k_fold)))

local macro_rules | `(tactic| walk_at "call ref") => `(tactic| (k_here; (with_reducible show wpAny _ _ (call (Value.ref 28) _) _ _ _); k_dflt (refine' indices_upd ?B ?F ?X ?N ?T ?hk ?hdp ?hun ?hP ?hS ?HP ?HS ?hlen ?hl ?_; (case hk => exact rfl); (case B => k_asm); (case F => k_asm); (case X => k_asm); (case N => k_asm); (case T => k_asm); (case hP => k_mem); (case hS => k_mem); (case HP => exact PtsIn.mono (by assumption) (fun q hq => by first | exact hq | exact .tail _ hq | exact .tail _ (.tail _ hq) | exact .tail _ (.tail _ (.tail _ hq)) | exact .tail _ (.tail _ (.tail _ (.tail _ hq))) | fail "indices: no place")); (case HS => assumption); (case hlen => assumption); (case hl => assumption); (case hdp => ktr_room); (case hun => units_room); k_whole); intro D' n' fvs' h' tk' e' F' N'; (try dsimp only); (try k_sweep); (try k_fold)))

theorem off_lawloop : True := by
  w_top off
  exact trivial
def LTurn (h₀ : Heap) (L src I : Addr) (it : Obj) (s₁ : Shared) (rows : List (Addr × Obj)) (pvs svs evs : List Value) (f : Flow) (s₂ : Shared) : Prop :=
  f = .next ∧ ∃ h' tk m' x y tx ty n P S Ed nP nS nE v p size ts te nrows, s₂ = { s₁ with heap := h', toks := tk } ∧
    (m' ("source" : Str) = some (.ref src) ∧ m' ("parts" : Str) = some (.ref P) ∧ m' ("sizes" : Str) = some (.ref S) ∧ m' ("edges" : Str) = some (.ref Ed)) ∧
    (0 ≤ x ∧ 0 ≤ y ∧ y < 2147483647) ∧ PtIn nrows v p ∧ (P ≠ src ∧ S ≠ src ∧ Ed ≠ src) ∧ (∀ q ∈ nrows, q.1 ≠ src ∧ q.2.cls = .type "tuple") ∧
    Fr h₀ L h' m' ∧ News h₀ L h' ((I, it) :: (src, listOf #[.int x tx, .int y ty] n) :: (P, listOf (pvs ++ [v]).toArray nP) :: (S, listOf (svs ++ [Value.int size ts]).toArray nS) :: (Ed, listOf (evs ++ [Value.int (edgeP p size) te]).toArray nE) :: (nrows ++ rows))
def LInv (src : Addr) (i : Nat) (m : Str → Option Value) (news : List (Addr × Obj)) : Prop :=
  ∃ x y tx ty n P S Ed nP nS nE pvs svs evs ps zs rows,
    (m ("source" : Str) = some (.ref src) ∧ m ("parts" : Str) = some (.ref P) ∧ m ("sizes" : Str) = some (.ref S) ∧ m ("edges" : Str) = some (.ref Ed)) ∧
    (0 ≤ x ∧ 0 ≤ y ∧ y < 2147483647) ∧ PtsIn rows pvs ps ∧ IntsAre svs zs ∧ ps.length = zs.length ∧ zs.length = i ∧ IntsAre evs (List.zipWith edgeP ps zs) ∧ (P ≠ src ∧ S ≠ src ∧ Ed ≠ src) ∧ (∀ q ∈ rows, q.1 ≠ src ∧ q.2.cls = .type "tuple") ∧
    news = (src, listOf #[.int x tx, .int y ty] n) :: (P, listOf pvs.toArray nP) :: (S, listOf svs.toArray nS) :: (Ed, listOf evs.toArray nE) :: rows
theorem off_cls {h₀ h : Heap} {L I : Addr} {it : Obj} {all : List (Addr × Obj)} (N : News h₀ L h all) (hI : (I, it) ∈ all) {p : Addr × Obj} (hp : p ∈ all) (hc : p.2.cls ≠ it.cls) : p.1 ≠ I := by
  intro e
  have h1 := (N _ hp).1
  have h2 := (N _ hI).1
  rw [e] at h1
  exact hc (congrArg Obj.cls (Option.some.inj (h1.symm.trans h2)))
theorem zipWith_snoc (f : Pt → Int → Int) : ∀ (ps : List Pt) (zs : List Int) (p : Pt) (z : Int), ps.length = zs.length → List.zipWith f (ps ++ [p]) (zs ++ [z]) = List.zipWith f ps zs ++ [f p z]
  | [], [], _, _, _ => rfl
  | _ :: ps, _ :: zs, p, z, h => by
    have h' : ps.length = zs.length := by simpa using h
    rw [List.cons_append, List.cons_append, List.zipWith_cons_cons, List.zipWith_cons_cons, zipWith_snoc f ps zs p z h', List.cons_append]
section
variable {prog : Program} {w : World} {A : Around} {E : Value → Shared → Prop} {s : Shared} {env : Env} {h₀ : Heap} {x : Str} {body : List Stmt} {Q : Flow → Shared → Prop}
theorem law_rest {src I : Addr} {a : Int} {n : Nat} (hn : n ≤ 8) (hsI : src ≠ I)
    (turn : ∀ (it : Obj) (m : Str → Option Value) (u v : Int) tu tv nn P S Ed nP nS nE pvs svs evs rows c h tk, it.cls = .type "range_iterator" →
      (m ("source" : Str) = some (.ref src) ∧ m ("parts" : Str) = some (.ref P) ∧ m ("sizes" : Str) = some (.ref S) ∧ m ("edges" : Str) = some (.ref Ed)) → (0 ≤ u ∧ 0 ≤ v ∧ v < 2147483647) →
      pvs.length ≤ 10 → svs.length ≤ 10 → evs.length ≤ 10 → P ≠ src → S ≠ src → Ed ≠ src → I ≠ src → (∀ q ∈ rows, q.1 ≠ src) → Fr h₀ env.locals h (fun y => if y = x then some c else m y) →
      News h₀ env.locals h ((I, it) :: (src, listOf #[.int u tu, .int v tv] nn) :: (P, listOf pvs.toArray nP) :: (S, listOf svs.toArray nS) :: (Ed, listOf evs.toArray nE) :: rows) →
      wpAny (model prog w) A (execs body env) (LTurn h₀ env.locals src I it { s with heap := h, toks := tk } rows pvs svs evs) E { s with heap := h, toks := tk })
    (done : ∀ (m : Str → Option Value) P S Ed nP nS nE pvs svs evs ps zs rows h tk, (m ("source" : Str) = some (.ref src) ∧ m ("parts" : Str) = some (.ref P) ∧ m ("sizes" : Str) = some (.ref S) ∧ m ("edges" : Str) = some (.ref Ed)) →
      PtsIn rows pvs ps → IntsAre svs zs → ps.length = zs.length → zs.length ≤ 10 → IntsAre evs (List.zipWith edgeP ps zs) → Fr h₀ env.locals h m → News h₀ env.locals h ((P, listOf pvs.toArray nP) :: (S, listOf svs.toArray nS) :: (Ed, listOf evs.toArray nE) :: rows) → Q .next { s with heap := h, toks := tk }) :
    ∀ (k i : Nat) (m : Str → Option Value) (news : List (Addr × Obj)), k + i = n → LInv src i m news → RangeRest prog w A E h₀ env x body Q s I a n k i m news := by
  intro k
  induction k with
  | zero =>
    rintro i m news hk ⟨u, v, tu, tv, nn, P, S, Ed, nP, nS, nE, pvs, svs, evs, ps, zs, rows, hm, hb, hp, hz, hl, hi, he, ho, hr, rfl⟩
    exact RangeRest.zero fun h tk F N => done m P S Ed nP nS nE pvs svs evs ps zs rows h tk hm hp hz hl (by omega) he F fun q hq => N q (.tail _ hq)
  | succ k ih =>
    rintro i m news hk ⟨u, v, tu, tv, nn, P, S, Ed, nP, nS, nE, pvs, svs, evs, ps, zs, rows, hm, hb, hp, hz, hl, hi, he, ho, hr, rfl⟩
    have l1 := hp.length
    have l2 := IntsAre.length hz
    have l3 := IntsAre.length he
    rw [List.length_zipWith] at l3
    refine RangeRest.succ fun t h tk F N => wpAny_mono (turn _ m u v tu tv nn P S Ed nP nS nE pvs svs evs rows _ h tk rfl hm hb (by omega) (by omega) (by omega) ho.1 ho.2.1 ho.2.2 (Ne.symm hsI) (fun q hq => (hr q hq).1) F N) (fun f s₃ z => ?_) fun _ _ e => e
    obtain ⟨rfl, h', tk', m', u', v', tu', tv', nn', P', S', Ed', nP', nS', nE', pv, p, size, ts, te, nrows, rfl, hm', hb', hpt, ho', hr', F', N'⟩ := z
    have hcl : ∀ q ∈ nrows ++ rows, q.1 ≠ src ∧ q.2.cls = .type "tuple" := fun q hq => (List.mem_append.mp hq).elim (hr' q) (hr q)
    refine ⟨h', tk', m', _, rfl, F', N', ?_, ih (i + 1) m' _ (by omega) ⟨u', v', tu', tv', nn', P', S', Ed', nP', nS', nE', pvs ++ [pv], svs ++ [Value.int size ts], evs ++ [Value.int (edgeP p size) te], ps ++ [p], zs ++ [size], nrows ++ rows, hm', hb',
      (hp.mono fun q hq => List.mem_append.mpr (.inr hq)).snoc (hpt.mono fun q hq => List.mem_append.mpr (.inl hq)), IntsAre.append hz (.cons _ _ .nil), by rw [List.length_append, List.length_append, hl]; rfl, by rw [List.length_append, List.length_singleton]; omega,
      by rw [zipWith_snoc edgeP ps zs p size hl]; exact IntsAre.append he (.cons _ _ .nil), ho', hcl, rfl⟩⟩
    intro q hq
    refine off_cls N' (.head _) (.tail _ hq) ?_
    have tne : Value.type "list" ≠ Value.type "range_iterator" := by decide
    have tne2 : Value.type "tuple" ≠ Value.type "range_iterator" := by decide
    rcases List.mem_cons.mp hq with rfl | hq
    · exact tne
    rcases List.mem_cons.mp hq with rfl | hq
    · exact tne
    rcases List.mem_cons.mp hq with rfl | hq
    · exact tne
    rcases List.mem_cons.mp hq with rfl | hq
    · exact tne
    · rw [(hcl q hq).2]; exact tne2
theorem law_loop {r src P S Ed : Addr} {b u v : Int} {t₀ u₀ v₀ tu tv : Tok} {nn nP nS nE : Nat} {m₀ : Str → Option Value}
    (hh : A.handled = none) (hr : IsRange s.heap r 0 b 1 t₀ u₀ v₀) (hb0 : 0 ≤ b) (hb : b ≤ 8) (F : Fr h₀ env.locals s.heap m₀)
    (N : News h₀ env.locals s.heap ((src, listOf #[.int u tu, .int v tv] nn) :: (P, listOf [].toArray nP) :: (S, listOf [].toArray nS) :: (Ed, listOf [].toArray nE) :: []))
    (hm : m₀ ("source" : Str) = some (.ref src) ∧ m₀ ("parts" : Str) = some (.ref P) ∧ m₀ ("sizes" : Str) = some (.ref S) ∧ m₀ ("edges" : Str) = some (.ref Ed)) (hu : 0 ≤ u ∧ 0 ≤ v ∧ v < 2147483647) (ho : P ≠ src ∧ S ≠ src ∧ Ed ≠ src)
    (turn : ∀ (I : Addr) (it : Obj) (m : Str → Option Value) (u v : Int) tu tv nn P S Ed nP nS nE pvs svs evs rows c h tk, it.cls = .type "range_iterator" →
      (m ("source" : Str) = some (.ref src) ∧ m ("parts" : Str) = some (.ref P) ∧ m ("sizes" : Str) = some (.ref S) ∧ m ("edges" : Str) = some (.ref Ed)) → (0 ≤ u ∧ 0 ≤ v ∧ v < 2147483647) →
      pvs.length ≤ 10 → svs.length ≤ 10 → evs.length ≤ 10 → P ≠ src → S ≠ src → Ed ≠ src → I ≠ src → (∀ q ∈ rows, q.1 ≠ src) → Fr h₀ env.locals h (fun y => if y = x then some c else m y) →
      News h₀ env.locals h ((I, it) :: (src, listOf #[.int u tu, .int v tv] nn) :: (P, listOf pvs.toArray nP) :: (S, listOf svs.toArray nS) :: (Ed, listOf evs.toArray nE) :: rows) →
      wpAny (model prog w) A (execs body env) (LTurn h₀ env.locals src I it { s with heap := h, toks := tk } rows pvs svs evs) E { s with heap := h, toks := tk })
    (done : ∀ (m : Str → Option Value) P S Ed nP nS nE pvs svs evs ps zs rows h tk, (m ("source" : Str) = some (.ref src) ∧ m ("parts" : Str) = some (.ref P) ∧ m ("sizes" : Str) = some (.ref S) ∧ m ("edges" : Str) = some (.ref Ed)) →
      PtsIn rows pvs ps → IntsAre svs zs → ps.length = zs.length → zs.length ≤ 10 → IntsAre evs (List.zipWith edgeP ps zs) → Fr h₀ env.locals h m → News h₀ env.locals h ((P, listOf pvs.toArray nP) :: (S, listOf svs.toArray nS) :: (Ed, listOf evs.toArray nE) :: rows) → Q .next { s with heap := h, toks := tk }) :
    wpAny (model prog w) A (pyIter (.ref r)) (fun it s₂ => LoopAtV prog w A h₀ env x body Q E it s₂) E s := by
  obtain ⟨n, rfl⟩ : ∃ n : Nat, b = (n : Int) := ⟨b.toNat, by omega⟩
  refine iter_rangeUnr (n := n) hh hr (by first | exact small_one (by omega) (by omega) (by omega) (by omega) | decide) ?_ F N fun I hI => ?_
  · unfold Builtin.Range.rangeSize
    rw [if_pos (by decide)]
    split
    · rw [Int.ediv_one]; omega
    · omega
  · have hsI : src ≠ I := Nat.ne_of_lt (hI _ (.head _))
    exact law_rest (by omega) hsI (turn I) done n 0 m₀ _ (by omega) ⟨u, v, tu, tv, nn, P, S, Ed, nP, nS, nE, [], [], [], [], [], [], hm, hu, .nil, .nil, rfl, rfl, .nil, ho, (fun _ hq => nomatch hq), rfl⟩
end
theorem news_four {h₀ h : Heap} {L : Addr} {news : List (Addr × Obj)} {p1 p2 p3 p4 : Addr × Obj} (N : News h₀ L h news) (h1 : p1 ∈ news) (h2 : p2 ∈ news) (h3 : p3 ∈ news) (h4 : p4 ∈ news) : News h₀ L h (p1 :: p2 :: p3 :: p4 :: []) := by
  intro p hp
  simp only [List.mem_cons, List.not_mem_nil, or_false] at hp
  rcases hp with rfl | rfl | rfl | rfl
  · exact N _ h1
  · exact N _ h2
  · exact N _ h3
  · exact N _ h4
theorem canon4 {m : Str → Option Value} {a b c d : Str} {A B C D : Value} (hm : m a = some A ∧ m b = some B ∧ m c = some C ∧ m d = some D) : m = fun y => if y = a then some A else if y = b then some B else if y = c then some C else if y = d then some D else m y := by
  funext y
  by_cases h1 : y = a
  · rw [if_pos h1, h1, hm.1]
  · rw [if_neg h1]
    by_cases h2 : y = b
    · rw [if_pos h2, h2, hm.2.1]
    · rw [if_neg h2]
      by_cases h3 : y = c
      · rw [if_pos h3, h3, hm.2.2.1]
      · rw [if_neg h3]
        by_cases h4 : y = d
        · rw [if_pos h4, h4, hm.2.2.2]
        · rw [if_neg h4]
theorem row_written {a b c : Int} (h : rowOf 2 2 3 4 = some (a, b, c)) : False := by
  rw [show rowOf 2 2 3 4 = none from by decide] at h
  cases h
theorem ne_same {prog : Program} {w : World} {A : Around} {E : Value → Shared → Prop} {s : Shared} {x : Int} {t u : Tok} {Q : Value → Shared → Prop} (h : Q (.bool false) s) : wpAny (model prog w) A (compareOp .NotEq (.int x t) (.int x u)) Q E s := by
  refine ne_int ?_
  simpa using h
theorem all_tail {α : Type} {rows l : List α} {x : α} (h : ∀ q ∈ rows, q ∈ l) : ∀ q ∈ rows, q ∈ x :: l := fun q hq => .tail _ (h q hq)
theorem snoc_K {prog : Program} {w : World} {A : Around} {E : Value → Shared → Prop} {s : Shared} {h₀ : Heap} {L : Addr} {m : Str → Option Value} {news : List (Addr × Obj)} {l b : Addr} {vs : List Value} {v : Value} {n nb : Nat} {Q : Value → Shared → Prop}
    (F : Fr h₀ L s.heap m) (N : News h₀ L s.heap ((b, listOf [v].toArray nb) :: news)) (hl : (l, listOf vs.toArray n) ∈ news) (hle : vs.length ≤ 10)
    (h : ∀ D h', (∀ p ∈ news, p.1 < D) → Fr h₀ L h' m → News h₀ L h' ((D, listOf (vs ++ [v]).toArray 0) :: news) → Q (.ref D) { s with heap := h' }) :
    wpAny (model prog w) A (binaryOp .Add (.ref l) (.ref b)) Q E s := by
  refine add_lists F N ⟨_, (N _ (.tail _ hl)).1, rfl, n, rfl⟩ ⟨_, (N _ (.head _)).1, rfl, nb, rfl⟩ (fun h' F' N' => h _ h' (fun p hp => Heap.lt_size (N p (.tail _ hp)).1) F' ?_) (by rw [sizeLine_eq]; simp only [List.length_cons, List.length_nil]; omega)
  intro p hp
  rcases List.mem_cons.mp hp with rfl | hp
  · exact N' _ (.head _)
  · exact N' _ (.tail _ (.tail _ hp))
section
variable {h₀ h' : Heap} {L src I : Addr} {it : Obj} {s₁ : Shared} {rows news : List (Addr × Obj)} {pvs svs evs : List Value} {tk : Nat} {m' : Str → Option Value} {x y : Int} {tx ty : Tok} {n : Nat} {P S Ed : Addr} {nP nS nE : Nat} {size : Int} {ts te : Tok}
theorem lturn_of {v : Value} {p : Pt} {nrows : List (Addr × Obj)} (F : Fr h₀ L h' m') (N : News h₀ L h' news)
    (n1 : m' ("source" : Str) = some (.ref src)) (n2 : m' ("parts" : Str) = some (.ref P)) (n3 : m' ("sizes" : Str) = some (.ref S)) (n4 : m' ("edges" : Str) = some (.ref Ed))
    (mI : (I, it) ∈ news) (ms : (src, listOf #[.int x tx, .int y ty] n) ∈ news) (mP : (P, listOf (pvs ++ [v]).toArray nP) ∈ news) (mS : (S, listOf (svs ++ [Value.int size ts]).toArray nS) ∈ news)
    (mE : (Ed, listOf (evs ++ [Value.int (edgeP p size) te]).toArray nE) ∈ news) (mr : ∀ q ∈ rows, q ∈ news) (mn : ∀ q ∈ nrows, q ∈ news)
    (hx : 0 ≤ x) (hy : 0 ≤ y) (hy2 : y < 2147483647) (hp : PtIn nrows v p) (oP : src < P) (oS : src < S) (oE : src < Ed) (hr : ∀ q ∈ nrows, q.1 ≠ src ∧ q.2.cls = .type "tuple") :
    LTurn h₀ L src I it s₁ rows pvs svs evs .next { s₁ with heap := h', toks := tk } := by
  refine ⟨rfl, h', tk, m', x, y, tx, ty, n, P, S, Ed, nP, nS, nE, v, p, size, ts, te, nrows, rfl, ⟨n1, n2, n3, n4⟩, ⟨hx, hy, hy2⟩, hp, ⟨Nat.ne_of_gt oP, Nat.ne_of_gt oS, Nat.ne_of_gt oE⟩, hr, F, fun q hq => N q ?_⟩
  rcases List.mem_cons.mp hq with rfl | hq
  · exact mI
  rcases List.mem_cons.mp hq with rfl | hq
  · exact ms
  rcases List.mem_cons.mp hq with rfl | hq
  · exact mP
  rcases List.mem_cons.mp hq with rfl | hq
  · exact mS
  rcases List.mem_cons.mp hq with rfl | hq
  · exact mE
  exact (List.mem_append.mp hq).elim (mn q) (mr q)
theorem lturn_all (F : Fr h₀ L h' m') (N : News h₀ L h' news)
    (n1 : m' ("source" : Str) = some (.ref src)) (n2 : m' ("parts" : Str) = some (.ref P)) (n3 : m' ("sizes" : Str) = some (.ref S)) (n4 : m' ("edges" : Str) = some (.ref Ed))
    (mI : (I, it) ∈ news) (ms : (src, listOf #[.int x tx, .int y ty] n) ∈ news) (mP : (P, listOf (pvs ++ [Value.none]).toArray nP) ∈ news) (mS : (S, listOf (svs ++ [Value.int size ts]).toArray nS) ∈ news)
    (mE : (Ed, listOf (evs ++ [Value.int 1 te]).toArray nE) ∈ news) (mr : ∀ q ∈ rows, q ∈ news)
    (hx : 0 ≤ x) (hy : 0 ≤ y) (hy2 : y < 2147483647) (oP : src < P) (oS : src < S) (oE : src < Ed) :
    LTurn h₀ L src I it s₁ rows pvs svs evs .next { s₁ with heap := h', toks := tk } :=
  lturn_of (p := .all) (nrows := []) F N n1 n2 n3 n4 mI ms mP mS mE mr (fun _ hq => nomatch hq) hx hy hy2 .all oP oS oE (fun _ hq => nomatch hq)
theorem lturn_num {v : Int} {tv : Tok} (F : Fr h₀ L h' m') (N : News h₀ L h' news)
    (n1 : m' ("source" : Str) = some (.ref src)) (n2 : m' ("parts" : Str) = some (.ref P)) (n3 : m' ("sizes" : Str) = some (.ref S)) (n4 : m' ("edges" : Str) = some (.ref Ed))
    (mI : (I, it) ∈ news) (ms : (src, listOf #[.int x tx, .int y ty] n) ∈ news) (mP : (P, listOf (pvs ++ [Value.int v tv]).toArray nP) ∈ news) (mS : (S, listOf (svs ++ [Value.int size ts]).toArray nS) ∈ news)
    (mE : (Ed, listOf (evs ++ [Value.int v te]).toArray nE) ∈ news) (mr : ∀ q ∈ rows, q ∈ news)
    (hx : 0 ≤ x) (hy : 0 ≤ y) (hy2 : y < 2147483647) (oP : src < P) (oS : src < S) (oE : src < Ed) :
    LTurn h₀ L src I it s₁ rows pvs svs evs .next { s₁ with heap := h', toks := tk } :=
  lturn_of (p := .num v) (nrows := []) F N n1 n2 n3 n4 mI ms mP mS mE mr (fun _ hq => nomatch hq) hx hy hy2 (.num v tv) oP oS oE (fun _ hq => nomatch hq)
theorem lturn_row {pa : Addr} {np : Nat} {f k c : Int} {tf tq tc : Tok} (F : Fr h₀ L h' m') (N : News h₀ L h' news)
    (n1 : m' ("source" : Str) = some (.ref src)) (n2 : m' ("parts" : Str) = some (.ref P)) (n3 : m' ("sizes" : Str) = some (.ref S)) (n4 : m' ("edges" : Str) = some (.ref Ed))
    (mI : (I, it) ∈ news) (ms : (src, listOf #[.int x tx, .int y ty] n) ∈ news) (mP : (P, listOf (pvs ++ [Value.ref pa]).toArray nP) ∈ news) (mS : (S, listOf (svs ++ [Value.int size ts]).toArray nS) ∈ news)
    (mE : (Ed, listOf (evs ++ [Value.int (edgeOf f k c size) te]).toArray nE) ∈ news) (mr : ∀ q ∈ rows, q ∈ news)
    (hx : 0 ≤ x) (hy : 0 ≤ y) (hy2 : y < 2147483647) (oP : src < P) (oS : src < S) (oE : src < Ed) (mp : (pa, tupOf [.int f tf, .int k tq, .int c tc] np) ∈ news) (hc : -3 ≤ c) (hc2 : c ≤ 9) (hne : Nx pa src) :
    LTurn h₀ L src I it s₁ rows pvs svs evs .next { s₁ with heap := h', toks := tk } :=
  lturn_of (p := .row f k c) (nrows := [(pa, tupOf [.int f tf, .int k tq, .int c tc] np)]) F N n1 n2 n3 n4 mI ms mP mS mE mr (fun q hq => by obtain rfl := List.mem_singleton.mp hq; exact mp) hx hy hy2 (.row hc hc2 (.head _)) oP oS oE
    (fun q hq => by obtain rfl := List.mem_singleton.mp hq; exact ⟨hne, rfl⟩)
end

local macro_rules | `(tactic| walk_at "compareOp NotEq int int") => `(tactic| (k_here; with_reducible refine ne_same ?_))
local macro_rules | `(tactic| walk_at "binaryOp Add ref ref") => `(tactic| (k_here; refine' snoc_K ?F ?N ?l ?e ?_; (case F => k_asm); (case N => k_asm); (case l => k_mem); (case e => with_reducible assumption); intro D' h' l1 F' N'; (try k_lt l1); (try k_sweep)))

theorem off_law : True := by
  w_top off
  exact trivial
section
local macro_rules | `(tactic| walk_at "pyIter ref") => `(tactic| (k_here; refine Stop.out ?_))
set_option maxRecDepth 100000 in
set_option maxHeartbeats 8000000 in
theorem the_law : PySem.Challenge.rw_xm0681_01.Holds := hd (by
  k_go0
  all_goals (try k_fold)
  k_steps
  any_goals (exfalso; exact row_written (by assumption))
  unfold Stop
  (rename Fr _ _ _ _ => lF)
  (rename News _ _ _ _ => nN)
  (rename IsRange _ _ _ _ _ _ _ _ => lR)
  with_unfolding_all refine' law_loop (by rfl) lR ?b0 ?b1 lF (news_four nN ?h1 ?h2 ?h3 ?h4) ⟨rfl, rfl, rfl, rfl⟩ ?bu ?off ?turn ?done
  case h1 => k_mem
  case h2 => k_mem
  case h3 => k_mem
  case h4 => k_mem
  case b0 => omega
  case b1 => omega
  case bu => exact ⟨by assumption, by assumption, by assumption⟩
  case off => exact ⟨by k_ne, by k_ne, by k_ne⟩
  case done =>
    intro m P S Ed nP nS nE pvs svs evs ps zs rows h tk hm hp hz hl hl2 he F N
    rw [canon4 (a := ("source" : Str)) (b := ("parts" : Str)) (c := ("sizes" : Str)) (d := ("edges" : Str)) hm] at F
    dsimp only
    (try k_fold)
    k_steps
  case turn =>
    intro I it m u v tu tv nn P S Ed nP nS nE pvs svs evs rows c h tk hit hm hb l1 l2 l3 o1 o2 o3 o4 hr F N
    rw [canon4 (a := ("source" : Str)) (b := ("parts" : Str)) (c := ("sizes" : Str)) (d := ("edges" : Str)) hm] at F
    obtain ⟨hb1, hb2, hb3⟩ := hb
    replace o1 := Nx.of o1
    replace o2 := Nx.of o2
    replace o3 := Nx.of o3
    replace o4 := Nx.of o4
    clear hm
    (try k_fold)
    k_steps
    all_goals
      first
      | refine' lturn_all ?F ?N ?n1 ?n2 ?n3 ?n4 ?mI ?ms ?mP ?mS ?mE ?mr ?hx ?hy ?hy2 ?oP ?oS ?oE
        (case F => k_asm)
        (case N => k_asm)
        (case n1 => rfl)
        (case n2 => rfl)
        (case n3 => rfl)
        (case n4 => rfl)
        (case mI => k_mem)
        (case ms => k_mem)
        (case mP => k_mem)
        (case mS => k_mem)
        (case mE => k_mem)
        (case mr => repeat (first | exact fun _ h => h | refine all_tail ?_))
        (case hx => assumption)
        (case hy => assumption)
        (case hy2 => assumption)
        (case oP => show (_ : Nat) < _; omega)
        (case oS => show (_ : Nat) < _; omega)
        (case oE => show (_ : Nat) < _; omega)
      | refine' lturn_num ?F ?N ?n1 ?n2 ?n3 ?n4 ?mI ?ms ?mP ?mS ?mE ?mr ?hx ?hy ?hy2 ?oP ?oS ?oE
        (case F => k_asm)
        (case N => k_asm)
        (case n1 => rfl)
        (case n2 => rfl)
        (case n3 => rfl)
        (case n4 => rfl)
        (case mI => k_mem)
        (case ms => k_mem)
        (case mP => k_mem)
        (case mS => k_mem)
        (case mE => k_mem)
        (case mr => repeat (first | exact fun _ h => h | refine all_tail ?_))
        (case hx => assumption)
        (case hy => assumption)
        (case hy2 => assumption)
        (case oP => show (_ : Nat) < _; omega)
        (case oS => show (_ : Nat) < _; omega)
        (case oE => show (_ : Nat) < _; omega)
      | refine' lturn_row ?F ?N ?n1 ?n2 ?n3 ?n4 ?mI ?ms ?mP ?mS ?mE ?mr ?hx ?hy ?hy2 ?oP ?oS ?oE ?mp ?hc ?hc2 ?hne
        (case F => k_asm)
        (case N => k_asm)
        (case n1 => rfl)
        (case n2 => rfl)
        (case n3 => rfl)
        (case n4 => rfl)
        (case mI => k_mem)
        (case ms => k_mem)
        (case mP => k_mem)
        (case mS => k_mem)
        (case mE => k_mem)
        (case mr => repeat (first | exact fun _ h => h | refine all_tail ?_))
        (case hx => assumption)
        (case hy => assumption)
        (case hy2 => assumption)
        (case oP => show (_ : Nat) < _; omega)
        (case oS => show (_ : Nat) < _; omega)
        (case oE => show (_ : Nat) < _; omega)
        (case mp => k_mem)
        (case hc => assumption)
        (case hc2 => assumption)
        (case hne => assumption)
      | fail "the turn is left open")
end


end Mine
theorem PySem.Challenge.cw_xm0681_01_holds : PySem.Challenge.rw_xm0681_01.Holds :=
  Mine.the_law
