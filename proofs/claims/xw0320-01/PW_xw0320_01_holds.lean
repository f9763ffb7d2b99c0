import PyProof.Rows.All
import Wide.All
import OpenK.AllK
import Wide.FinOn
import Lean
import PySem.Challenge.RW_xw0320_01
open PySem PySem.W PyProof.Rows
set_option Elab.async false
set_option maxRecDepth 100000
namespace Mine
/-- the place of a bit, as the program writes it, is below 8 -/
theorem place_lt (k : Int) : (Int.fmod k 8).toNat < 8 := by
  have := Int.fmod_lt_of_pos k (b := 8) (by decide)
  omega
/-- a xor with one bit below the eighth stays below 256 -/
theorem xor_bound {a : Int} (h0 : 0 ≤ a) (h1 : a < 256) : ∀ p : Nat, p < 8 → 0 ≤ Builtin.bitXor a (1 * 2 ^ p) ∧ Builtin.bitXor a (1 * 2 ^ p) < 256 := by
  intro p hp
  rw [Int.one_mul, bitXor_and, kbt_bit]
  have hq : p = 0 ∨ p = 1 ∨ p = 2 ∨ p = 3 ∨ p = 4 ∨ p = 5 ∨ p = 6 ∨ p = 7 := by omega
  rcases hq with rfl | rfl | rfl | rfl | rfl | rfl | rfl | rfl <;> (simp only [Int.reducePow]; omega)
theorem xor_in {a k : Int} (h0 : 0 ≤ a) (h1 : a < 256) : KBa.In [Builtin.bitXor a (1 * 2 ^ (Int.fmod k 8).toNat)] := by
  intro n hn
  rw [List.mem_singleton.1 hn]
  exact xor_bound h0 h1 _ (place_lt k)
end Mine
namespace Mine
/-- a call that is walked with its ways joined -/
inductive Mark : Prop
  | mk : Mark
/-- the source: a list of two ints -/
abbrev two (a : Int) (ta : Tok) (c : Int) (tc : Tok) (n : Nat) : Obj := W.listOf #[.int a ta, .int c tc] n
/-- what holds of the source between the draws -/
def Fine (a c : Int) : Prop := 0 ≤ a ∧ 0 ≤ c ∧ c < 2147483647
theorem Fine.a0 {a c : Int} (h : Fine a c) : 0 ≤ a := h.1
theorem Fine.c0 {a c : Int} (h : Fine a c) : 0 ≤ c := h.2.1
theorem Fine.c1 {a c : Int} (h : Fine a c) : c < 2147483647 := h.2.2
theorem mod_in (x : Int) {n : Int} (h : 0 < n) : 0 ≤ Int.fmod x n ∧ Int.fmod x n < n :=
  ⟨Int.fmod_nonneg_of_pos x h, Int.fmod_lt_of_pos x h⟩
theorem pool_fine {e : Int} (he : 0 ≤ e) (y : Int) (p : Prop) [Decidable p] : Fine (e * (if p then 1 else 0)) (Int.fmod y 2147483647) := by
  have h := mod_in y (n := 2147483647) (by decide)
  refine ⟨?_, h.1, h.2⟩
  split <;> omega
theorem fdiv_ge {a b : Int} (ha : 0 ≤ a) (hb : 0 < b) : 0 ≤ Int.fdiv a b := by
  rw [Int.fdiv_eq_ediv_of_nonneg a (Int.le_of_lt hb)]
  exact Int.ediv_nonneg ha (Int.le_of_lt hb)
theorem take_fine1 {a c top : Int} (h : Fine a c) (ht : 0 < top) : Fine (Int.fdiv a top) c := ⟨fdiv_ge h.1 ht, h.2⟩
theorem take_fine2 {a c : Int} (x : Int) (h : Fine a c) : Fine a (Int.fmod x 2147483647) := by
  have h2 := mod_in x (n := 2147483647) (by decide)
  exact ⟨h.1, h2.1, h2.2⟩

theorem len_lo {ks : List Int} {x : Int} (h : ks.length = x.toNat) (hx : 1 ≤ x) : 1 ≤ ks.length := by omega
theorem len_hi {ks : List Int} {x : Int} (h : ks.length = x.toNat) (hx : x ≤ 40) : ks.length ≤ 40 := by omega
def PoolPost (h₀ : Heap) (L : Addr) (m : Str → Option Value) (news : List (Addr × Obj)) (s : Shared) (v : Value) (s' : Shared) : Prop :=
  ∃ (l : Addr) (a : Int) (ta : Tok) (c : Int) (tc : Tok) (n : Nat) (h : Heap) (tk : Nat), v = .ref l ∧ s' = { s with heap := h, toks := tk } ∧ (∀ p ∈ news, p.1 < l) ∧ Fine a c ∧
    Fr h₀ L h m ∧ News h₀ L h ((l, two a ta c tc n) :: news)
def TakePost (h₀ : Heap) (L : Addr) (m : Str → Option Value) (pre post : List (Addr × Obj)) (l : Addr) (top : Int) (s : Shared) (v : Value) (s' : Shared) : Prop :=
  ∃ (d : Int) (t : Tok) (a : Int) (ta : Tok) (c : Int) (tc : Tok) (n : Nat) (h : Heap) (tk : Nat), v = .int d t ∧ s' = { s with heap := h, toks := tk } ∧ (0 ≤ d ∧ d < top) ∧ Fine a c ∧
    Fr h₀ L h m ∧ News h₀ L h (pre ++ (l, two a ta c tc n) :: post)
def IfPost (h₀ : Heap) (L : Addr) (m : Str → Option Value) (news : List (Addr × Obj)) (lo hi : Int) (s : Shared) (v : Value) (s' : Shared) : Prop :=
  ∃ (d : Int) (t : Tok) (h : Heap) (tk : Nat), v = .int d t ∧ s' = { s with heap := h, toks := tk } ∧ (lo ≤ d ∧ d ≤ hi) ∧ Fr h₀ L h m ∧ News h₀ L h news
def DrawEl (l : Addr) (post : List (Addr × Obj)) (y : Value) (news' : List (Addr × Obj)) : Prop :=
  ∃ (d : Int) (t : Tok) (a : Int) (ta : Tok) (c : Int) (tc : Tok) (n : Nat), y = .int d t ∧ (0 ≤ d ∧ d < 256) ∧ Fine a c ∧ news' = (l, two a ta c tc n) :: post
section
variable {M : Model} {A : Around} {E : Value → Shared → Prop} {Q : Value → Shared → Prop} {s : Shared} {h₀ : Heap} {L : Addr} {m : Str → Option Value} {news : List (Addr × Obj)} {cm : Sem Value}
theorem pool_join (_F : Fr h₀ L s.heap m) (_N : News h₀ L s.heap news) (hc : Mark → wpAny M A cm (PoolPost h₀ L m news s) E s)
    (hk : ∀ (l : Addr) (a : Int) (ta : Tok) (c : Int) (tc : Tok) (n : Nat) (h : Heap) (tk : Nat), (∀ p ∈ news, p.1 < l) → Fine a c → Fr h₀ L h m → News h₀ L h ((l, two a ta c tc n) :: news) → Q (.ref l) { s with heap := h, toks := tk }) :
    wpAny M A cm Q E s := by
  refine wpAny_mono (hc Mark.mk) (fun v s₂ hq => ?_) fun _ _ h => h
  obtain ⟨l, a, ta, c, tc, n, h, tk, hv, hs, hl, h1, F, N⟩ := hq
  subst hv
  subst hs
  exact hk l a ta c tc n h tk hl h1 F N
theorem pool_end {l : Addr} {e y : Int} {p : Prop} {_ : Decidable p} {ta tc : Tok} {n : Nat} {h : Heap} {tk : Nat} (he : 0 ≤ e) (hl : ∀ p ∈ news, p.1 < l) (F : Fr h₀ L h m)
    (N : News h₀ L h ((l, two (e * (if p then 1 else 0)) ta (Int.fmod y 2147483647) tc n) :: news)) :
    PoolPost h₀ L m news s (.ref l) { s with heap := h, toks := tk } := ⟨l, _, ta, _, tc, n, h, tk, rfl, rfl, hl, pool_fine he y p, F, N⟩
theorem take_join {pre post : List (Addr × Obj)} {f l : Addr} {top : Int} {tt : Tok} {a : Int} {ta : Tok} {c : Int} {tc : Tok} {n : Nat}
    (_F : Fr h₀ L s.heap m) (_N : News h₀ L s.heap (pre ++ (l, two a ta c tc n) :: post)) (hf : Fine a c) (ht : 0 < top)
    (hc : Mark → 0 < top → wpAny M A (call (.ref f) [.ref l, .int top tt]) (TakePost h₀ L m pre post l top s) E s)
    (hk : ∀ (d : Int) (t : Tok) (a : Int) (ta : Tok) (c : Int) (tc : Tok) (n : Nat) (h : Heap) (tk : Nat), 0 ≤ d → d < top → Fine a c → Fr h₀ L h m → News h₀ L h (pre ++ (l, two a ta c tc n) :: post) → Q (.int d t) { s with heap := h, toks := tk }) :
    wpAny M A (call (.ref f) [.ref l, .int top tt]) Q E s := by
  refine wpAny_mono (hc Mark.mk ht) (fun v s₂ hq => ?_) fun _ _ h => h
  obtain ⟨d, t, a, ta, c, tc, n, h, tk, hv, hs, hd, h1, F, N⟩ := hq
  subst hv
  subst hs
  exact hk d t a ta c tc n h tk hd.1 hd.2 h1 F N
theorem take_join0 {post : List (Addr × Obj)} {f l : Addr} {top : Int} {tt : Tok} {a : Int} {ta : Tok} {c : Int} {tc : Tok} {n : Nat}
    (_F : Fr h₀ L s.heap m) (_N : News h₀ L s.heap ((l, two a ta c tc n) :: post)) (hf : Fine a c) (ht : 0 < top)
    (hc : Mark → 0 < top → wpAny M A (call (.ref f) [.ref l, .int top tt]) (TakePost h₀ L m [] post l top s) E s)
    (hk : ∀ (d : Int) (t : Tok) (a : Int) (ta : Tok) (c : Int) (tc : Tok) (n : Nat) (h : Heap) (tk : Nat), 0 ≤ d → d < top → Fine a c → Fr h₀ L h m → News h₀ L h ((l, two a ta c tc n) :: post) → Q (.int d t) { s with heap := h, toks := tk }) :
    wpAny M A (call (.ref f) [.ref l, .int top tt]) Q E s := take_join (pre := []) _F _N hf ht hc hk
theorem take_join1 {p1 : Addr × Obj} {post : List (Addr × Obj)} {f l : Addr} {top : Int} {tt : Tok} {a : Int} {ta : Tok} {c : Int} {tc : Tok} {n : Nat}
    (_F : Fr h₀ L s.heap m) (_N : News h₀ L s.heap (p1 :: (l, two a ta c tc n) :: post)) (hf : Fine a c) (ht : 0 < top)
    (hc : Mark → 0 < top → wpAny M A (call (.ref f) [.ref l, .int top tt]) (TakePost h₀ L m [p1] post l top s) E s)
    (hk : ∀ (d : Int) (t : Tok) (a : Int) (ta : Tok) (c : Int) (tc : Tok) (n : Nat) (h : Heap) (tk : Nat), 0 ≤ d → d < top → Fine a c → Fr h₀ L h m → News h₀ L h (p1 :: (l, two a ta c tc n) :: post) → Q (.int d t) { s with heap := h, toks := tk }) :
    wpAny M A (call (.ref f) [.ref l, .int top tt]) Q E s := take_join (pre := [p1]) _F _N hf ht hc hk
theorem take_join3 {p1 p2 p3 : Addr × Obj} {post : List (Addr × Obj)} {f l : Addr} {top : Int} {tt : Tok} {a : Int} {ta : Tok} {c : Int} {tc : Tok} {n : Nat}
    (_F : Fr h₀ L s.heap m) (_N : News h₀ L s.heap (p1 :: p2 :: p3 :: (l, two a ta c tc n) :: post)) (hf : Fine a c) (ht : 0 < top)
    (hc : Mark → 0 < top → wpAny M A (call (.ref f) [.ref l, .int top tt]) (TakePost h₀ L m [p1, p2, p3] post l top s) E s)
    (hk : ∀ (d : Int) (t : Tok) (a : Int) (ta : Tok) (c : Int) (tc : Tok) (n : Nat) (h : Heap) (tk : Nat), 0 ≤ d → d < top → Fine a c → Fr h₀ L h m → News h₀ L h (p1 :: p2 :: p3 :: (l, two a ta c tc n) :: post) → Q (.int d t) { s with heap := h, toks := tk }) :
    wpAny M A (call (.ref f) [.ref l, .int top tt]) Q E s := take_join (pre := [p1, p2, p3]) _F _N hf ht hc hk
theorem take_end1 {pre post : List (Addr × Obj)} {l : Addr} {top : Int} {a : Int} {x : Int} {t ta : Tok} {c : Int} {tc : Tok} {n : Nat} {h : Heap} {tk : Nat} (hf : Fine a c) (ht : 0 < top) (F : Fr h₀ L h m)
    (N : News h₀ L h (pre ++ (l, two (Int.fdiv a top) ta c tc n) :: post)) :
    TakePost h₀ L m pre post l top s (.int (Int.fmod x top) t) { s with heap := h, toks := tk } := ⟨_, t, _, ta, _, tc, n, h, tk, rfl, rfl, mod_in x ht, take_fine1 hf ht, F, N⟩
theorem take_end2 {pre post : List (Addr × Obj)} {l : Addr} {top : Int} {a : Int} {x y : Int} {t ta : Tok} {c : Int} {tc : Tok} {n : Nat} {h : Heap} {tk : Nat} (hf : Fine a c) (ht : 0 < top) (F : Fr h₀ L h m)
    (N : News h₀ L h (pre ++ (l, two a ta (Int.fmod y 2147483647) tc n) :: post)) :
    TakePost h₀ L m pre post l top s (.int (Int.fmod x top) t) { s with heap := h, toks := tk } := ⟨_, t, _, ta, _, tc, n, h, tk, rfl, rfl, mod_in x ht, take_fine2 y hf, F, N⟩
theorem if_join (lo hi : Int) (_F : Fr h₀ L s.heap m) (_N : News h₀ L s.heap news) (hc : Mark → wpAny M A cm (IfPost h₀ L m news lo hi s) E s)
    (hk : ∀ (d : Int) (t : Tok) (h : Heap) (tk : Nat), lo ≤ d → d ≤ hi → Fr h₀ L h m → News h₀ L h news → Q (.int d t) { s with heap := h, toks := tk }) : wpAny M A cm Q E s := by
  refine wpAny_mono (hc Mark.mk) (fun v s₂ hq => ?_) fun _ _ h => h
  obtain ⟨d, t, h, tk, hv, hs, hd, F, N⟩ := hq
  subst hv
  subst hs
  exact hk d t h tk hd.1 hd.2 F N
theorem if_end {lo hi d : Int} {t : Tok} {h : Heap} {tk : Nat} (h1 : lo ≤ d) (h2 : d ≤ hi) (F : Fr h₀ L h m) (N : News h₀ L h news) : IfPost h₀ L m news lo hi s (.int d t) { s with heap := h, toks := tk } :=
  ⟨d, t, h, tk, rfl, rfl, ⟨h1, h2⟩, F, N⟩
end
section
variable {prog : Program} {w : World} {A : Around} {h₀ : Heap} {L : Addr} {m : Str → Option Value} {env : Env} {elt : Expr} {x : Str} {scope : Scope} {cl : List (Str × Addr)} {s : Shared} {Fin : List Value → List (Addr × Obj) → Prop} {l : Addr} {post : List (Addr × Obj)}
theorem draw_rest {N : Nat} {a₀ : Int} {a : Int} {ta : Tok} {c : Int} {tc : Tok} {n : Nat} (hf : Fine a c)
    (turn : ∀ k t I oI C oC D m₂ ys h tk (E' : Value → Shared → Prop) (a : Int) (ta : Tok) (c : Int) (tc : Tok) (n : Nat), Fine a c → LCg.NsObj oC m₂ → m₂ x = some (.int k t) → Fr h₀ L h m →
      News h₀ L h ((I, oI) :: (C, oC) :: (D, LCg.lst ys) :: (l, two a ta c tc n) :: post) → LCg.Off3 I C D ((l, two a ta c tc n) :: post) → ((@Ne Nat I C) ∧ (@Ne Nat I D) ∧ (@Ne Nat C D)) →
      wpAny (model prog w) A (eval elt (compEnvC scope cl C env)) (LCg.CompEnd h₀ L m { s with heap := h, toks := tk } I oI C oC D (LCg.lst ys) (fun _ => True) (fun y news' => DrawEl l post y news')) E' { s with heap := h, toks := tk })
    (fin : ∀ (ys : List Value) (ks : List Int) (a : Int) (ta : Tok) (c : Int) (tc : Tok) (n : Nat), IntsAre ys ks → KBa.In ks → ks.length = N → Fine a c → Fin ys ((l, two a ta c tc n) :: post)) :
    LCg.CompRest prog w A h₀ L m env elt x scope cl s (fun _ => True) (fun i v => ∃ t, v = .int (a₀ + (i : Int)) t) Fin N 0 [] ((l, two a ta c tc n) :: post) := by
  have key : ∀ (j i : Nat) (ys : List Value) (ks : List Int) (a : Int) (ta : Tok) (c : Int) (tc : Tok) (n : Nat), i + j = N → ks.length = i → KBa.In ks → IntsAre ys ks → Fine a c →
      LCg.CompRest prog w A h₀ L m env elt x scope cl s (fun _ => True) (fun i v => ∃ t, v = .int (a₀ + (i : Int)) t) Fin j i ys ((l, two a ta c tc n) :: post) := by
    intro j
    induction j with
    | zero =>
      intro i ys ks a ta c tc n hi hk hin hy hf
      exact LCg.CompRest.zero (fin ys ks a ta c tc n hy hin (by omega) hf)
    | succ j ih =>
      intro i ys ks a ta c tc n hi hk hin hy hf
      refine LCg.CompRest.succ ?_
      intro v I oI C oC D m₂ h tk E' hv hC hx F N off ne
      obtain ⟨t, hv'⟩ := hv
      rw [hv'] at hx
      refine wpAny_mono (turn _ t I oI C oC D m₂ ys h tk E' a ta c tc n hf hC hx F N off ne) (fun y s₂ hq => ?_) fun _ _ e => e
      obtain ⟨h', tk', nw, e, F', N', off', hS, d, t', a', ta', c', tc', n', hy', hd, hf', hn⟩ := hq
      subst hn
      refine ⟨h', tk', _, e, F', N', off', hS, ?_⟩
      rw [hy']
      refine ih (i + 1) _ (ks ++ [d]) a' ta' c' tc' n' (by omega) (by simp [hk]) ?_ ?_ hf'
      · intro z hz
        rcases List.mem_append.1 hz with hz | hz
        · exact hin z hz
        · rw [List.mem_singleton.1 hz]; exact hd
      · exact IntsAre.append hy (.cons d t' .nil)
  exact key N 0 [] [] a ta c tc n (by omega) rfl (fun _ h => nomatch h) .nil hf
theorem draw_el0 {a d : Int} {t ta : Tok} {c : Int} {tc : Tok} {n : Nat} (h0 : 0 ≤ d) (h1 : d < 256) (hf : Fine a c) : DrawEl l post (.int d t) ((l, two a ta c tc n) :: post) :=
  ⟨_, t, _, ta, _, tc, n, rfl, ⟨h0, h1⟩, hf, rfl⟩
theorem draw_el1 {a x : Int} {t ta : Tok} {c : Int} {tc : Tok} {n : Nat} (hf : Fine a c) : DrawEl l post (.int (Int.fmod x 256) t) ((l, two (Int.fdiv a 256) ta c tc n) :: post) :=
  ⟨_, t, _, ta, _, tc, n, rfl, mod_in x (by decide), take_fine1 hf (by decide), rfl⟩
theorem draw_el2 {a x y : Int} {t ta : Tok} {c : Int} {tc : Tok} {n : Nat} (hf : Fine a c) : DrawEl l post (.int (Int.fmod x 256) t) ((l, two a ta (Int.fmod y 2147483647) tc n) :: post) :=
  ⟨_, t, _, ta, _, tc, n, rfl, mod_in x (by decide), take_fine2 y hf, rfl⟩
end
section
variable {prog : Program} {w : World} {A : Around} {E : Value → Shared → Prop} {s : Shared} {h₀ : Heap} {L : Addr} {news : List (Addr × Obj)}
theorem two_0 {value slice : PySem.Expr} {l : Addr} {a c : Int} {ta tc u : Tok} {n : Nat} {Q : Value → Shared → Prop} (N : News h₀ L s.heap news) (hm : (l, two a ta c tc n) ∈ news) (h : Q (.int a ta) s)
    (hs : subscripted slice false (.ref l) (.int 0 u) = operate [.ref l, .int 0 u] (getItem (.ref l) (.int 0 u)) := by with_unfolding_all rfl) :
    wpAny (model prog w) A (subscriptTail value slice (.ref l) (.int 0 u)) Q E s :=
  have hl : s.heap.IsList l [Value.int a ta, Value.int c tc].toArray := News.isList N hm
  tail_any hl.typeIs slot_list_getitem.lookup (wpAny_getItem_list hl (by decide) (by decide) (by rfl) h) hs
theorem two_1 {value slice : PySem.Expr} {l : Addr} {a c : Int} {ta tc u : Tok} {n : Nat} {Q : Value → Shared → Prop} (N : News h₀ L s.heap news) (hm : (l, two a ta c tc n) ∈ news) (h : Q (.int c tc) s)
    (hs : subscripted slice false (.ref l) (.int 1 u) = operate [.ref l, .int 1 u] (getItem (.ref l) (.int 1 u)) := by with_unfolding_all rfl) :
    wpAny (model prog w) A (subscriptTail value slice (.ref l) (.int 1 u)) Q E s :=
  have hl : s.heap.IsList l [Value.int a ta, Value.int c tc].toArray := News.isList N hm
  tail_any hl.typeIs slot_list_getitem.lookup (wpAny_getItem_list hl (by decide) (by decide) (by rfl) h) hs
end
end Mine
namespace Mine
theorem turn_two0 (elt target iter target' iter' : Expr) (scope : Scope) (pos : Pos) (it acc : Value) (env : Env) :
    compTurn (.ListComp elt [⟨target, iter, [], 0⟩, ⟨target', iter', [], 0⟩] scope pos) 0 it acc env = (standAt iter.pos >>= fun _ => pyNext it >>= fun r => match r with
      | none => pure (.done .next)
      | some v => letOwnedTupleGo target it v >>= fun _ => assign target env v >>= fun _ =>
        eval iter' env >>= fun x => standAt iter'.pos >>= fun _ => foldedSetIterable iter' env x >>= fun x => holding [x] (pyIter x) >>= fun i =>
          runOwn (.compStart (.ListComp elt [⟨target, iter, [], 0⟩, ⟨target', iter', [], 0⟩] scope pos) 1 i acc env) env >>= fun _ =>
          again (.compLoop (.ListComp elt [⟨target, iter, [], 0⟩, ⟨target', iter', [], 0⟩] scope pos) 0 it acc env)) := by rfl
theorem turn_two1 (elt target iter target' iter' : Expr) (scope : Scope) (pos : Pos) (it acc : Value) (env : Env) :
    compTurn (.ListComp elt [⟨target, iter, [], 0⟩, ⟨target', iter', [], 0⟩] scope pos) 1 it acc env = (standAt iter'.pos >>= fun _ => pyNext it >>= fun r => match r with
      | none => pure (.done .next)
      | some v => letOwnedTupleGo target' it v >>= fun _ => assign target' env v >>= fun _ =>
        (eval elt env >>= fun x => call (.builtin "list.append") [acc, x] >>= fun _ => pure ()) >>= fun _ =>
          again (.compLoop (.ListComp elt [⟨target, iter, [], 0⟩, ⟨target', iter', [], 0⟩] scope pos) 1 it acc env)) := by rfl
section
variable {prog : Program} {w : World} {A : Around} {E : Value → Shared → Prop} {R : Result → Shared → Prop} {s : Shared}
theorem loop_two1 {elt target iter target' iter' : Expr} {scope : Scope} {pos : Pos} {it acc : Value} {env : Env} (I : Nat → Shared → Prop)
    (turn : ∀ n s, I n s → wpAny (model prog w) A (pyNext it) (fun r s₁ => match r with
      | none => R (.ok .next) s₁
      | some v => wpAny (model prog w) A (assign target' env v) (fun _ s₂ => wpAny (model prog w) A (eval elt env) (fun x s₃ =>
          wpAny (model prog w) A (call (.builtin "list.append") [acc, x]) (fun _ s₄ => ∃ m, m < n ∧ I m s₄) (notedBy (model prog w) A env fun e s' => R (.error e) s') s₃)
          (notedBy (model prog w) A env fun e s' => R (.error e) s') s₂) (notedBy (model prog w) A env fun e s' => R (.error e) s') s₁) (notedBy (model prog w) A env fun e s' => R (.error e) s') s)
    (n : Nat) (h : I n s) (ht : ∀ v, letOwnedTupleGo target' it v = pure () := by intro _; rfl) :
    codeAny (model prog w) A (.compLoop (.ListComp elt [⟨target, iter, [], 0⟩, ⟨target', iter', [], 0⟩] scope pos) 1 it acc env) R s := by
  refine codeAny_loop rfl I (fun n s hI => ?_) n h
  show wpAny _ A ((compTurn (.ListComp elt [⟨target, iter, [], 0⟩, ⟨target', iter', [], 0⟩] scope pos) 1 it acc env).onRaise (fun x => do noteFrame x env; theTreesLotGoes x)) _ _ s
  refine wpAny_noted ?_
  rw [turn_two1]
  refine wpAny_bind (wpAny_standAt (wpAny_bind (wpAny_mono (turn n s hI) (fun r s₁ h₁ => ?_) fun _ _ h' => h')))
  cases r with
  | none => exact wpAny_pure h₁
  | some v =>
    refine wpAny_bind (wpAny_of_eq (ht v) ?_)
    exact wpAny_bind (wpAny_mono h₁ (fun _ s₂ h₂ => wpAny_bind (wpAny_bind (wpAny_mono h₂ (fun x s₃ h₃ => wpAny_bind (wpAny_mono h₃
      (fun _ s₄ h₄ => wpAny_pure (wpAny_pure ⟨rfl, h₄⟩)) fun _ _ h' => h')) fun _ _ h' => h'))) fun _ _ h' => h')
theorem loop_two0 {elt target iter target' iter' : Expr} {scope : Scope} {pos : Pos} {it acc : Value} {env : Env} (I : Nat → Shared → Prop)
    (turn : ∀ n s, I n s → wpAny (model prog w) A (pyNext it) (fun r s₁ => match r with
      | none => R (.ok .next) s₁
      | some v => wpAny (model prog w) A (assign target env v) (fun _ s₂ => wpAny (model prog w) A (eval iter' env) (fun x s₃ =>
          wpAny (model prog w) A (pyIter x) (fun i s₄ => codeAny (model prog w) A (.compStart (.ListComp elt [⟨target, iter, [], 0⟩, ⟨target', iter', [], 0⟩] scope pos) 1 i acc env)
            (fun r s₅ => match r with | .ok _ => ∃ m, m < n ∧ I m s₅ | .error _ => False) s₄) (notedBy (model prog w) A env fun e s' => R (.error e) s') s₃)
          (notedBy (model prog w) A env fun e s' => R (.error e) s') s₂) (notedBy (model prog w) A env fun e s' => R (.error e) s') s₁) (notedBy (model prog w) A env fun e s' => R (.error e) s') s)
    (n : Nat) (h : I n s) (hs : ∀ x, foldedSetIterable iter' env x = pure x) (ht : ∀ v, letOwnedTupleGo target it v = pure () := by intro _; rfl) :
    codeAny (model prog w) A (.compLoop (.ListComp elt [⟨target, iter, [], 0⟩, ⟨target', iter', [], 0⟩] scope pos) 0 it acc env) R s := by
  refine codeAny_loop rfl I (fun n s hI => ?_) n h
  show wpAny _ A ((compTurn (.ListComp elt [⟨target, iter, [], 0⟩, ⟨target', iter', [], 0⟩] scope pos) 0 it acc env).onRaise (fun x => do noteFrame x env; theTreesLotGoes x)) _ _ s
  refine wpAny_noted ?_
  rw [turn_two0]
  refine wpAny_bind (wpAny_standAt (wpAny_bind (wpAny_mono (turn n s hI) (fun r s₁ h₁ => ?_) fun _ _ h' => h')))
  cases r with
  | none => exact wpAny_pure h₁
  | some v =>
    refine wpAny_bind (wpAny_of_eq (ht v) ?_)
    refine wpAny_bind (wpAny_mono h₁ (fun _ s₂ h₂ => wpAny_bind (wpAny_mono h₂ (fun x s₃ h₃ => wpAny_bind (wpAny_standAt (wpAny_bind (wpAny_of_eq (hs x) (wpAny_bind (wpAny_holding
      (wpAny_mono h₃ (fun i s₄ h₄ => wpAny_bind (wpAny_runOwn (codeAny_mono h₄ fun r s₅ h₅ => ?_))) fun _ _ h' => h'))))))) fun _ _ h' => h')) fun _ _ h' => h')
    cases r with
    | ok f => exact wpAny_pure ⟨rfl, h₅⟩
    | error e => exact h₅.elim
theorem start_two1 {elt target iter target' iter' : Expr} {scope : Scope} {pos : Pos} {it acc : Value} {env : Env}
    (h0 : codeAny (model prog w) A (.compLoop (.ListComp elt [⟨target, iter, [], 0⟩, ⟨target', iter', [], 0⟩] scope pos) 1 it acc env) R s)
    (h : wpAny (model prog w) A (pyIter it) (fun it' s' => codeAny (model prog w) A (.compLoop (.ListComp elt [⟨target, iter, [], 0⟩, ⟨target', iter', [], 0⟩] scope pos) 1 it' acc env) R s')
      (notedBy (model prog w) A env fun x s' => R (.error x) s') s) :
    codeAny (model prog w) A (.compStart (.ListComp elt [⟨target, iter, [], 0⟩, ⟨target', iter', [], 0⟩] scope pos) 1 it acc env) R s := by
  refine codeAny_of_tree ?_
  show wpAny _ _ ((compStart (.ListComp elt [⟨target, iter, [], 0⟩, ⟨target', iter', [], 0⟩] scope pos) 1 it acc env).onRaise (fun x => do noteFrame x env; standAt theWindowsPlace)) _ _ s
  refine wpAny_notedAt ?_
  unfold compStart
  show wpAny _ _ (ask >>= _) _ _ s
  refine wpAny_bind (wpAny_askSetting (wpAny_ite ?_))
  split
  · first
      | exact wpAny_bind (wpAny_pure (wpAny_pure (And.intro rfl h0)))
      | exact wpAny_pure (And.intro rfl h0)
  · first
      | exact wpAny_bind (wpAny_rule (wpAny_bind (wpAny_standAt (wpAny_bind (wpAny_mono h (fun it' s' h' => wpAny_pure (And.intro rfl h')) fun _ _ x => x)))))
      | (refine wpAny_bind (wpAny_rule ?_); show wpAny _ _ (standAt iter'.pos >>= _) _ _ s; exact wpAny_bind (wpAny_standAt (wpAny_bind (wpAny_mono h (fun it' s' h' => wpAny_pure (And.intro rfl h')) fun _ _ x => x))))
end

def EltPost (r : Int) (s : Shared) (v : Value) (s' : Shared) : Prop := ∃ (t : Tok) (tk : Nat), v = .int r t ∧ s' = { s with toks := tk }
def RangePost (s : Shared) (v : Value) (s' : Shared) : Prop :=
  ∃ (r : Addr) (t u z : Tok) (h : Heap) (tk : Nat), v = .ref r ∧ s' = { s with heap := h, toks := tk } ∧ IsRange h r 0 8 1 t u z ∧ ∀ b o, s.heap.get? b = some o → h.get? b = some o
section
variable {prog : Program} {w : World} {A : Around} {E : Value → Shared → Prop} {R : Result → Shared → Prop} {s : Shared}
theorem inner_loop {elt iter iter' : Expr} {x y : Str} {px py : Pos} {scope : Scope} {pos : Pos} {C D J : Addr} {cenv : Env} {ys : List Value} {k : Int} {t : Tok} {m₀ : Str → Option Value} {g : Int → Int}
    (hh : A.handled = none) (hC : cenv.locals = C) (hJC : J ≠ C) (hJD : J ≠ D) (hCD : C ≠ D) (hxy : (x = y) = False) (hy : cenv.kindOf y = some .local)
    (hp : (cenv.scope.kind == .class || (cenv.scope.kind == .module && cenv.locals != cenv.globals)) = false)
    (hst : IsRangeIter s.heap J 0 8 1) (hn : s.heap.Ns C m₀) (hmx : m₀ x = some (.int k t)) (hD : s.heap.get? D = some (LCg.lst ys)) (hsz : ys.length + 8 ≤ sizeLine)
    (helt : ∀ j u m₂ ys' h tk (E' : Value → Shared → Prop), 0 ≤ j → j < 8 → h.Ns C m₂ → m₂ x = some (.int k t) → m₂ y = some (.int j u) → h.get? D = some (LCg.lst ys') → (∃ oJ, h.get? J = some oJ) →
      (∀ b o, b ≠ J → b ≠ C → b ≠ D → s.heap.get? b = some o → h.get? b = some o) →
      wpAny (model prog w) A (eval elt cenv) (EltPost (g j) { s with heap := h, toks := tk }) E' { s with heap := h, toks := tk })
    (hR : ∀ h' tk m' vs, h'.Ns C m' → h'.get? D = some (LCg.lst (ys ++ vs)) → IntsAre vs ((rangeKs 0 8).map g) → (∀ b o, b ≠ J → b ≠ C → b ≠ D → s.heap.get? b = some o → h'.get? b = some o) → R (.ok .next) { s with heap := h', toks := tk }) :
    codeAny (model prog w) A (.compStart (.ListComp elt [⟨.Name x px, iter, [], 0⟩, ⟨.Name y py, iter', [], 0⟩] scope pos) 1 (.ref J) (.ref D) cenv) R s := by
  subst hC
  have W := LCg.range_walks (prog := prog) (w := w) (A := A) (I := J) hh 0 8
  have hst0 : IsRangeIter s.heap J (0 + ((0 : Nat) : Int) * 1) (((8 : Nat) : Int) - ((0 : Nat) : Int)) 1 := hst
  have loop : ∀ s₃ : Shared, s₃ = s → codeAny (model prog w) A (.compLoop (.ListComp elt [⟨.Name x px, iter, [], 0⟩, ⟨.Name y py, iter', [], 0⟩] scope pos) 1 (.ref J) (.ref D) cenv) R s₃ := by
    rintro s₃ rfl
    refine loop_two1
      (fun n s' => ∃ h' tk i vs m', s' = { s₃ with heap := h', toks := tk } ∧ i ≤ 8 ∧ n = 8 + 1 - i ∧ IntsAre vs (((rangeKs 0 8).take i).map g) ∧ IsRangeIter h' J (0 + ((i : Nat) : Int) * 1) (((8 : Nat) : Int) - ((i : Nat) : Int)) 1 ∧
        h'.Ns cenv.locals m' ∧ m' x = some (.int k t) ∧ h'.get? D = some (LCg.lst (ys ++ vs)) ∧ ∀ b o, b ≠ J → b ≠ cenv.locals → b ≠ D → s₃.heap.get? b = some o → h'.get? b = some o) ?_ (8 + 1)
      ⟨s₃.heap, s₃.toks, 0, [], m₀, rfl, Nat.zero_le _, rfl, .nil, hst0, hn, hmx, by rw [List.append_nil]; exact hD, fun _ _ _ _ _ e => e⟩
    rintro n s' ⟨h', tk, i, vs, m', rfl, hi, rfl, hv, hst', hn', hmx', hD', hk'⟩
    by_cases hlt : i < 8
    · refine W.item i _ _ _ hlt hst' fun v h₂ tk₂ hPv hst₂ hk₂ => ?_
      obtain ⟨u, rfl⟩ := hPv
      refine wpAny_assign_Name (wpAny_storeName_local hy (hn'.at' fun o e => hk₂ _ o (by simpa using Ne.symm hJC) e) (fun h₃ hn₃ hs₃ => ?_) hp)
      have hst₃ : IsRangeIter h₃ J (0 + ((i + 1 : Nat) : Int) * 1) (((8 : Nat) : Int) - ((i + 1 : Nat) : Int)) 1 := W.frame (i + 1) _ _ hst₂ fun b hb o e => hs₃.extBut b o (fun q => hJC (by rw [← List.mem_singleton.mp hb]; exact q)) e
      have hD₃ : h₃.get? D = some (LCg.lst (ys ++ vs)) := hs₃.extBut _ _ (Ne.symm hCD) (hk₂ _ _ (by simpa using Ne.symm hJD) hD')
      have hk₃ : ∀ b o, b ≠ J → b ≠ cenv.locals → b ≠ D → s₃.heap.get? b = some o → h₃.get? b = some o := fun b o h1 h2 h3 e => hs₃.extBut b o h2 (hk₂ b o (by simpa using h1) (hk' b o h1 h2 h3 e))
      have hlen : vs.length = i := by rw [hv.length, List.length_map, List.length_take, rangeKs_length]; omega
      refine wpAny_mono (helt (0 + (i : Int)) u _ _ h₃ _ _ (by omega) (by omega) hn₃ (by simp only [hxy, if_false]; exact hmx') (by simp) hD₃ ⟨_, hst₃⟩ hk₃) (fun z s₄ h₄ => ?_) fun _ _ e => e
      obtain ⟨t₄, tk₄, rfl, rfl⟩ := h₄
      refine append_at (hsz := by show (ys ++ vs).toArray.size ≤ sizeLine; rw [List.size_toArray, List.length_append, hlen]; omega) hD₃ fun h₅ hs₅ hD₅ => ?_
      refine ⟨8 + 1 - (i + 1), by omega, h₅, tk₄, i + 1, vs ++ [.int (g (0 + (i : Int))) t₄], _, rfl, hlt, rfl, ?_, W.frame (i + 1) _ _ hst₃ fun b hb o e => hs₅.extBut b o (fun q => hJD (by rw [← List.mem_singleton.mp hb]; exact q)) e,
        hn₃.sameBut hs₅ hCD, by simp only [hxy, if_false]; exact hmx', ?_, fun b o h1 h2 h3 e => hs₅.extBut b o h3 (hk₃ b o h1 h2 h3 e)⟩
      · have e : (rangeKs 0 8)[i]? = some (0 + (i : Int)) := by simp [rangeKs, hlt]
        rw [List.take_add_one, e]
        simpa using IntsAre.append hv (.cons (g (0 + (i : Int))) t₄ .nil)
      · rw [← List.append_assoc]
        exact hD₅.trans (congrArg some (LCg.lst_snoc (ys ++ vs) _))
    · obtain rfl : i = 8 := Nat.le_antisymm hi (Nat.not_lt.mp hlt)
      refine W.done _ _ _ hst' fun h₂ tk₂ hk₂ => ?_
      refine hR h₂ tk₂ m' vs (hn'.at' fun o e => hk₂ _ o (by simpa using Ne.symm hJC) e) (hk₂ _ _ (by simpa using Ne.symm hJD) hD') (by rwa [List.take_of_length_le (by rw [rangeKs_length]; exact Nat.le_refl _)] at hv) fun b o h1 h2 h3 e => hk₂ b o (by simpa using h1) (hk' b o h1 h2 h3 e)
  exact start_two1 (loop _ rfl) (W.self 0 _ _ _ hst0 (loop _ rfl))
end

/-- what the two `for`s gather -/
def gather (g : Int → Int → Int) : List Int → List Int
  | [] => []
  | k :: r => (rangeKs 0 8).map (g k) ++ gather g r
theorem gather_append (g : Int → Int → Int) (l r : List Int) : gather g (l ++ r) = gather g l ++ gather g r := by
  induction l with
  | nil => rfl
  | cons k l ih => simp [gather, ih, List.append_assoc]
theorem gather_length (g : Int → Int → Int) (l : List Int) : (gather g l).length = 8 * l.length := by
  induction l with
  | nil => rfl
  | cons k l ih => simp only [gather, List.length_append, List.length_map, rangeKs_length, ih, List.length_cons]; omega
section
variable {prog : Program} {w : World} {A : Around} {E : Value → Shared → Prop} {s : Shared} {h₀ : Heap} {L : Addr} {m : Str → Option Value} {env : Env}
theorem fr_but3 {h h' : Heap} {J C D : Addr} (F : Fr h₀ L h m) (hk : ∀ b o, b ≠ J → b ≠ C → b ≠ D → h.get? b = some o → h'.get? b = some o) (hJ : L ≠ J) (hC : L ≠ C) (hD : L ≠ D)
    (eJ : h₀.get? J = none) (eC : h₀.get? C = none) (eD : h₀.get? D = none) : Fr h₀ L h' m :=
  ⟨F.ns.at' fun o e => hk L o hJ hC hD e, fun b o e => hk b o (fun q => by rw [q, eJ] at e; cases e) (fun q => by rw [q, eC] at e; cases e) (fun q => by rw [q, eD] at e; cases e) (F.keep b o e), F.above⟩
theorem two_block {elt iter iter' : Expr} {x y : Str} {px py : Pos} {scope : Scope} {cl : List (Str × Addr)} {pos : Pos} {s₂ : Shared} {I : Addr} {b : Array UInt8} {tb : Tok} {ks : List Int} {news : List (Addr × Obj)} {g : Int → Int → Int}
    {RR : Value → Addr → Result → Shared → Prop} (hh : A.handled = none) (hks : KBw.bInts b = ks) (hsz : 8 * ks.length ≤ sizeLine)
    (hcell : ∀ y ∈ scope.names, y.2 ≠ .cell) (hkind : scope.kind = .function) (hx : scope.names.lookup x = some .local) (hy : scope.names.lookup y = some .local) (hxy : (x = y) = False)
    (hs : ∀ C v, foldedSetIterable iter' (compEnvC scope cl C env) v = pure v)
    (hit : KBw.IsBytesIter s₂.heap I b tb 0)
    (F : Fr h₀ L s₂.heap m) (N : News h₀ L s₂.heap news) (hIL : L ≠ I) (hI₀ : h₀.get? I = none) (off : ∀ p ∈ news, p.1 ≠ I)
    (hrange : ∀ I oI C oC D m₂ ys h tk (E' : Value → Shared → Prop), LCg.NsObj oC m₂ → Fr h₀ L h m → News h₀ L h ((I, oI) :: (C, oC) :: (D, LCg.lst ys) :: news) →
      wpAny (model prog w) A (eval iter' (compEnvC scope cl C env)) (RangePost { s₂ with heap := h, toks := tk }) E' { s₂ with heap := h, toks := tk })
    (helt : ∀ k t j u J oJ I oI C oC D m₂ ys h tk (E' : Value → Shared → Prop), 0 ≤ k → k < 256 → 0 ≤ j → j < 8 → LCg.NsObj oC m₂ → m₂ x = some (.int k t) → m₂ y = some (.int j u) → Fr h₀ L h m →
      News h₀ L h ((J, oJ) :: (I, oI) :: (C, oC) :: (D, LCg.lst ys) :: news) →
      wpAny (model prog w) A (eval elt (compEnvC scope cl C env)) (EltPost (g k j) { s₂ with heap := h, toks := tk }) E' { s₂ with heap := h, toks := tk })
    (hRR : ∀ D C h tk m' ys, Fr h₀ L h m → News h₀ L h ((D, LCg.lst ys) :: news) → (∀ p ∈ news, p.1 < D) → h.Ns C m' → h₀.get? C = none → C ≠ L → C ≠ D → (∀ p ∈ news, p.1 ≠ C) → IntsAre ys (gather g ks) → RR (.ref D) C (.ok .next) { s₂ with heap := h, toks := tk }) :
    wpAny (model prog w) A (newList []) (fun acc s₃ => wpAny (model prog w) A (newFunctionEnv scope env.globals cl [] env.qual none .none (some env)) (fun cenv s₄ =>
      codeAny (model prog w) A (.compStart (.ListComp elt [⟨.Name x px, iter, [], 0⟩, ⟨.Name y py, iter', [], 0⟩] scope pos) 0 (.ref I) acc { cenv with scope := relabel scope env }) (RR acc cenv.locals) s₄) E s₃) E s₂ := by
  have W := KBw.walks (prog := prog) (w := w) (A := A) hh I b tb
  have hbs : b.size = ks.length := by rw [← hks, KBw.ints_length]
  refine wpAny_newObj_type (wpAny_newFunctionEnv hcell (by intro y hy; simp at hy) (fun h₁ hns₁ hsb₁ => ?_) hkind)
  dsimp only at hns₁ hsb₁ ⊢
  generalize hH2 : s₂.heap.push { cls := .type "list", dict := none, data := .seq ([] : List Value).toArray } = H2 at hns₁ hsb₁ ⊢
  have hC : H2.objs.size = s₂.heap.objs.size + 1 := by rw [← hH2, Heap.size_push]
  generalize hDD : s₂.heap.objs.size = D at *
  generalize hCC : H2.objs.size = C at *
  have hDC : D ≠ C := by rw [hC]; exact Nat.ne_of_lt (Nat.lt_succ_self _)
  have below : ∀ a o, s₂.heap.get? a = some o → a ≠ C ∧ a ≠ D := fun a o e => by
    have hb := Heap.lt_size e
    rw [hDD] at hb
    exact ⟨by rw [hC]; exact Nat.ne_of_lt (Nat.lt_succ_of_lt hb), Nat.ne_of_lt hb⟩
  have old : ∀ a o, s₂.heap.get? a = some o → h₁.get? a = some o := fun a o e => hsb₁.extBut a o (below a o e).1 (Heap.get?_push_of_some _ (hH2 ▸ Heap.get?_push_of_some _ e))
  have hacc : h₁.get? D = some (LCg.lst []) := hsb₁.extBut _ _ hDC (Heap.get?_push_of_some _ (hH2 ▸ hDD ▸ Heap.get?_push_size _ rfl))
  have fresh₀ : ∀ a, D ≤ a → h₀.get? a = none := fun a ha => by
    cases e : h₀.get? a with
    | none => rfl
    | some o' =>
      have h1 := F.keep a o' e
      have h2 := Heap.lt_size h1
      rw [hDD] at h2
      exact absurd h2 (Nat.not_lt.mpr ha)
  have hD₀ : h₀.get? D = none := fresh₀ _ (Nat.le_refl _)
  have hC₀ : h₀.get? C = none := fresh₀ _ (by rw [hC]; exact Nat.le_succ _)
  obtain ⟨oL, heL⟩ : ∃ o, s₂.heap.get? L = some o := by obtain ⟨o, _, _, e, _⟩ := F.ns; exact ⟨o, e⟩
  have hLD : L ≠ D := (below L _ heL).2
  have hLC : L ≠ C := (below L _ heL).1
  obtain ⟨oI0, heI0, hI0⟩ := id hit
  have hIC : I ≠ C := (below I _ heI0).1
  have hID : I ≠ D := (below I _ heI0).2
  have offC : ∀ p ∈ news, p.1 ≠ C := fun p hp => (below _ _ (N p hp).1).1
  have offD : ∀ p ∈ news, p.1 ≠ D := fun p hp => (below _ _ (N p hp).1).2
  have loop : ∀ s₃ : Shared, s₃ = { s₂ with heap := h₁, toks := s₂.toks + ([] : List (Str × Value)).length } →
      codeAny (model prog w) A (.compLoop (.ListComp elt [⟨.Name x px, iter, [], 0⟩, ⟨.Name y py, iter', [], 0⟩] scope pos) 0 (.ref I) (.ref D) (compEnvC scope cl C env)) (RR (.ref D) C) s₃ := by
    rintro s₃ rfl
    refine loop_two0
      (fun n s' => ∃ h' tk i ys m', s' = { s₂ with heap := h', toks := tk } ∧ i ≤ b.size ∧ n = b.size + 1 - i ∧ IntsAre ys (gather g (ks.take i)) ∧ KBw.IsBytesIter h' I b tb i ∧ Fr h₀ L h' m ∧ h'.Ns C m' ∧
        News h₀ L h' ((D, LCg.lst ys) :: news)) ?_ (b.size + 1)
      ⟨h₁, _, 0, [], _, rfl, Nat.zero_le _, rfl, .nil, W.frame _ _ _ hit fun a _ o e => old a o e, F.keeps old, hns₁, fun p hp => ?_⟩ (hs C)
    · rintro n s' ⟨h', tk, i, ys, m', rfl, hi, rfl, hv, hst', F', hn', N'⟩
      by_cases hlt : i < b.size
      · refine W.item i _ _ _ hlt hst' fun v h₂ tk₂ hPv hst₂ hk₂ => ?_
        obtain ⟨c, u, hc, rfl⟩ := hPv
        have hkc := KBw.ints_get hc
        rw [hks] at hkc
        have hc0 : (0 : Int) ≤ (c.toNat : Int) := Int.natCast_nonneg _
        have hc1 : (c.toNat : Int) < 256 := by have := c.toNat_lt; omega
        refine wpAny_assign_Name (wpAny_storeName_local (lookup_relabel_local hx) (hn'.at' fun o e => hk₂ _ o (by simpa using Ne.symm hIC) e) (fun h₃ hn₃ hs₃ => ?_) (by simp [compEnvC, relabel, hkind]))
        have hst₃ : KBw.IsBytesIter h₃ I b tb (i + 1) := W.frame _ _ _ hst₂ fun a ha o e => hs₃.extBut a o (fun q => hIC (by rw [← List.mem_singleton.mp ha]; exact q)) e
        obtain ⟨oI, heI, hoI⟩ := id hst₃
        obtain ⟨oC, heC, hoC⟩ := LCg.ns_obj hn₃
        have F₃ : Fr h₀ L h₃ m := (LCg.fr_but F' hk₂ hIL hI₀).change hs₃ (Ne.symm hLC) hC₀
        have N₃' : News h₀ L h₃ ((D, LCg.lst ys) :: news) := fun p hp => by
          have z := LCg.news_but N' hk₂ (fun p hp => by
            rcases List.mem_cons.mp hp with rfl | hp
            · exact Ne.symm hID
            · exact off p hp) p hp
          refine ⟨hs₃.extBut _ _ ?_ z.1, z.2⟩
          rcases List.mem_cons.mp hp with rfl | hp
          · exact hDC
          · exact offC p hp
        have N₃ : News h₀ L h₃ ((I, oI) :: (C, oC) :: (D, LCg.lst ys) :: news) := fun p hp => by
          rcases List.mem_cons.mp hp with rfl | hp
          · exact ⟨heI, Ne.symm hIL, hI₀⟩
          · rcases List.mem_cons.mp hp with rfl | hp
            · exact ⟨heC, Ne.symm hLC, hC₀⟩
            · exact N₃' p hp
        refine wpAny_mono (hrange I oI C oC D _ ys h₃ _ _ hoC F₃ N₃) (fun xv s₄ h₄ => ?_) fun _ _ e => e
        obtain ⟨r, t', u', z', h₄, tk₄, rfl, rfl, hr, hk₄⟩ := h₄
        refine wpAny_pyIter_range hr (by decide) ?_
        have hJ : ∀ a o, h₄.get? a = some o → a ≠ h₄.objs.size := fun a o e => Nat.ne_of_lt (Heap.lt_size e)
        have hJI := hJ _ _ (hk₄ _ _ heI)
        have hJC := hJ _ _ (hk₄ _ _ heC)
        have hJD := hJ _ _ (hk₄ _ _ (N₃' _ List.mem_cons_self).1)
        have F₄ : Fr h₀ L h₄ m := F₃.keeps hk₄
        have hJL : L ≠ h₄.objs.size := Nat.ne_of_lt F₄.ns.lt
        have hJ₀ : h₀.get? h₄.objs.size = none := next_is_new F₄
        have up : ∀ a o, h₃.get? a = some o → (h₄.push { cls := .type "range_iterator", data := .fields #[rawInt 0, rawInt (Builtin.Range.rangeSize 0 8 1), rawInt 1] }).get? a = some o := fun a o e => Heap.get?_push_of_some _ (hk₄ a o e)
        have F₅ := F₃.keeps up
        have N₅ := N₃'.grown up
        have hlen : ys.length = 8 * i := by rw [hv.length, gather_length, List.length_take]; omega
        have newsAt : ∀ h, (∀ a o, a ≠ h₄.objs.size → a ≠ C → a ≠ D → (h₄.push { cls := .type "range_iterator", data := .fields #[rawInt 0, rawInt (Builtin.Range.rangeSize 0 8 1), rawInt 1] }).get? a = some o → h.get? a = some o) → News h₀ L h news := fun h hk p hp => by
          have z := N₅ p (List.mem_cons_of_mem _ hp)
          exact ⟨hk _ _ (hJ _ _ (hk₄ _ _ (N₃' p (List.mem_cons_of_mem _ hp)).1)) (offC p hp) (offD p hp) z.1, z.2⟩
        refine inner_loop (C := C) (m₀ := _) (g := g (c.toNat : Int)) (k := (c.toNat : Int)) (t := u) hh rfl (Ne.symm hJC) (Ne.symm hJD) (Ne.symm hDC) hxy (lookup_relabel_local hy) (by simp [compEnvC, relabel, hkind]) (Heap.get?_push_size _ rfl) (hn₃.keeps up) (by simp)
          (N₅ _ List.mem_cons_self).1 (by rw [hlen]; omega) ?_ ?_
        · intro j u₂ m₂ ys' h tk₅ E' hj0 hj1 hnC hmx hmy hD' hJ' hk
          obtain ⟨oJ, heJ⟩ := hJ'
          obtain ⟨oC', heC', hoC'⟩ := LCg.ns_obj hnC
          have F₆ := fr_but3 F₅ hk hJL hLC hLD hJ₀ hC₀ hD₀
          refine helt _ u j u₂ h₄.objs.size oJ I oI C oC' D m₂ ys' h tk₅ E' hc0 hc1 hj0 hj1 hoC' hmx hmy F₆ fun p hp => ?_
          rcases List.mem_cons.mp hp with rfl | hp
          · exact ⟨heJ, Ne.symm hJL, hJ₀⟩
          · rcases List.mem_cons.mp hp with rfl | hp
            · exact ⟨hk _ _ hJI hIC hID (up _ _ heI), Ne.symm hIL, hI₀⟩
            · rcases List.mem_cons.mp hp with rfl | hp
              · exact ⟨heC', Ne.symm hLC, hC₀⟩
              · rcases List.mem_cons.mp hp with rfl | hp
                · exact ⟨hD', Ne.symm hLD, hD₀⟩
                · exact newsAt h hk p hp
        · intro h₆ tk₆ m₆ vs hn₆ hD₆ hv₆ hk₆
          refine ⟨b.size + 1 - (i + 1), by omega, h₆, tk₆, i + 1, ys ++ vs, m₆, rfl, hlt, rfl, ?_, W.frame _ _ _ hst₃ fun a ha o e => by
            rw [List.mem_singleton.mp ha] at e ⊢; exact hk₆ _ _ hJI hIC hID (up _ _ e), fr_but3 F₅ hk₆ hJL hLC hLD hJ₀ hC₀ hD₀, hn₆, fun p hp => ?_⟩
          · rw [List.take_add_one, hkc, gather_append]
            simpa [gather] using IntsAre.append hv hv₆
          · rcases List.mem_cons.mp hp with rfl | hp
            · exact ⟨hD₆, Ne.symm hLD, hD₀⟩
            · exact newsAt h₆ hk₆ p hp
      · obtain rfl : i = b.size := Nat.le_antisymm hi (Nat.not_lt.mp hlt)
        refine W.done _ _ _ hst' fun h₂ tk₂ hk₂ => ?_
        refine hRR D C h₂ tk₂ m' ys (LCg.fr_but F' hk₂ hIL hI₀) (LCg.news_but N' hk₂ fun p hp => ?_) (fun p hp => by have h := Heap.lt_size (N p hp).1; rw [hDD] at h; exact h) (hn'.at' fun o e => hk₂ _ o (by simpa using Ne.symm hIC) e) hC₀ (Ne.symm hLC) (Ne.symm hDC) offC
          (by rwa [List.take_of_length_le (by rw [hbs]; exact Nat.le_refl _)] at hv)
        rcases List.mem_cons.mp hp with rfl | hp
        · exact Ne.symm hID
        · exact off p hp
    · rcases List.mem_cons.mp hp with rfl | hp
      · exact ⟨hacc, Ne.symm hLD, hD₀⟩
      · exact ⟨old _ _ (N p hp).1, (N p hp).2⟩
  exact codeAny_compStart_list (loop _ rfl) (W.self 0 _ _ _ (W.frame _ _ _ hit fun a _ o e => old a o e) (loop _ rfl))
end

def RangeAt (prog : Program) (w : World) (A : Around) (h₀ : Heap) (L : Addr) (m : Str → Option Value) (env : Env) (iter' : Expr) (scope : Scope) (cl : List (Str × Addr)) (s₁ : Shared) (news : List (Addr × Obj)) : Prop :=
  ∀ I oI C oC D m₂ ys h tk (E' : Value → Shared → Prop), LCg.NsObj oC m₂ → Fr h₀ L h m → News h₀ L h ((I, oI) :: (C, oC) :: (D, LCg.lst ys) :: news) →
      wpAny (model prog w) A (eval iter' (compEnvC scope cl C env)) (RangePost { s₁ with heap := h, toks := tk }) E' { s₁ with heap := h, toks := tk }
def EltAt (prog : Program) (w : World) (A : Around) (h₀ : Heap) (L : Addr) (m : Str → Option Value) (env : Env) (elt : Expr) (x y : Str) (scope : Scope) (cl : List (Str × Addr)) (g : Int → Int → Int) (s₁ : Shared) (news : List (Addr × Obj)) : Prop :=
  ∀ k t j u J oJ I oI C oC D m₂ ys h tk (E' : Value → Shared → Prop), 0 ≤ k → k < 256 → 0 ≤ j → j < 8 → LCg.NsObj oC m₂ → m₂ x = some (.int k t) → m₂ y = some (.int j u) → Fr h₀ L h m →
      News h₀ L h ((J, oJ) :: (I, oI) :: (C, oC) :: (D, LCg.lst ys) :: news) →
      wpAny (model prog w) A (eval elt (compEnvC scope cl C env)) (EltPost (g k j) { s₁ with heap := h, toks := tk }) E' { s₁ with heap := h, toks := tk }
def FinAt (h₀ : Heap) (L : Addr) (m : Str → Option Value) (Q : Value → Shared → Prop) (g : Int → Int → Int) (ks : List Int) (s₁ : Shared) (news : List (Addr × Obj)) : Prop :=
  ∀ D h tk ys, Fr h₀ L h m → News h₀ L h ((D, LCg.lst ys) :: news) → (∀ p ∈ news, p.1 < D) → IntsAre ys (gather g ks) → Q (.ref D) { s₁ with heap := h, toks := tk }
def BitsSrc (prog : Program) (w : World) (A : Around) (h₀ : Heap) (L : Addr) (m : Str → Option Value) (env : Env) (elt iter' : Expr) (x y : Str) (scope : Scope) (cl : List (Str × Addr)) (g : Int → Int → Int) (Q : Value → Shared → Prop) (xv : Value) (s₁ : Shared) : Prop :=
  ∃ b tb ks news, xv = .bytes b tb ∧ KBw.bInts b = ks ∧ A.handled = none ∧ Fr h₀ L s₁.heap m ∧ News h₀ L s₁.heap news ∧ 8 * ks.length ≤ sizeLine ∧
    RangeAt prog w A h₀ L m env iter' scope cl s₁ news ∧ EltAt prog w A h₀ L m env elt x y scope cl g s₁ news ∧ FinAt h₀ L m Q g ks s₁ news
section
variable {prog : Program} {w : World} {A : Around} {E : Value → Shared → Prop} {s : Shared} {h₀ : Heap} {L : Addr} {m : Str → Option Value} {env : Env}
theorem bits_src {elt iter' : Expr} {x y : Str} {scope : Scope} {cl : List (Str × Addr)} {g : Int → Int → Int} {Q : Value → Shared → Prop} {b : Array UInt8} {tb : Tok} {ks : List Int} {news : List (Addr × Obj)}
    (hk : KBw.bInts b = ks) (hh : A.handled = none) (F : Fr h₀ L s.heap m) (N : News h₀ L s.heap news) (hsz : 8 * ks.length ≤ sizeLine)
    (h1 : RangeAt prog w A h₀ L m env iter' scope cl s news) (h2 : EltAt prog w A h₀ L m env elt x y scope cl g s news) (h3 : FinAt h₀ L m Q g ks s news) :
    BitsSrc prog w A h₀ L m env elt iter' x y scope cl g Q (.bytes b tb) s := ⟨b, tb, ks, news, rfl, hk, hh, F, N, hsz, h1, h2, h3⟩
theorem bits_comp {elt iter iter' : Expr} {x y : Str} {px py : Pos} {scope : Scope} {cl : List (Str × Addr)} {pos : Pos} {Q : Value → Shared → Prop} (g : Int → Int → Int) (F₀ : Fr h₀ L s.heap m)
    (hclos : closureFor scope env = pure cl) (hcell : ∀ y ∈ scope.names, y.2 ≠ .cell) (hkind : scope.kind = .function)
    (hnames : ∀ y ∈ scope.names, y.2 = .local → scope.names.lookup y.1 = some .local) (hx : scope.names.lookup x = some .local) (hy : scope.names.lookup y = some .local) (hxy : x ≠ y)
    (h : wpAny (model prog w) A (eval iter env) (BitsSrc prog w A h₀ L m env elt iter' x y scope cl g Q) E s)
    (hs : ∀ x, foldedSetIterable iter env x = pure x := by intro _; rfl) (hs' : ∀ C v, foldedSetIterable iter' (compEnvC scope cl C env) v = pure v := by intro _ _; rfl) :
    wpAny (model prog w) A (eval (.ListComp elt [⟨.Name x px, iter, [], 0⟩, ⟨.Name y py, iter', [], 0⟩] scope pos) env) Q E s := by
  rw [eval_ListComp]
  refine wpAny_comprehension_free (use := none) rfl hs hclos hkind hnames (wpAny_mono h (fun xv s₁ h₁ => ?_) fun _ _ e => e)
  obtain ⟨b, tb, ks, news, rfl, hk, hh, F, N, hsz, hr, he, hf⟩ := h₁
  refine KBw.pyIter_bytes ?_
  have up : ∀ a o, s₁.heap.get? a = some o → (s₁.heap.push { cls := .type "bytes_iterator", data := .fields #[.bytes b tb, .int 0 0] }).get? a = some o := fun a o e => Heap.get?_push_of_some _ e
  refine two_block (I := s₁.heap.objs.size) (RR := fun acc C => compPost (model prog w) A E none Q acc C) hh hk hsz hcell hkind hx hy (eq_false hxy) hs' ⟨_, Heap.get?_push_size _ rfl, rfl, rfl⟩ (F.keeps up) (N.grown up) (Nat.ne_of_lt F.ns.lt) (next_is_new F)
    (fun p hp => Nat.ne_of_lt (Heap.lt_size (N p hp).1)) hr he ?_
  intro D C h tk m' ys F' N' o1 hn hC0 hCL hCD offC hv
  refine ⟨m', hn, fun h'' hs'' => hf D h'' tk ys (F'.change hs'' hCL hC0) (fun p hp => ?_) o1 hv⟩
  refine ⟨hs''.extBut _ _ ?_ (N' p hp).1, (N' p hp).2⟩
  rcases List.mem_cons.mp hp with rfl | hp
  · exact Ne.symm hCD
  · exact offC p hp
theorem elt_post {r r' : Int} {t : Tok} {tk : Nat} (e : r' = r) : EltPost r s (.int r' t) { s with toks := tk } := by subst e; exact ⟨t, tk, rfl, rfl⟩
theorem range_post {r : Addr} {t u z : Tok} {h : Heap} {tk : Nat} (hr : IsRange h r 0 8 1 t u z) (hk : ∀ b o, s.heap.get? b = some o → h.get? b = some o) : RangePost s (.ref r) { s with heap := h, toks := tk } := ⟨r, t, u, z, h, tk, rfl, rfl, hr, hk⟩
end
/-- a bit of an octet, as the law's own reader takes it -/
def bitAt (k j : Int) : Int := Int.fmod (Int.fdiv k (2 ^ j.toNat)) 2
end Mine
namespace Mine
theorem turn_ex : ∃ f : List Int → Int → List Int, ∀ ks k, f ks k = List.take (clipAt ks.length (Int.fdiv k 8)) ks ++ [Builtin.bitXor (ks.getD (Int.fdiv k 8).toNat 0) (1 * 2 ^ (Int.fmod k 8).toNat)] ++
    List.take (ks.length - clipAt ks.length (Int.fdiv k 8 + 1)) (List.drop (clipAt ks.length (Int.fdiv k 8 + 1)) ks) := ⟨_, fun _ _ => rfl⟩
/-- the octets with the told bit turned, as the walk leaves them; no step of the walk is to look into it -/
noncomputable def turn : List Int → Int → List Int := Classical.choose turn_ex
theorem turn_def (ks : List Int) (k : Int) : turn ks k = List.take (clipAt ks.length (Int.fdiv k 8)) ks ++ [Builtin.bitXor (ks.getD (Int.fdiv k 8).toNat 0) (1 * 2 ^ (Int.fmod k 8).toNat)] ++
    List.take (ks.length - clipAt ks.length (Int.fdiv k 8 + 1)) (List.drop (clipAt ks.length (Int.fdiv k 8 + 1)) ks) := Classical.choose_spec turn_ex ks k
/-- one octet with its bit r turned -/
def flip (a : Int) (r : Nat) : Int := Builtin.bitXor a (1 * 2 ^ r)
def way (a : Int) (r : Nat) : Int := a + 2 ^ r - 2 * (a / 2 ^ r % 2 * 2 ^ r)
theorem flip_way (a : Int) (r : Nat) : flip a r = way a r := by
  unfold flip way
  rw [Int.one_mul, bitXor_and, kbt_bit]
theorem eight {r : Nat} (h : r < 8) : r = 0 ∨ r = 1 ∨ r = 2 ∨ r = 3 ∨ r = 4 ∨ r = 5 ∨ r = 6 ∨ r = 7 := by omega
theorem way_in {a : Int} {r : Nat} (h0 : 0 ≤ a) (h1 : a < 256) (hr : r < 8) : 0 ≤ way a r ∧ way a r < 256 := by
  unfold way
  rcases eight hr with rfl | rfl | rfl | rfl | rfl | rfl | rfl | rfl <;> (simp only [Int.reducePow]; omega)
theorem way_way {a : Int} {r : Nat} (h0 : 0 ≤ a) (h1 : a < 256) (hr : r < 8) : way (way a r) r = a := by
  unfold way
  rcases eight hr with rfl | rfl | rfl | rfl | rfl | rfl | rfl | rfl <;> (simp only [Int.reducePow]; omega)
theorem way_bit {a : Int} {r : Nat} (hr : r < 8) : way a r / 2 ^ r % 2 = 1 - a / 2 ^ r % 2 := by
  unfold way
  rcases eight hr with rfl | rfl | rfl | rfl | rfl | rfl | rfl | rfl <;> simp only [Int.reducePow] <;> omega
set_option maxHeartbeats 4000000 in
theorem way_off {a : Int} {r q : Nat} (hr : r < 8) (hq : q < 8) (hne : r ≠ q) : way a r / 2 ^ q % 2 = a / 2 ^ q % 2 := by
  unfold way
  rcases eight hr with rfl | rfl | rfl | rfl | rfl | rfl | rfl | rfl <;> rcases eight hq with rfl | rfl | rfl | rfl | rfl | rfl | rfl | rfl <;> first | exact absurd rfl hne | (simp only [Int.reducePow]; omega)
theorem way_comm {a : Int} {r q : Nat} (hr : r < 8) (hq : q < 8) : way (way a r) q = way (way a q) r := by
  by_cases h : r = q
  · subst h; rfl
  · have e1 := way_off (a := a) hr hq h
    have e2 := way_off (a := a) hq hr (Ne.symm h)
    show way a r + 2 ^ q - 2 * (way a r / 2 ^ q % 2 * 2 ^ q) = way a q + 2 ^ r - 2 * (way a q / 2 ^ r % 2 * 2 ^ r)
    rw [e1, e2]
    unfold way
    omega
/-- the whole, as a list with one place changed -/
theorem turn_set {ks : List Int} {k : Int} (h0 : 0 ≤ k) (h1 : k < 8 * (ks.length : Int)) :
    turn ks k = ks.set (k / 8).toNat (way (ks.getD (k / 8).toNat 0) (k % 8).toNat) := by
  have e1 : Int.fdiv k 8 = k / 8 := Int.fdiv_eq_ediv_of_nonneg k (by decide)
  have e2 : Int.fmod k 8 = k % 8 := Int.fmod_eq_emod_of_nonneg k (by decide)
  have hq : (k / 8).toNat < ks.length := by omega
  have c1 : clipAt ks.length (k / 8) = (k / 8).toNat := clipAt_in (by omega) (by omega)
  have c2 : clipAt ks.length (k / 8 + 1) = (k / 8).toNat + 1 := by rw [clipAt_in (by omega) (by omega)]; omega
  rw [turn_def, e1, e2, c1, c2, List.set_eq_take_append_cons_drop, if_pos hq, ← flip_way]
  have e3 : List.take (ks.length - ((k / 8).toNat + 1)) (List.drop ((k / 8).toNat + 1) ks) = List.drop ((k / 8).toNat + 1) ks := List.take_of_length_le (by rw [List.length_drop]; exact Nat.le_refl _)
  rw [e3]
  simp [flip]
theorem turn_length {ks : List Int} {k : Int} (h0 : 0 ≤ k) (h1 : k < 8 * (ks.length : Int)) : (turn ks k).length = ks.length := by
  rw [turn_set h0 h1, List.length_set]
theorem getD_in {ks : List Int} (h : KBa.In ks) (i : Nat) : 0 ≤ ks.getD i 0 ∧ ks.getD i 0 < 256 := by
  by_cases hi : i < ks.length
  · have e : ks.getD i 0 = ks[i] := by simp [List.getD, hi]
    rw [e]; exact h _ (List.getElem_mem hi)
  · have e : ks.getD i 0 = 0 := by simp [List.getD, Nat.not_lt.mp hi]
    rw [e]; decide
theorem mod8 (k : Int) : (k % 8).toNat < 8 := by omega
theorem turn_in {ks : List Int} {k : Int} (h : KBa.In ks) (h0 : 0 ≤ k) (h1 : k < 8 * (ks.length : Int)) : KBa.In (turn ks k) := by
  rw [turn_set h0 h1]
  intro n hn
  rcases List.mem_or_eq_of_mem_set hn with hn | rfl
  · exact h n hn
  · have g := getD_in h (k / 8).toNat
    exact way_in g.1 g.2 (mod8 k)
theorem turn_turn {ks : List Int} {k : Int} (h : KBa.In ks) (h0 : 0 ≤ k) (h1 : k < 8 * (ks.length : Int)) : turn (turn ks k) k = ks := by
  have hl := turn_length h0 h1
  have hq : (k / 8).toNat < ks.length := by omega
  have g := getD_in h (k / 8).toNat
  rw [turn_set h0 (by rw [hl]; exact h1), turn_set h0 h1]
  have e : (ks.set (k / 8).toNat (way (ks.getD (k / 8).toNat 0) (k % 8).toNat)).getD (k / 8).toNat 0 = way (ks.getD (k / 8).toNat 0) (k % 8).toNat := by simp [List.getD, hq]
  rw [e, way_way g.1 g.2 (mod8 k), List.set_set]
  apply List.ext_getElem (by simp)
  intro i h1' h2'
  by_cases hi : (k / 8).toNat = i
  · subst hi; simp [List.getD, hq]
  · simp [hi]
theorem turn_comm {ks : List Int} {k o : Int} (h0 : 0 ≤ k) (h1 : k < 8 * (ks.length : Int)) (g0 : 0 ≤ o) (g1 : o < 8 * (ks.length : Int)) : turn (turn ks k) o = turn (turn ks o) k := by
  have hl := turn_length h0 h1
  have gl := turn_length g0 g1
  have hq : (k / 8).toNat < ks.length := by omega
  have gq : (o / 8).toNat < ks.length := by omega
  rw [turn_set (ks := turn ks k) g0 (by rw [hl]; exact g1), turn_set (ks := turn ks o) h0 (by rw [gl]; exact h1), turn_set h0 h1, turn_set g0 g1]
  by_cases e : (k / 8).toNat = (o / 8).toNat
  · rw [e] at hq ⊢
    have e1 : ∀ v, (ks.set (o / 8).toNat v).getD (o / 8).toNat 0 = v := fun v => by simp [List.getD, gq]
    rw [e1, e1, List.set_set, List.set_set, way_comm (mod8 k) (mod8 o)]
  · have e1 : ∀ v, (ks.set (k / 8).toNat v).getD (o / 8).toNat 0 = ks.getD (o / 8).toNat 0 := fun v => by simp [List.getD, e]
    have e2 : ∀ v, (ks.set (o / 8).toNat v).getD (k / 8).toNat 0 = ks.getD (k / 8).toNat 0 := fun v => by simp [List.getD, Ne.symm e]
    rw [e1, e2, List.set_comm _ _ e]
theorem bitAt_eq (k j : Int) : bitAt k j = k / 2 ^ j.toNat % 2 := by
  unfold bitAt
  have hp : (0 : Int) ≤ 2 ^ j.toNat := Int.le_of_lt (kbt_pos j.toNat)
  rw [Int.fdiv_eq_ediv_of_nonneg k hp, Int.fmod_eq_emod_of_nonneg _ (by decide)]
/-- the eight bits of an octet -/
def block (k : Int) : List Int := (rangeKs 0 8).map (bitAt k)
theorem block_length (k : Int) : (block k).length = 8 := by simp [block, rangeKs]
theorem block_get (k : Int) {j : Nat} (hj : j < (block k).length) : (block k)[j] = k / 2 ^ j % 2 := by
  simp only [block, rangeKs, List.getElem_map, List.getElem_range, bitAt_eq]
  simp
theorem block_way {a : Int} {r : Nat} (hr : r < 8) : block (way a r) = (block a).set r (1 - (block a).getD r 0) := by
  have hr' : r < (block a).length := by rw [block_length]; exact hr
  have e : (block a).getD r 0 = a / 2 ^ r % 2 := by
    simp only [List.getD, List.getElem?_eq_getElem hr', Option.getD_some]
    exact block_get a hr'
  rw [e]
  apply List.ext_getElem (by rw [List.length_set, block_length, block_length])
  intro j h1 h2
  have hj : j < 8 := by rw [block_length] at h1; exact h1
  rw [block_get, List.getElem_set]
  by_cases q : r = j
  · subst q
    rw [if_pos rfl]
    exact way_bit hr
  · rw [if_neg q, block_get]
    exact way_off hr hj q
theorem gather_set (v : Int) : ∀ (ks : List Int) (q r : Nat), q < ks.length → r < 8 → block v = (block (ks.getD q 0)).set r (1 - (block (ks.getD q 0)).getD r 0) →
    gather bitAt (ks.set q v) = (gather bitAt ks).set (8 * q + r) (1 - (gather bitAt ks).getD (8 * q + r) 0)
  | [], q, r, hq, _, _ => absurd hq (Nat.not_lt_zero _)
  | k :: ks, 0, r, _, hr, e => by
    have hb : r < (block k).length := by rw [block_length]; exact hr
    show block v ++ gather bitAt ks = (block k ++ gather bitAt ks).set (8 * 0 + r) (1 - (block k ++ gather bitAt ks).getD (8 * 0 + r) 0)
    have e' : block v = (block k).set r (1 - (block k).getD r 0) := e
    rw [Nat.mul_zero, Nat.zero_add, List.set_append_left _ _ hb, e']
    simp only [List.getD, List.getElem?_append_left hb]
  | k :: ks, q + 1, r, hq, hr, e => by
    have ih := gather_set v ks q r (by simpa using hq) hr (by simpa using e)
    have hl := block_length k
    show block k ++ gather bitAt (ks.set q v) = (block k ++ gather bitAt ks).set (8 * (q + 1) + r) (1 - (block k ++ gather bitAt ks).getD (8 * (q + 1) + r) 0)
    have e2 : 8 * (q + 1) + r - (block k).length = 8 * q + r := by omega
    rw [ih, List.set_append_right _ _ (by omega), e2]
    simp only [List.getD]
    rw [List.getElem?_append_right (by omega), e2]
theorem turn_bits {ks : List Int} {k : Int} (h0 : 0 ≤ k) (h1 : k < 8 * (ks.length : Int)) :
    gather bitAt (turn ks k) = (gather bitAt ks).set k.toNat (1 - (gather bitAt ks).getD k.toNat 0) := by
  rw [turn_set h0 h1, gather_set _ ks (k / 8).toNat (k % 8).toNat (by omega) (mod8 k) (block_way (mod8 k))]
  have e : 8 * (k / 8).toNat + (k % 8).toNat = k.toNat := by omega
  rw [e]
end Mine
namespace Mine
theorem octets_inj : ∀ {l r : List UInt8}, (l.map fun c => (c.toNat : Int)) = (r.map fun c => (c.toNat : Int)) → l = r
  | [], [], _ => rfl
  | [], _ :: _, h => by simp at h
  | _ :: _, [], h => by simp at h
  | a :: l, b :: r, h => by
    simp only [List.map_cons, List.cons.injEq] at h
    have e : a = b := UInt8.toNat_inj.mp (Int.ofNat.inj h.1)
    rw [e, octets_inj h.2]
theorem same_bytes {b c : Array UInt8} {ks ls : List Int} (hb : KBw.bInts b = ks) (hc : KBw.bInts c = ls) (e : ks = ls) : b.toList = c.toList :=
  octets_inj (hb.trans (e.trans hc.symm))
def TurnPost (h₀ : Heap) (L : Addr) (m : Str → Option Value) (news : List (Addr × Obj)) (ks : List Int) (k : Int) (s : Shared) (v : Value) (s' : Shared) : Prop :=
  ∃ (b : Array UInt8) (t : Tok) (h : Heap) (tk : Nat), v = .bytes b t ∧ s' = { s with heap := h, toks := tk } ∧ KBw.bInts b = turn ks k ∧ Fr h₀ L h m ∧ News h₀ L h news
section
variable {prog : Program} {w : World} {A : Around} {E : Value → Shared → Prop} {Q : Value → Shared → Prop} {s : Shared} {h₀ : Heap} {L : Addr} {m : Str → Option Value} {news : List (Addr × Obj)}
theorem turn_join {M : Model} {f : Addr} {b : Array UInt8} {t u : Tok} {ks : List Int} {k : Int} (_F : Fr h₀ L s.heap m) (_N : News h₀ L s.heap news) (_hb : KBw.bInts b = ks) (h0 : 0 ≤ k) (h1 : k < 8 * (ks.length : Int))
    (hc : Mark → wpAny M A (call (.ref f) [.bytes b t, .int k u]) (TurnPost h₀ L m news ks k s) E s)
    (hk : ∀ (b : Array UInt8) (t : Tok) (h : Heap) (tk : Nat), KBw.bInts b = turn ks k → (turn ks k).length = ks.length → Fr h₀ L h m → News h₀ L h news → Q (.bytes b t) { s with heap := h, toks := tk }) :
    wpAny M A (call (.ref f) [.bytes b t, .int k u]) Q E s := by
  refine wpAny_mono (hc Mark.mk) (fun v s₂ hq => ?_) fun _ _ h => h
  obtain ⟨b', t', h, tk, hv, hs, hb', F, N⟩ := hq
  subst hv
  subst hs
  exact hk b' t' h tk hb' (turn_length h0 h1) F N
theorem turn_end {b : Array UInt8} {t : Tok} {ks : List Int} {k : Int} {q : Addr × Obj} {h : Heap} {tk : Nat} (hb : KBw.bInts b = List.take (clipAt ks.length (Int.fdiv k 8)) ks ++ [Builtin.bitXor (ks.getD (Int.fdiv k 8).toNat 0) (1 * 2 ^ (Int.fmod k 8).toNat)] ++
    List.take (ks.length - clipAt ks.length (Int.fdiv k 8 + 1)) (List.drop (clipAt ks.length (Int.fdiv k 8 + 1)) ks)) (F : Fr h₀ L h m) (N : News h₀ L h (q :: news)) :
    TurnPost h₀ L m news ks k s (.bytes b t) { s with heap := h, toks := tk } := ⟨b, t, h, tk, rfl, rfl, hb.trans (turn_def ks k).symm, F, fun p hp => N p (List.mem_cons_of_mem _ hp)⟩
theorem item_place {value slice : PySem.Expr} {b : Array UInt8} {t ui : Tok} {ks : List Int} {k : Int} (hk : KBw.bInts b = ks) (hz : ks.length ≤ 1099511627776) (h0 : 0 ≤ k) (h1 : k < 8 * (ks.length : Int))
    (h : ∀ t' tk, 0 ≤ ks.getD (Int.fdiv k 8).toNat 0 → ks.getD (Int.fdiv k 8).toNat 0 < 256 → Q (.int (ks.getD (Int.fdiv k 8).toNat 0) t') { s with toks := tk })
    (hs : subscripted slice false (.bytes b t) (.int (Int.fdiv k 8) ui) = operate [.bytes b t, .int (Int.fdiv k 8) ui] (getItem (.bytes b t) (.int (Int.fdiv k 8) ui)) := by with_unfolding_all rfl)
    (ht : ∀ r, letTemporaryGo value (.bytes b t) r = pure () := by intro _; with_unfolding_all rfl) :
    wpAny (model prog w) A (subscriptTail value slice (.bytes b t) (.int (Int.fdiv k 8) ui)) Q E s :=
  have e : Int.fdiv k 8 = k / 8 := Int.fdiv_eq_ediv_of_nonneg k (by decide)
  KBw.item_K hk hz (by omega) (by omega) h hs ht
theorem ne_octets {b c : Array UInt8} {t u : Tok} {ks ls : List Int} (hb : KBw.bInts b = ks) (hc : KBw.bInts c = ls) (e : ks = ls) (h : Q (.bool false) s) : wpAny (model prog w) A (compareOp .NotEq (.bytes b t) (.bytes c u)) Q E s := by
  refine ne_bytes ?_
  rw [same_bytes hb hc e, bne_self_eq_false]
  exact h
theorem eq_octets {b c : Array UInt8} {t u : Tok} {ks ls : List Int} (hb : KBw.bInts b = ks) (hc : KBw.bInts c = ls) (e : ks = ls) (h : Q (.bool true) s) : wpAny (model prog w) A (compareOp .Eq (.bytes b t) (.bytes c u)) Q E s := by
  refine eq_bytes ?_
  rw [same_bytes hb hc e, beq_self_eq_true]
  exact h
theorem ne_bits {a b : Addr} {xs ys : List Value} {ns ms : List Int} (ha : s.heap.IsList a xs.toArray) (hb : s.heap.IsList b ys.toArray) (hi : IntsAre xs ns) (hj : IntsAre ys ms) (hu : A.units + 64 < cLine) (e : ns = ms) (h : Q (.bool false) s) :
    wpAny (model prog w) A (compareOp .NotEq (.ref a) (.ref b)) Q E s := by
  refine ke_ne_ints ha hb hi hj hu ?_
  rw [decide_eq_true e]
  exact h
end
theorem bits_len {ys : List Value} {g : Int → Int → Int} {ks : List Int} (_h : IntsAre ys (gather g ks)) : (gather g ks).length = 8 * ks.length := gather_length g ks
/-- the end: the law hands back True -/
theorem good_true {l : OpenLaw} {cl : Str → Option Addr} {mean : ExcName → Option Value} {args : List WData} {s₁ s' : Shared} {L : Addr} {m : Str → Option Value} (F : Fr s₁.heap L s'.heap m) (hg : s'.gens = #[]) (hos : s'.os = s₁.os) :
    GoodW (l.row.toRowW).claim cl mean args s₁ (.ok (.ret (.bool true))) s' :=
  goodW_bool F hg (raisesW_false allW_false_nil) (postW_of rfl (by wtm_val) rfl) hos
end Mine
local macro_rules | `(tactic| walk_at "call type:bytes") => `(tactic| (k_here; (with_reducible show wpAny _ _ (call (Value.type "bytes") [Value.ref _]) _ _ _); k_dflt (refine' KBa.make_K ?kbaF ?kbaN ?kbah ?kbal ?kbai ?kbar ?kban ?_; (case kbaF => k_asm); (case kbaN => k_asm); (case kbah => rfl); (case kbal => kba_isList); (case kbai => kba_listInts); (case kbar => exact Mine.xor_in (by kba_bound) (by kba_bound)); (case kban => kba_size)); intro _ _ _ F' N' kbaIn; (have kbaS := KBa.sum_in kbaIn)))
-- _law_pool: its ways are joined
local macro_rules | `(tactic| walk_at "eval Call") => `(tactic| (k_here; (fail_if_success (rename Mine.Mark => zz)); (with_reducible show wpAny _ _ (eval (Expr.Call (Expr.Name (Str.ofString "_law_pool") _) _ _ _) _) _ _ _); k_dflt (refine' Mine.pool_join ?mF ?mN (fun hMark' => ?_) ?_; (case mF => k_asm); (case mN => k_asm); rotate_left; (intro l' a' ta' c' tc' n' h' tk' l1 hFine F' N'; (have hFa := Mine.Fine.a0 hFine); (have hFb := Mine.Fine.c0 hFine); (have hFc := Mine.Fine.c1 hFine); (try k_lt l1); (try k_sweep)); rotate_right)))
local macro_rules | `(tactic| walk_at "PoolPost") => `(tactic| (k_dflt (refine' Mine.pool_end ?pe ?pl ?pF ?pN; (case pF => assumption); (case pN => assumption); (case pe => first | decide | (split <;> omega)); (case pl => ((repeat' (first | exact List.forall_mem_nil _ | refine' List.forall_mem_cons.mpr (And.intro (ltN ?_) ?_))); all_goals (first | omega | ((try dsimp only); omega)))))))
-- the choice of a top: joined
local macro_rules | `(tactic| walk_at "eval IfExp") => `(tactic| (k_here; (fail_if_success (rename Mine.Mark => zz)); (with_reducible show wpAny _ _ (eval (Expr.IfExp _ (Expr.Constant _ _ _) (Expr.Constant _ _ _) _) _) _ _ _); k_dflt (refine' Mine.if_join 9 40 ?mF ?mN (fun hMark' => ?_) ?_; (case mF => k_asm); (case mN => k_asm); rotate_left; (intro d' t' h' tk' hlo' hhi' F' N'; (try k_sweep)); rotate_right)))
local macro_rules | `(tactic| walk_at "IfPost") => `(tactic| (k_dflt (refine' Mine.if_end ?h1 ?h2 ?pF ?pN; (case h1 => decide); (case h2 => decide); (case pF => assumption); (case pN => assumption))))
-- _law_take: joined
local macro_rules | `(tactic| walk_at "call ref") => `(tactic| (k_here; (fail_if_success (rename Mine.Mark => zz)); (with_reducible show wpAny _ _ (call (Value.ref _) [Value.ref _, Value.int _ _]) _ _ _); k_dflt (first
  | (refine' Mine.take_join0 ?mF ?mN ?mf ?mt (fun hMark' hTop' => ?_) ?_; (case mN => with_reducible assumption))
  | (refine' Mine.take_join1 ?mF ?mN ?mf ?mt (fun hMark' hTop' => ?_) ?_; (case mN => with_reducible assumption))
  | (refine' Mine.take_join3 ?mF ?mN ?mf ?mt (fun hMark' hTop' => ?_) ?_; (case mN => with_reducible assumption))); k_dflt (case mF => k_asm); k_dflt (case mf => assumption); (case mt => first | decide | omega); rotate_left; (intro d' t' a' ta' c' tc' n' h' tk' hlo' hhi' hFine' F' N'; (have hFa := Mine.Fine.a0 hFine'); (have hFb := Mine.Fine.c0 hFine'); (have hFc := Mine.Fine.c1 hFine'); (try simp only [List.cons_append, List.nil_append] at N'); (try k_sweep)); rotate_right))
local macro_rules | `(tactic| walk_at "TakePost") => `(tactic| (k_dflt (first
  | (refine' Mine.take_end1 ?hf ?ht ?pF ?pN; (case pN => assumption))
  | (refine' Mine.take_end2 ?hf ?ht ?pF ?pN; (case pN => assumption))); (case pF => assumption); (case hf => assumption); (case ht => assumption)))
-- the draws
local macro_rules | `(tactic| walk_at "CompSrc") => `(tactic| (k_here; (rename Mine.Fine _ _ => hFine9); (try kcf_lens); k_dflt (refine LCg.CompSrc.range (by rfl) (by k_asm) (by k_asm) (by assumption) (by first | exact small_one (by kcf_bnd) (by kcf_bnd) (by kcf_bnd) (by kcf_bnd) | decide) (by first | exact rangeSize_nat _ _ | rfl) (by first | exact Nat.le_of_ble_eq_true rfl | (rw [PySem.sizeLine_eq]; omega)) ?_; intro g'; (refine' Mine.draw_rest hFine9 (fun k' t' I' oI' C' oC' D' m' ys' h' tk' E' a' ta' c' tc' n' hFine' hC' hx' F' N' off' ne' => ?_) (fun ys' ks' a' ta' c' tc' n' hInts' hIn' hLen' hFine' => ?_))); (clear hFine9); (all_goals (rename Mine.Fine _ _ => hFine8; (have hFa := Mine.Fine.a0 hFine8); (have hFb := Mine.Fine.c0 hFine8); (have hFc := Mine.Fine.c1 hFine8))); (all_goals (try (simp only [LCg.Off3, and_true] at off'))); kcf_last))
local macro_rules | `(tactic| walk_at "FinE") => `(tactic| ((unfold LCg.FinE); (rename List.length _ = Int.toNat _ => hLen9); (have hLenA : 1 ≤ List.length _ := Mine.len_lo hLen9 (by omega)); (have hLenB : List.length _ ≤ 40 := Mine.len_hi hLen9 (by omega)); (clear hLen9); intro D' h' tk' F' N' o1'; (try simp only [LCg.Off1, and_true] at o1'); (try simp only [List.nil_append, List.cons_append] at N'); (try dsimp only)))
local macro_rules | `(tactic| walk_at "DrawEl") => `(tactic| (k_dflt (first | (refine' Mine.draw_el0 ?d0 ?d1 ?dh; (case d0 => assumption); (case d1 => assumption); (case dh => assumption)) | (refine' Mine.draw_el1 ?dh; (case dh => assumption)) | (refine' Mine.draw_el2 ?dh; (case dh => assumption)))))
-- the source's two ints, read
local macro_rules | `(tactic| walk_at "subscriptTail Name Constant ref int") => `(tactic| (k_here; k_dflt (first
  | ((with_reducible show wpAny _ _ (subscriptTail _ _ (Value.ref _) (Value.int 0 _)) _ _ _); refine' Mine.two_0 ?tN ?tm ?_; (case tN => k_asm); (case tm => k_mem))
  | ((with_reducible show wpAny _ _ (subscriptTail _ _ (Value.ref _) (Value.int 1 _)) _ _ _); refine' Mine.two_1 ?tN ?tm ?_; (case tN => k_asm); (case tm => k_mem)))))
-- the bits: a comprehension of two fors
local macro_rules | `(tactic| walk_at "eval ListComp") => `(tactic| (k_here; (with_reducible show wpAny _ _ (eval (Expr.ListComp _ [_, _] _ _) _) _ _ _); k_dflt (refine Mine.bits_comp Mine.bitAt (F₀ := by k_asm) (by with_unfolding_all rfl) (by decide) (by rfl) (by decide) (by rfl) (by rfl) (by decide) ?_)))
local macro_rules | `(tactic| walk_at "BitsSrc") => `(tactic| (k_here; k_dflt (refine' Mine.bits_src ?bk rfl ?bF ?bN ?bz ?_ ?_ ?_; (case bk => kba_ints); (case bF => k_asm); (case bN => k_asm); (case bz => ((rw [PySem.sizeLine_eq]); kba_size)))))
local macro_rules | `(tactic| walk_at "RangeAt") => `(tactic| ((unfold Mine.RangeAt); intro I' oI' C' oC' D' m' ys' h' tk' E' hC' F' N'; (try k_fold)))
local macro_rules | `(tactic| walk_at "EltAt") => `(tactic| ((unfold Mine.EltAt); intro k' t' j' u' J' oJ' I' oI' C' oC' D' m' ys' h' tk' E' hk0' hk1' hj0' hj1' hC' hx' hy' F' N'; (try k_fold)))
local macro_rules | `(tactic| walk_at "FinAt") => `(tactic| ((unfold Mine.FinAt); intro D' h' tk' ys' F' N' o1' hBits'; (have hGl' := Mine.bits_len hBits'); (try k_lt o1'); (try dsimp only)))
local macro_rules | `(tactic| walk_at "RangePost") => `(tactic| (k_dflt (refine' Mine.range_post ?rr ?rk; (case rr => assumption); (case rk => assumption))))
local macro_rules | `(tactic| walk_at "EltPost") => `(tactic| (k_dflt (exact Mine.elt_post rfl)))
-- with_bit_turned upon octets: one value
local macro_rules | `(tactic| walk_at "call ref") => `(tactic| (k_here; (fail_if_success (rename Mine.Mark => zz)); (with_reducible show wpAny _ _ (call (Value.ref _) [Value.bytes _ _, Value.int _ _]) _ _ _); k_dflt (refine' Mine.turn_join ?jF ?jN ?jb ?j0 ?j1 (fun hMark' => ?_) ?_; (case jF => k_asm); (case jN => k_asm); (case jb => kba_ints)); (case j0 => omega); (case j1 => omega); rotate_left; (intro b' t' h' tk' hInts' hLen' F' N'; (try k_sweep)); rotate_right))
local macro_rules | `(tactic| walk_at "TurnPost") => `(tactic| (k_dflt (refine' Mine.turn_end ?tb ?tF ?tN; (case tN => with_reducible assumption); (case tF => with_reducible assumption); (case tb => with_reducible assumption))))
-- what is equal
local macro_rules | `(tactic| walk_at "compareOp NotEq bytes bytes") => `(tactic| (k_here; k_dflt (refine' Mine.ne_octets ?xa ?xb ?xe ?_; (case xa => kba_ints); (case xb => kba_ints); (case xe => exact Mine.turn_turn (by assumption) (by omega) (by omega)))))
local macro_rules | `(tactic| walk_at "compareOp Eq bytes bytes") => `(tactic| (k_here; k_dflt (refine' Mine.eq_octets ?xa ?xb ?xe ?_; (case xa => kba_ints); (case xb => kba_ints); (case xe => exact Mine.turn_comm (by omega) (by omega) (by omega) (by omega)))))
local macro_rules | `(tactic| walk_at "compareOp NotEq ref ref") => `(tactic| (k_here; k_dflt (refine' Mine.ne_bits ?ya ?yb ?yi ?yj ?yu ?ye ?_; (case ya => is_list); (case yb => is_list); (case yi => l_ints); (case yj => l_ints); (case yu => ke_room); (case ye => exact Mine.turn_bits (by omega) (by omega)))))
-- octets glued: by the facts at hand alone
local macro_rules | `(tactic| walk_at "binaryOp Add bytes bytes") => `(tactic| (k_here; (with_reducible show wpAny _ _ (binaryOp Operator.Add (Value.bytes _ _) (Value.bytes _ _)) _ _ _); k_dflt (refine' KBa.add_K ?aa ?ab ?az ?_; (case aa => first | with_reducible assumption | exact KBa.ints_make (by with_reducible assumption)); (case ab => first | with_reducible assumption | exact KBa.ints_make (by with_reducible assumption)); (case az => ((try simp only [List.length_append, List.length_cons, List.length_nil, List.length_take, List.length_drop]); omega))); intro _ _ kbaApp))
local macro_rules | `(tactic| walk_at "subscriptTail") => `(tactic| (k_here; (with_reducible show wpAny _ _ (subscriptTail _ (Expr.Slice _ _ none _) (Value.bytes _ _) (Value.ref _)) _ _ _); (with_reducible rename Fr _ _ _ _ => F'); (with_reducible rename News _ _ _ _ => N'); k_dflt (refine KBc.slice_K (s := ⟨_, _, _, _, _⟩) F' N' (by first | with_reducible assumption | exact KBa.ints_make (by with_reducible assumption)) (by constructor) (by constructor) (by omega) ?_); intro _ _ _ _ _ kbcK; (try simp only [Option.elim, KBc.clip_lit, clipAt_nat, List.drop_zero, Nat.sub_zero] at kbcK)))
-- the end
local macro_rules | `(tactic| wrow_close) => `(tactic| (w_end; (with_reducible show GoodW _ _ _ _ _ (.ok (.ret (.bool true))) _); exact Mine.good_true (by with_reducible assumption) (by with_reducible assumption) rfl))
local macro_rules | `(tactic| walk_at "subscriptTail") => `(tactic| (k_here; (with_reducible show wpAny _ _ (subscriptTail _ _ (Value.bytes _ _) (Value.int (Int.fdiv _ 8) _)) _ _ _); k_dflt (refine' Mine.item_place ?pa ?pz ?p0 ?p1 ?_; (case pa => first | with_reducible assumption | exact KBa.ints_make (by with_reducible assumption)); (case pz => omega); (case p0 => omega); (case p1 => omega)); intro _ _ kbaLo kbaHi))
set_option maxRecDepth 100000 in
set_option maxHeartbeats 40000000 in
theorem PySem.Challenge.cw_xw0320_01_holds : PySem.Challenge.rw_xw0320_01.Holds := by
  open_k
