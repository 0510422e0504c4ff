import PyProof.Rows.All
import Wide.All
import OpenK.AllK
import Wide.FinOn
import PySem.Challenge.RW_xm0738_01
open PySem PySem.W PyProof.Rows
set_option Elab.async false
namespace Mine
set_option maxRecDepth 100000 in
set_option maxHeartbeats 8000000 in
open_top hd for PySem.Challenge.rw_xm0738_01
section
local macro_rules | `(tactic| k_all) => `(tactic| with_reducible assumption)


inductive Pick (d : Addr) (o : Obj) : List (Addr × Obj) → List (Addr × Obj) → Prop
  | head {r} : Pick d o ((d, o) :: r) r
  | tail {p r r'} : Pick d o r r' → Pick d o (p :: r) (p :: r')
theorem Pick.news {h₀ h : Heap} {L d : Addr} {o : Obj} {l r : List (Addr × Obj)} (P : Pick d o l r) (N : News h₀ L h l) : News h₀ L h ((d, o) :: r) := by
  induction P with
  | head => exact N
  | @tail p r r' _ ih =>
    have h1 := ih fun q hq => N q (.tail _ hq)
    intro q hq
    rcases List.mem_cons.mp hq with rfl | hq
    · exact h1 _ (.head _)
    · rcases List.mem_cons.mp hq with rfl | hq
      · exact N _ (.head _)
      · exact h1 _ (.tail _ hq)

theorem fmod_facts {k : Int} (hk : 0 < k) (a : Int) : 0 ≤ a.fmod k ∧ a.fmod k < k := by
  rw [Int.fmod_eq_emod_of_nonneg _ (Int.le_of_lt hk)]
  exact ⟨Int.emod_nonneg _ (by omega), Int.emod_lt_of_pos _ hk⟩

set_option maxRecDepth 100000 in
set_option maxHeartbeats 8000000 in
theorem take_spec {w : World} {loose : List Str} {mean : ExcName → Option Value} {mg mb : Str → Option Value} {dp un : Nat} {gd : Option (List Code)} {cn : Str} {cs : Scope} {a : Addr} {ccd : Value} {cl : List (Str × Addr)} {outer : List Env}
    {A₀ : Around} {base h₀ : Heap} {L : Addr} {m : Str → Option Value} {s : Shared} {Q E : Value → Shared → Prop} {src : Addr} {n : Nat} {x y top : Int} {tx ty tt : Tok} {led news : List (Addr × Obj)}
    (B : Below A₀ base outer h₀) (F : Fr h₀ L s.heap m) (X : (hd.heap_39 w.params).In h₀)
    (N : News h₀ L s.heap led) (P : Pick src (listOf [.int x tx, .int y ty].toArray n) led news) (T : Top hd.view_39 loose mean mg mb h₀) (hk : cs.kind = .function)
    (hoff : ∀ p ∈ news, p.1 ≠ src) (hx : 0 ≤ x) (hy : 0 ≤ y) (hy2 : y < 2147483647) (ht : 0 < top) (ht2 : top ≤ 65536) (hdp : dp + 3 < recursionLimit)
    (hret : ∀ (d x' y' : Int) (t tx' ty' : Tok) (n' : Nat) (h' : Heap) (tk' : Nat), 0 ≤ d → d < top → 0 ≤ x' → 0 ≤ y' → y' < 2147483647 →
      Fr h₀ L h' m → News h₀ L h' ((src, listOf [.int x' tx', .int y' ty'].toArray n') :: news) → Q (.int d t) { s with heap := h', toks := tk' }) :
    wpAny (model PySem.Challenge.rw_xm0738_01.row.prog w) (ktrTop dp un gd cn cs L a ccd cl outer) (call (.ref 45) [.ref src, .int top tt]) Q E s := by
  w_top off
  revert X; k_fill; intro X
  replace N := P.news N
  refine wpAny_call ?_
  k_dflt ktr_enter
  k_steps
  · refine hret _ _ _ _ _ _ _ _ _ ?a1 ?a2 ?a3 ?a4 ?a5 (by k_asm) (by k_asm)
    case a1 => exact (fmod_facts ht _).1
    case a2 => exact (fmod_facts ht _).2
    case a3 => exact Int.fdiv_nonneg hx (Int.le_of_lt ht)
    case a4 => exact hy
    case a5 => exact hy2
  · have hb := fmod_facts (k := 2147483647) (by decide) (y * 39373 + 7)
    refine mul_int ?_ (PySem.IntMulOk.of_right (PySem.intBits_le_64 ?b1 ?b2))
    case b1 => exact Int.le_trans (by decide) hb.1
    case b2 => exact Int.lt_trans hb.2 (by decide)
    k_steps
    refine hret _ _ _ _ _ _ _ _ _ ?a1 ?a2 ?a3 ?a4 ?a5 (by k_asm) (by k_asm)
    case a1 => exact (fmod_facts ht _).1
    case a2 => exact (fmod_facts ht _).2
    case a3 => exact hx
    case a4 => exact hb.1
    case a5 => exact hb.2
end
section
theorem news_drop2 {h₀ h : Heap} {L : Addr} {p q : Addr × Obj} {r : List (Addr × Obj)} (N : News h₀ L h (p :: q :: r)) : News h₀ L h (p :: r) := fun z hz => by
  rcases List.mem_cons.mp hz with rfl | hz
  · exact N _ (.head _)
  · exact N _ (.tail _ (.tail _ hz))
theorem getD_mem {ns : List Int} {i : Nat} (h : i < ns.length) : ns.getD i 0 ∈ ns := by
  rw [List.getD_eq_getElem?_getD, List.getElem?_eq_getElem h]
  exact List.getElem_mem h
local macro_rules | `(tactic| k_all) => `(tactic| with_reducible assumption)
local macro_rules | `(tactic| walk_at "call ref") => `(tactic| (k_here; k_dflt (refine' take_spec ?tB ?tF ?tX ?tN ?tP ?tT ?tk ?toff ?tx ?ty ?ty2 ?tt ?tt2 ?td ?_; (case tB => k_asm); (case tF => k_asm); (case tX => k_asm); (case tN => k_asm); (case tP => first | exact Pick.head | exact Pick.tail Pick.head | exact Pick.tail (Pick.tail Pick.head)); (case tT => k_asm); (case tk => first | exact rfl | assumption); (case toff => k_all); (case tx => assumption); (case ty => assumption); (case ty2 => assumption); (case tt => first | assumption | omega); (case tt2 => first | assumption | omega); (case td => ktr_room); k_whole); intro d' x' y' t' tx' ty' n' h' tk' hd0' hd1' hx' hy' hy2' F' N'; (try k_sweep); (try dsimp only); (try k_fold)))

set_option maxRecDepth 100000 in
set_option maxHeartbeats 8000000 in
theorem one_spec {w : World} {loose : List Str} {mean : ExcName → Option Value} {mg mb : Str → Option Value} {dp un : Nat} {gd : Option (List Code)} {cn : Str} {cs : Scope} {a : Addr} {ccd : Value} {cl : List (Str × Addr)} {outer : List Env}
    {A₀ : Around} {base h₀ : Heap} {L : Addr} {m : Str → Option Value} {s : Shared} {Q E : Value → Shared → Prop} {src tg : Addr} {n k : Nat} {x y : Int} {tx ty : Tok} {led news : List (Addr × Obj)} {vs : List Value} {ns : List Int}
    (B : Below A₀ base outer h₀) (F : Fr h₀ L s.heap m) (X : (hd.heap_39 w.params).In h₀)
    (N : News h₀ L s.heap led) (P : Pick src (listOf [.int x tx, .int y ty].toArray n) led news) (M : (tg, listOf vs.toArray k) ∈ news) (T : Top hd.view_39 loose mean mg mb h₀) (hk : cs.kind = .function)
    (hoff : ∀ p ∈ news, p.1 ≠ src) (hx : 0 ≤ x) (hy : 0 ≤ y) (hy2 : y < 2147483647) (hi : IntsAre vs ns) (hn : 0 < ns.length) (hn2 : ns.length < 100) (hdp : dp + 6 < recursionLimit)
    (hret : ∀ (d x' y' : Int) (t tx' ty' : Tok) (n' : Nat) (h' : Heap) (tk' : Nat), d ∈ ns → 0 ≤ x' → 0 ≤ y' → y' < 2147483647 →
      Fr h₀ L h' m → News h₀ L h' ((src, listOf [.int x' tx', .int y' ty'].toArray n') :: news) → Q (.int d t) { s with heap := h', toks := tk' }) :
    wpAny (model PySem.Challenge.rw_xm0738_01.row.prog w) (ktrTop dp un gd cn cs L a ccd cl outer) (call (.ref 52) [.ref src, .ref tg]) Q E s := by
  w_top off
  revert X; k_fill; intro X
  replace N := P.news N
  have hne : tg ≠ src := hoff _ M
  replace N : News h₀ L s.heap ((src, listOf [.int x tx, .int y ty].toArray n) :: (tg, listOf vs.toArray k) :: news) := fun p hp => by
    rcases List.mem_cons.mp hp with rfl | hp
    · exact N _ (.head _)
    · rcases List.mem_cons.mp hp with rfl | hp
      · exact N _ (.tail _ M)
      · exact N _ (.tail _ hp)
  refine wpAny_call ?_
  k_dflt ktr_enter
  k_steps
  refine hret _ _ _ _ _ _ _ _ _ ?a1 ?a2 ?a3 ?a4 (by k_asm) (by exact news_drop2 (by k_asm))
  case a1 =>
    rename_i d' x' y' t' tx' ty' n' h' tk' hd0' hd1' hx' hy' hy2' F' N' t9 kF kN Tc kX
    exact getD_mem (by omega)
  case a2 => assumption
  case a3 => assumption
  case a4 => assumption
end
section
local macro_rules | `(tactic| k_all) => `(tactic| with_reducible assumption)
local macro_rules | `(tactic| walk_at "call ref") => `(tactic| (k_here; k_dflt (refine' take_spec ?tB ?tF ?tX ?tN ?tP ?tT ?tk ?toff ?tx ?ty ?ty2 ?tt ?tt2 ?td ?_; (case tB => k_asm); (case tF => k_asm); (case tX => k_asm); (case tN => k_asm); (case tP => first | exact Pick.head | exact Pick.tail Pick.head | exact Pick.tail (Pick.tail Pick.head) | exact Pick.tail (Pick.tail (Pick.tail Pick.head)) | exact Pick.tail (Pick.tail (Pick.tail (Pick.tail Pick.head)))); (case tT => k_asm); (case tk => first | exact rfl | assumption); (case toff => k_all); (case tx => assumption); (case ty => assumption); (case ty2 => assumption); (case tt => first | assumption | omega); (case tt2 => first | assumption | omega); (case td => ktr_room); k_whole); intro d' x' y' t' tx' ty' n' h' tk' hd0' hd1' hx' hy' hy2' F' N'; (try k_sweep); (try dsimp only); (try k_fold)))
local macro_rules | `(tactic| walk_at "call ref") => `(tactic| (k_here; k_dflt (refine' one_spec ?tB ?tF ?tX ?tN ?tP ?tM ?tT ?tk ?toff ?tx ?ty ?ty2 ?ti ?tn ?tn2 ?td ?_; (case tB => k_asm); (case tF => k_asm); (case tX => k_asm); (case tN => k_asm); (case tP => first | exact Pick.head | exact Pick.tail Pick.head | exact Pick.tail (Pick.tail Pick.head) | exact Pick.tail (Pick.tail (Pick.tail Pick.head)) | exact Pick.tail (Pick.tail (Pick.tail (Pick.tail Pick.head)))); (case tM => k_mem); (case tT => k_asm); (case tk => first | exact rfl | assumption); (case toff => k_all); (case tx => assumption); (case ty => assumption); (case ty2 => assumption); (case ti => first | exact (IntsAre.cons _ _ (IntsAre.cons _ _ (IntsAre.cons _ _ (IntsAre.cons _ _ (IntsAre.cons _ _ IntsAre.nil))))) | exact (IntsAre.cons _ _ (IntsAre.cons _ _ (IntsAre.cons _ _ (IntsAre.cons _ _ (IntsAre.cons _ _ (IntsAre.cons _ _ (IntsAre.cons _ _ IntsAre.nil)))))))); (case tn => (simp only [List.length_cons, List.length_nil]; omega)); (case tn2 => (simp only [List.length_cons, List.length_nil]; omega)); (case td => ktr_room); k_whole); intro d' x' y' t' tx' ty' n' h' tk' hd0' hx' hy' hy2' F' N'; (try k_sweep); (try dsimp only); (try k_fold)))
theorem sum_vals {d e : Int} (h : d ∈ [0, 1, 2 ^ Int.toNat 31, 2 ^ Int.toNat 32 - 1, e * 65521 + 5]) (h0 : 0 ≤ e) (h1 : e < 65536) : 0 ≤ d ∧ d < 4294967296 := by
  have e1 : (2 : Int) ^ Int.toNat 31 = 2147483648 := by decide
  have e2 : (2 : Int) ^ Int.toNat 32 = 4294967296 := by decide
  rw [e1, e2] at h
  simp only [List.mem_cons, List.not_mem_nil, or_false] at h
  omega
set_option maxRecDepth 100000 in
set_option maxHeartbeats 8000000 in
theorem sum_spec {w : World} {loose : List Str} {mean : ExcName → Option Value} {mg mb : Str → Option Value} {dp un : Nat} {gd : Option (List Code)} {cn : Str} {cs : Scope} {a : Addr} {ccd : Value} {cl : List (Str × Addr)} {outer : List Env}
    {A₀ : Around} {base h₀ : Heap} {L : Addr} {m : Str → Option Value} {s : Shared} {Q E : Value → Shared → Prop} {src : Addr} {n : Nat} {x y : Int} {tx ty : Tok} {led news : List (Addr × Obj)}
    (B : Below A₀ base outer h₀) (F : Fr h₀ L s.heap m) (X : (hd.heap_39 w.params).In h₀)
    (N : News h₀ L s.heap led) (P : Pick src (listOf [.int x tx, .int y ty].toArray n) led news) (T : Top hd.view_39 loose mean mg mb h₀) (hk : cs.kind = .function)
    (hoff : ∀ p ∈ news, p.1 ≠ src) (hx : 0 ≤ x) (hy : 0 ≤ y) (hy2 : y < 2147483647) (hdp : dp + 9 < recursionLimit)
    (hret : ∀ (d x' y' : Int) (t tx' ty' : Tok) (n' : Nat) (h' : Heap) (tk' : Nat), 0 ≤ d → d < 4294967296 → 0 ≤ x' → 0 ≤ y' → y' < 2147483647 →
      Fr h₀ L h' m → News h₀ L h' ((src, listOf [.int x' tx', .int y' ty'].toArray n') :: news) → Q (.int d t) { s with heap := h', toks := tk' }) :
    wpAny (model PySem.Challenge.rw_xm0738_01.row.prog w) (ktrTop dp un gd cn cs L a ccd cl outer) (call (.ref 64) [.ref src]) Q E s := by
  w_top off
  revert X; k_fill; intro X
  replace N := P.news N
  refine wpAny_call ?_
  k_dflt ktr_enter
  k_steps
  have hd9 := sum_vals (by assumption) (by assumption) (by assumption)
  refine hret _ _ _ _ _ _ _ _ _ hd9.1 hd9.2 ?a2 ?a3 ?a4 (by k_asm) (by exact news_drop2 (by k_asm))
  case a2 => assumption
  case a3 => assumption
  case a4 => assumption
end
section
theorem news_sl {h₀ h : Heap} {L : Addr} {l l' : List (Addr × Obj)} (N : News h₀ L h l) (S : l'.Sublist l) : News h₀ L h l' := fun p hp => N p (S.subset hp)
theorem oct_vals {d e : Int} (h : d ∈ [0, 0, 1, 127, 128, 255, e]) (h0 : 0 ≤ e) (h1 : e < 256) : 0 ≤ d ∧ d < 256 := by
  simp only [List.mem_cons, List.not_mem_nil, or_false] at h
  omega
section
variable {prog : Program} {w : World} {A : Around} {E : Value → Shared → Prop} {s : Shared} {h₀ : Heap} {L : Addr} {m : Str → Option Value} {env : Env}
theorem comp_inv {elt : Expr} {x : Str} {scope : Scope} {cl : List (Str × Addr)} {S : List (Addr × Obj) → Prop} {P : Nat → Value → Prop} {Fin : List Value → List (Addr × Obj) → Prop} (I : Nat → List Value → List (Addr × Obj) → Prop) (n : Nat)
    (turn : ∀ i ys nw, i < n → I i ys nw → ∀ v a oI C oC D m₂ h tk (E' : Value → Shared → Prop), P i v → LCg.NsObj oC m₂ → m₂ x = some v → Fr h₀ L h m → News h₀ L h ((a, oI) :: (C, oC) :: (D, LCg.lst ys) :: nw) → LCg.Off3 a C D nw → ((@Ne Nat a C) ∧ (@Ne Nat a D) ∧ (@Ne Nat C D)) →
      wpAny (model prog w) A (eval elt (compEnvC scope cl C env)) (LCg.CompEnd h₀ L m { s with heap := h, toks := tk } a oI C oC D (LCg.lst ys) S (fun y nw' => I (i + 1) (ys ++ [y]) nw')) E' { s with heap := h, toks := tk })
    (fin : ∀ ys nw, I n ys nw → Fin ys nw) : ∀ k i ys nw, i + k = n → I i ys nw → LCg.CompRest prog w A h₀ L m env elt x scope cl s S P Fin k i ys nw
  | 0, i, ys, nw, e, h => LCg.CompRest.zero (fin ys nw (by rw [← e]; exact h))
  | k + 1, i, ys, nw, e, h => LCg.CompRest.succ fun v a oI C oC D m₂ g tk E' hP hC hx F N off ne =>
      wpAny_mono (turn i ys nw (by omega) h v a oI C oC D m₂ g tk E' hP hC hx F N off ne)
        (fun y s₂ ⟨h', tk', nw', e1, F', N', off', hS, r⟩ => ⟨h', tk', nw', e1, F', N', off', hS, comp_inv I n turn fin k (i + 1) _ _ (by omega) r⟩) fun _ _ z => z

theorem oct_comp {elt : Expr} {z : Str} {scope : Scope} {cl : List (Str × Addr)} {P : Nat → Value → Prop} {Fin : List Value → List (Addr × Obj) → Prop} {src : Addr} {n k : Nat} {x y : Int} {tx ty : Tok} {tail : List (Addr × Obj)}
    (hx : 0 ≤ x) (hy : 0 ≤ y) (hy2 : y < 2147483647)
    (turn : ∀ (i : Nat) (ys : List Value) (ks : List Int) (x y : Int) (tx ty : Tok) (n : Nat), 0 ≤ x → 0 ≤ y → y < 2147483647 → IntsAre ys ks → KBa.In ks →
      ∀ v a oI C oC D m₂ h tk (E' : Value → Shared → Prop), P i v → LCg.NsObj oC m₂ → m₂ z = some v → Fr h₀ L h m → News h₀ L h ((a, oI) :: (C, oC) :: (D, LCg.lst ys) :: (src, listOf [.int x tx, .int y ty].toArray n) :: tail) → LCg.Off3 a C D ((src, listOf [.int x tx, .int y ty].toArray n) :: tail) → ((@Ne Nat a C) ∧ (@Ne Nat a D) ∧ (@Ne Nat C D)) →
      wpAny (model prog w) A (eval elt (compEnvC scope cl C env)) (LCg.CompEnd h₀ L m { s with heap := h, toks := tk } a oI C oC D (LCg.lst ys) (fun _ => True) (fun v' nw' => ∃ (d x' y' : Int) (t tx' ty' : Tok) (n' : Nat), v' = .int d t ∧ nw' = (src, listOf [.int x' tx', .int y' ty'].toArray n') :: tail ∧ 0 ≤ d ∧ d < 256 ∧ 0 ≤ x' ∧ 0 ≤ y' ∧ y' < 2147483647)) E' { s with heap := h, toks := tk })
    (fin : ∀ (ys : List Value) (ks : List Int) (x y : Int) (tx ty : Tok) (n : Nat), 0 ≤ x → 0 ≤ y → y < 2147483647 → IntsAre ys ks → KBa.In ks → ks.length = k → Fin ys ((src, listOf [.int x tx, .int y ty].toArray n) :: tail)) :
    LCg.CompRest prog w A h₀ L m env elt z scope cl s (fun _ => True) P Fin k 0 [] ((src, listOf [.int x tx, .int y ty].toArray n) :: tail) := by
  refine comp_inv (fun i ys nw => ∃ (x y : Int) (tx ty : Tok) (n : Nat) (ks : List Int), nw = (src, listOf [.int x tx, .int y ty].toArray n) :: tail ∧ 0 ≤ x ∧ 0 ≤ y ∧ y < 2147483647 ∧ IntsAre ys ks ∧ ks.length = i ∧ KBa.In ks) k ?_ ?_ k 0 [] _ (Nat.zero_add k)
    ⟨x, y, tx, ty, n, [], rfl, hx, hy, hy2, .nil, rfl, fun _ h => nomatch h⟩
  · rintro i ys nw hi ⟨x, y, tx, ty, n, ks, rfl, hx, hy, hy2, hI, hl, hr⟩ v a oI C oC D m₂ h tk E' hP hC hz F N off ne
    refine wpAny_mono (turn i ys ks x y tx ty n hx hy hy2 hI hr v a oI C oC D m₂ h tk E' hP hC hz F N off ne) (fun v' s₂ h₂ => ?_) fun _ _ e => e
    obtain ⟨h', tk', nw', e1, F', N', off', hS, d, x', y', t, tx', ty', n', rfl, rfl, d0, d1, hx', hy', hy2'⟩ := h₂
    refine ⟨h', tk', _, e1, F', N', off', hS, x', y', tx', ty', n', ks ++ [d], rfl, hx', hy', hy2', ?_, by simp [hl], ?_⟩
    · exact hI.append (.cons d t .nil)
    · intro q hq
      rcases List.mem_append.mp hq with hq | hq
      · exact hr q hq
      · rw [List.mem_singleton.mp hq]; exact ⟨d0, d1⟩
  · rintro ys nw ⟨x, y, tx, ty, n, ks, rfl, hx, hy, hy2, hI, hl, hr⟩
    exact fin ys ks x y tx ty n hx hy hy2 hI hr hl
theorem oct_end {I C D src l : Addr} {oI oC oD o ol : Obj} {tail : List (Addr × Obj)} {h' : Heap} {tk : Nat} {rest : Value → List (Addr × Obj) → Prop} {y : Value} {s₁ : Shared} (F : Fr h₀ L h' m)
    (N : News h₀ L h' ((src, o) :: (l, ol) :: (I, oI) :: (C, oC) :: (D, oD) :: tail)) (off : ((@Ne Nat src I) ∧ (@Ne Nat src C) ∧ (@Ne Nat src D)) ∧ LCg.Off3 I C D tail) (r : rest y ((src, o) :: tail)) :
    LCg.CompEnd h₀ L m s₁ I oI C oC D oD (fun _ => True) rest y { s₁ with heap := h', toks := tk } :=
  LCg.CompEnd.intro F N _ (List.forall_mem_cons.mpr ⟨.tail _ (.tail _ (.head _)), List.forall_mem_cons.mpr ⟨.tail _ (.tail _ (.tail _ (.head _))), List.forall_mem_cons.mpr ⟨.tail _ (.tail _ (.tail _ (.tail _ (.head _)))), List.forall_mem_cons.mpr ⟨.head _, fun _ hp => .tail _ (.tail _ (.tail _ (.tail _ (.tail _ hp))))⟩⟩⟩⟩) off trivial r
end
end
section
local macro_rules | `(tactic| k_all) => `(tactic| with_reducible assumption)
local macro_rules | `(tactic| walk_at "call ref") => `(tactic| (k_here; k_dflt (refine' take_spec ?tB ?tF ?tX ?tN ?tP ?tT ?tk ?toff ?tx ?ty ?ty2 ?tt ?tt2 ?td ?_; (case tB => k_asm); (case tF => k_asm); (case tX => k_asm); (case tN => k_asm); (case tP => first | exact Pick.head | exact Pick.tail Pick.head | exact Pick.tail (Pick.tail Pick.head) | exact Pick.tail (Pick.tail (Pick.tail Pick.head)) | exact Pick.tail (Pick.tail (Pick.tail (Pick.tail Pick.head)))); (case tT => k_asm); (case tk => first | exact rfl | assumption); (case toff => k_all); (case tx => assumption); (case ty => assumption); (case ty2 => assumption); (case tt => first | assumption | omega); (case tt2 => first | assumption | omega); (case td => ktr_room); k_whole); intro d' x' y' t' tx' ty' n' h' tk' hd0' hd1' hx' hy' hy2' F' N'; (try k_sweep); (try dsimp only); (try k_fold)))
local macro_rules | `(tactic| walk_at "call ref") => `(tactic| (k_here; k_dflt (refine' one_spec ?tB ?tF ?tX ?tN ?tP ?tM ?tT ?tk ?toff ?tx ?ty ?ty2 ?ti ?tn ?tn2 ?td ?_; (case tB => k_asm); (case tF => k_asm); (case tX => k_asm); (case tN => k_asm); (case tP => first | exact Pick.head | exact Pick.tail Pick.head | exact Pick.tail (Pick.tail Pick.head) | exact Pick.tail (Pick.tail (Pick.tail Pick.head)) | exact Pick.tail (Pick.tail (Pick.tail (Pick.tail Pick.head)))); (case tM => k_mem); (case tT => k_asm); (case tk => first | exact rfl | assumption); (case toff => k_all); (case tx => assumption); (case ty => assumption); (case ty2 => assumption); (case ti => first | exact (IntsAre.cons _ _ (IntsAre.cons _ _ (IntsAre.cons _ _ (IntsAre.cons _ _ (IntsAre.cons _ _ IntsAre.nil))))) | exact (IntsAre.cons _ _ (IntsAre.cons _ _ (IntsAre.cons _ _ (IntsAre.cons _ _ (IntsAre.cons _ _ (IntsAre.cons _ _ (IntsAre.cons _ _ IntsAre.nil)))))))); (case tn => (simp only [List.length_cons, List.length_nil]; omega)); (case tn2 => (simp only [List.length_cons, List.length_nil]; omega)); (case td => ktr_room); k_whole); intro d' x' y' t' tx' ty' n' h' tk' hd0' hx' hy' hy2' F' N'; (try k_sweep); (try dsimp only); (try k_fold)))
local macro_rules | `(tactic| walk_at "CompSrc") => `(tactic| (k_here; k_dflt (refine' LCg.CompSrc.range ?h ?F ?N ?r ?sm ?n ?sz ?_; (case h => rfl); (case F => k_asm); (case N => k_asm); (case r => assumption); (case sm => exact small_one (by omega) (by omega) (by omega) (by omega)); (case n => exact rangeSize_nat _ _); (case sz => (rw [sizeLine_eq]; omega))); intro g'; (k_dflt (refine' oct_comp ?a ?b ?c ?turn ?fin; (case a => assumption); (case b => assumption); (case c => assumption))); (case' turn => (intro i' ys' ks' x' y' tx' ty' n' hx' hy' hy2' hI' hR' v' a' oI' C' oC' D' m' h' tk' E' hP' hC' hz' F' N' off' ne'; (simp only [LCg.Off3, and_true] at off'); (try dsimp only))); (case' fin => (intro ys' ks' x' y' tx' ty' n' hx' hy' hy2' hI' hR' hl'))))
set_option maxRecDepth 100000 in
set_option maxHeartbeats 8000000 in
theorem octets_spec {w : World} {loose : List Str} {mean : ExcName → Option Value} {mg mb : Str → Option Value} {dp un : Nat} {gd : Option (List Code)} {cn : Str} {cs : Scope} {a : Addr} {ccd : Value} {cl : List (Str × Addr)} {outer : List Env}
    {A₀ : Around} {base h₀ : Heap} {L : Addr} {m : Str → Option Value} {s : Shared} {Q E : Value → Shared → Prop} {src : Addr} {n : Nat} {x y : Int} {tx ty : Tok} {led news : List (Addr × Obj)}
    (B : Below A₀ base outer h₀) (F : Fr h₀ L s.heap m) (X : (hd.heap_39 w.params).In h₀)
    (N : News h₀ L s.heap led) (P : Pick src (listOf [.int x tx, .int y ty].toArray n) led news) (T : Top hd.view_39 loose mean mg mb h₀) (hk : cs.kind = .function)
    (hoff : ∀ p ∈ news, p.1 ≠ src) (hx : 0 ≤ x) (hy : 0 ≤ y) (hy2 : y < 2147483647) (hdp : dp + 9 < recursionLimit)
    (hret : ∀ (b : Array UInt8) (ks : List Int) (x' y' : Int) (t tx' ty' : Tok) (n' : Nat) (h' : Heap) (tk' : Nat), KBw.bInts b = ks → ks.length ≤ 40 → 0 ≤ x' → 0 ≤ y' → y' < 2147483647 →
      Fr h₀ L h' m → News h₀ L h' ((src, listOf [.int x' tx', .int y' ty'].toArray n') :: news) → Q (.bytes b t) { s with heap := h', toks := tk' }) :
    wpAny (model PySem.Challenge.rw_xm0738_01.row.prog w) (ktrTop dp un gd cn cs L a ccd cl outer) (call (.ref 57) [.ref src]) Q E s := by
  w_top off
  revert X; k_fill; intro X
  replace N := P.news N
  refine wpAny_call ?_
  k_dflt (refine' code_defC ?k1 ?k2 ?k3 ?k4 ?k5 ?kA ?kF ?kK ?k6 ?k7 ?k8 ?k9 ?kB ?kD ?_ ?c2 ?c3 ?c4; (case kA => exact rfl); (case kF => exact rfl); (case kK => assumption); (case k1 => k_asm); (case k2 => k_asm); (case k3 => k_asm); (case k4 => k_asm); (case k5 => k_asm); (case k6 => k_is); (case k7 => k_is); (case k8 => ktr_room); (case k9 => exact BindsTo.of_eq rfl); (case kB => exact rfl); (case kD => decide +kernel); (case c2 => exact rfl); (case c3 => exact rfl); (case c4 => exact rfl); k_whole; intro g' L' h' tk' cells' FG' F' N' Y' B' X' T' l1; (try k_lt l1); k_cells Y'; (try simp only [List.cons_append, List.nil_append] at N'); (try dsimp only); (try k_lift B'); (try k_fold))
  k_steps
  · refine hret _ _ _ _ _ _ _ _ _ _ (KBa.ints_make (by assumption)) ?a1 ?a2 ?a3 ?a4 (by k_asm) (by exact news_sl (by k_asm) (.cons _ (.cons_cons _ (.cons _ (.refl _)))))
    case a1 => omega
    case a2 => assumption
    case a3 => assumption
    case a4 => assumption
  · have hd9 := oct_vals (by assumption) (by assumption) (by assumption)
    refine oct_end (by k_asm) (by k_asm) ?off ⟨_, _, _, _, _, _, _, rfl, rfl, hd9.1, hd9.2, ?_, ?_, ?_⟩
    case off => assumption
    all_goals assumption
end
section
local macro_rules | `(tactic| k_all) => `(tactic| with_reducible assumption)
def Stop (P : Prop) : Prop := P
theorem Stop.go {P : Prop} (h : Stop P) : P := h
local macro_rules | `(tactic| walk_at "exec While Compare cons nil") => `(tactic| refine Stop.go ?_)

/-- octets filled up to an eighth one -/
def pad8 (ks : List Int) : List Int := ks ++ List.replicate (8 * ((ks.length + 7) / 8) - ks.length) 0
theorem pad8_length (ks : List Int) : (pad8 ks).length = 8 * ((ks.length + 7) / 8) := by
  unfold pad8
  rw [List.length_append, List.length_replicate]
  omega
theorem pad_eq1 {ks : List Int} (h : ((ks.length : Nat) : Int).fmod 8 ≠ 0) : ks ++ List.replicate (8 - ((ks.length : Nat) : Int).fmod 8).toNat 0 = pad8 ks := by
  rw [Int.fmod_eq_emod_of_nonneg _ (by decide)] at h ⊢
  unfold pad8
  congr 2
  omega
theorem pad_eq0 {ks : List Int} (h : ((ks.length : Nat) : Int).fmod 8 = 0) : pad8 ks = ks := by
  rw [Int.fmod_eq_emod_of_nonneg _ (by decide)] at h
  unfold pad8
  have e : 8 * ((ks.length + 7) / 8) - ks.length = 0 := by omega
  rw [e]
  exact List.append_nil _
theorem zeros_ints (n : Nat) : KBw.bInts ((List.replicate n [(0 : UInt8)]).flatten.toArray) = List.replicate n 0 := by
  rw [KBw.ints_list]
  induction n with
  | zero => rfl
  | succ n ih =>
    rw [List.replicate_succ, List.flatten_cons, List.map_append, ih, List.replicate_succ]
    rfl
/-- the word of four octets at a place -/
def wordAt (ps : List Int) (p : Nat) : Int := KFB.value ((ps.drop p).take 4)
def csum (ps : List Int) (x y : Int) : Nat → Int × Int
  | 0 => (x, y)
  | i + 1 =>
    let o := ((csum ps x y i).1 + wordAt ps (8 * i) + (csum ps x y i).2).fmod 4294967296
    (o, ((csum ps x y i).2 + wordAt ps (8 * i + 4) + o).fmod 4294967296)
def sums (ks : List Int) (x y : Int) : Int × Int := csum (pad8 ks) x y ((ks.length + 7) / 8)
theorem sl4 {b : Array UInt8} {ks : List Int} (hk : KBw.bInts b = ks) {p q : Int} (h0 : 0 ≤ p) (hq : q = p + 4) (h1 : q ≤ ks.length) : KBw.bInts (KBy.picked b (some p) (some q)) = (ks.drop p.toNat).take 4 ∧ ((ks.drop p.toNat).take 4).length ≤ 8 := by
  refine ⟨?_, by rw [List.length_take]; omega⟩
  rw [KBc.ints_picked hk]
  obtain ⟨j, rfl⟩ := Int.eq_ofNat_of_zero_le h0
  have e1 : q = ((j + 4 : Nat) : Int) := by omega
  rw [e1, Int.toNat_natCast]
  simp only [Option.elim, clipAt_nat]
  have e2 : min j ks.length = j := by omega
  have e3 : min (j + 4) ks.length - j = 4 := by omega
  rw [e2, e3]
local macro_rules | `(tactic| walk_at "call ref") => `(tactic| (k_here; (with_reducible show wpAny _ _ (call (Value.ref _) [Value.bytes (KBy.picked _ (some _) (some _)) _, Value.str _ _]) _ _ _); kfb_any; k_dflt (refine' KFB.call_big ?N ?M (sl4 ?h ?h0 ?h1 ?h2).1 (sl4 ?h ?h0 ?h1 ?h2).2 ?_; (case N => k_asm); (case M => k_mem); (case h => assumption); (case h0 => omega); (case h1 => omega); (case h2 => omega)); intro _ _))
theorem csum1 {ps : List Int} {x y : Int} {i : Nat} : ((csum ps x y i).1 + KFB.value ((ps.drop ((8 * i : Nat) : Int).toNat).take 4) + (csum ps x y i).2).fmod 4294967296 = (csum ps x y (i + 1)).1 := by
  rw [Int.toNat_natCast]
  rfl
theorem csum2 {ps : List Int} {x y : Int} {i : Nat} : ((csum ps x y i).2 + KFB.value ((ps.drop (((8 * i : Nat) : Int) + 4).toNat).take 4) + ((csum ps x y i).1 + KFB.value ((ps.drop ((8 * i : Nat) : Int).toNat).take 4) + (csum ps x y i).2).fmod 4294967296).fmod 4294967296 = (csum ps x y (i + 1)).2 := by
  have e : (((8 * i : Nat) : Int) + 4).toNat = 8 * i + 4 := by omega
  rw [Int.toNat_natCast, e]
  rfl
theorem my_end3 {h₀ : Heap} {L : Addr} {s : Shared} {led : List (Addr × Obj)} {m₀ m' : Str → Option Value} {ps : List Int} {x y : Int} {n i : Nat} {r : Tok × Tok × Tok} {h' : Heap} {tk : Nat} {news' : List (Addr × Obj)} {v1 v2 v3 : Int} {t1 t2 t3 : Tok}
    (F : Fr h₀ L h' m') (N : News h₀ L h' news') (hn : ∀ p ∈ led, p ∈ news') (h1 : m' (Str.ofString "at") = some (.int v1 t1)) (h2 : m' (Str.ofString "one") = some (.int v2 t2)) (h3 : m' (Str.ofString "two") = some (.int v3 t3))
    (e1 : v1 = ((8 * (i + 1) : Nat) : Int)) (e2 : v2 = (csum ps x y (i + 1)).1) (e3 : v3 = (csum ps x y (i + 1)).2) (hr : ∀ z, z ≠ Str.ofString "at" → z ≠ Str.ofString "one" → z ≠ Str.ofString "two" → m' z = m₀ z) (hi : i < n) :
    KswEnd h₀ L s (fun _ : Nat × Tok × Tok × Tok => led) (fun c => [(Str.ofString "at", .int ((8 * c.1 : Nat) : Int) c.2.1), (Str.ofString "one", .int (csum ps x y c.1).1 c.2.2.1), (Str.ofString "two", .int (csum ps x y c.1).2 c.2.2.2)]) (fun _ => True) [] m₀ (fun c => c.1 ≤ n) (fun c => n - c.1) (i, r) { s with heap := h', toks := tk } := by
  subst e1 e2 e3
  refine ksw_end (i + 1, t1, t2, t3) F N hn trivial (List.forall_mem_cons.mpr ⟨h1, List.forall_mem_cons.mpr ⟨h2, List.forall_mem_cons.mpr ⟨h3, List.forall_mem_nil _⟩⟩⟩) ?_ hi (by dsimp only; omega)
  intro z hz _
  simp only [List.forall_mem_cons] at hz
  exact hr z hz.1 hz.2.1 hz.2.2.1
theorem my_while {prog : Program} {w : World} {A : Around} {E : Value → Shared → Prop} {Q : Flow → Shared → Prop} {s : Shared} {env : Env} {h₀ : Heap} {L : Addr} {σ : Type} {test : Expr} {body : List Stmt} {pos : Pos} {m₀ : Str → Option Value} (Led : σ → List (Addr × Obj)) (ps : σ → List (Str × Value)) (stored : List Str) (P : σ → Prop) (μ : σ → Nat)
    (F : Fr h₀ L s.heap m₀) (hc : ∃ c₀ : σ, News h₀ L s.heap (Led c₀) ∧ (∀ p ∈ ps c₀, m₀ p.1 = some p.2) ∧ P c₀)
    (turn : ∀ (c : σ) (u : Str → Option Value) h tk, P c → Fr h₀ L h (kstB (fun z => if stored.contains z then u z else m₀ z) (ps c)) → News h₀ L h (Led c) →
      wpAny (model prog w) A (isTrue test env (eval test env)) (fun b s₂ =>
        if b = true then wpAny (model prog w) A (execs body env) (KswPost h₀ L s Led ps (fun _ => True) stored m₀ P μ Q c) E s₂ else Q .next s₂) E { s with heap := h, toks := tk })
    (hE : PassesOwn (model prog w) A env E := by passes_own) :
    wpAny (model prog w) A (exec (.While test body [] pos) env) Q E s := by
  obtain ⟨c₀, N, hk, hp⟩ := hc
  exact ksw_while Led ps (fun _ => True) stored P μ c₀ F N trivial hk hp (fun c u h tk _ hP F N => turn c u h tk hP F N) hE
local macro_rules | `(tactic| walk_at "KswEnd") => `(tactic| refine Stop.go ?_)
local macro_rules | `(tactic| walk_at "binaryOp Add bytes bytes") => `(tactic| (k_here; (refine KBa.add_K (by kba_ints) (zeros_ints _) (by (simp only [List.length_replicate]; omega)) ?_); intro _ _ kbaApp; replace kbaApp := kbaApp.trans (pad_eq1 (by assumption)); (try dsimp only)))
set_option maxRecDepth 100000 in
set_option maxHeartbeats 8000000 in
theorem sums_spec {w : World} {loose : List Str} {mean : ExcName → Option Value} {mg mb : Str → Option Value} {dp un : Nat} {gd : Option (List Code)} {cn : Str} {cs : Scope} {a : Addr} {ccd : Value} {cl : List (Str × Addr)} {outer : List Env}
    {A₀ : Around} {base h₀ : Heap} {L : Addr} {m : Str → Option Value} {s : Shared} {Q E : Value → Shared → Prop} {tp : Addr} {k : Nat} {x y : Int} {tx ty t : Tok} {news : List (Addr × Obj)} {b : Array UInt8} {ks : List Int}
    (B : Below A₀ base outer h₀) (F : Fr h₀ L s.heap m) (X : (hd.heap_39 w.params).In h₀)
    (N : News h₀ L s.heap news) (M : (tp, ({ cls := .type "tuple", data := .seq [.int x tx, .int y ty].toArray k } : Obj)) ∈ news) (T : Top hd.view_39 loose mean mg mb h₀) (hk : cs.kind = .function)
    (hb : KBw.bInts b = ks) (hl : ks.length ≤ 40) (hx : 0 ≤ x) (hx2 : x < 4294967296) (hy : 0 ≤ y) (hy2 : y < 4294967296) (hdp : dp + 9 < recursionLimit)
    (hret : ∀ (tq : Addr) (tx' ty' : Tok) (h' : Heap) (tk' : Nat),
      Fr h₀ L h' m → News h₀ L h' ((tq, { cls := .type "tuple", data := .seq [.int (sums ks x y).1 tx', .int (sums ks x y).2 ty'].toArray }) :: news) → (∀ p ∈ news, p.1 < tq) → Q (.ref tq) { s with heap := h', toks := tk' }) :
    wpAny (model PySem.Challenge.rw_xm0738_01.row.prog w) (ktrTop dp un gd cn cs L a ccd cl outer) (call (.ref 31) [.bytes b t, .ref tp]) Q E s := by
  w_top off
  revert X; k_fill; intro X
  replace N : News h₀ L s.heap ((tp, { cls := .type "tuple", data := .seq [.int x tx, .int y ty].toArray k }) :: news) := fun p hp => by
    rcases List.mem_cons.mp hp with rfl | hp
    · exact N _ M
    · exact N _ hp
  refine wpAny_call ?_
  have hpl := pad8_length ks
  have hfm := fmod_facts (k := 8) (by decide) (ks.length : Int)
  k_dflt cell_enter
  k_steps
  all_goals (
    unfold Stop
    (try (have hz := pad_eq0 (by assumption); have hz2 := congrArg List.length hz; replace hb := hb.trans hz.symm))
    rename Fr _ _ _ _ => lF
    rename News _ _ _ _ => lN
    refine my_while (σ := Nat × Tok × Tok × Tok) (fun _ => (tp, { cls := .type "tuple", data := .seq [.int x tx, .int y ty].toArray k }) :: news)
      (fun c => [(Str.ofString "at", .int ((8 * c.1 : Nat) : Int) c.2.1), (Str.ofString "one", .int (csum (pad8 ks) x y c.1).1 c.2.2.1), (Str.ofString "two", .int (csum (pad8 ks) x y c.1).2 c.2.2.2)])
      [] (fun c => c.1 ≤ (ks.length + 7) / 8) (fun c => (ks.length + 7) / 8 - c.1) lF
      (by with_unfolding_all exact ⟨(0, _, _, _), lN, List.forall_mem_cons.mpr ⟨rfl, List.forall_mem_cons.mpr ⟨rfl, List.forall_mem_cons.mpr ⟨rfl, List.forall_mem_nil _⟩⟩⟩, Nat.zero_le _⟩) ?_
    clear lF lN
    rintro ⟨i, ta, tb, tc⟩ u hh tk hP F9 N9
    dsimp only [kstB] at F9
    dsimp only at hP
    (try k_fold))
  all_goals k_steps
  all_goals first
    | (unfold Stop
       with_unfolding_all refine my_end3 (by k_asm) (by k_asm) (fun p hp => .tail _ (.tail _ hp)) rfl rfl rfl ?_ csum1 csum2 ?_ ?_
       · first | rfl | omega
       · (intro z h1 h2 h3; simp [h1, h2, h3])
       · omega)
    | (have hi : i = (ks.length + 7) / 8 := by omega
       subst hi
       exact hret _ _ _ _ _ (by k_asm) (by exact news_drop2 (by k_asm)) (ktn_ltOf (And.right (a := @LT.lt Nat _ tp _) (by assumption))))
end
section
section
variable {prog : Program} {w : World} {A : Around} {E : Value → Shared → Prop} {s : Shared} {env : Env} {h₀ : Heap} {x : Str} {body : List Stmt} {Q : Flow → Shared → Prop}
theorem krs_inv {I : Addr} {a c : Int} (n : Nat) (J : Nat → (Str → Option Value) → List (Addr × Obj) → Prop)
    (turn : ∀ i m news, i < n → J i m news → ∀ t h tk, Fr h₀ env.locals h (fun y => if y = x then some (.int (a + (i : Int) * c) t) else m y) →
      News h₀ env.locals h ((I, krsIt (a + ((i + 1 : Nat) : Int) * c) ((n : Int) - ((i + 1 : Nat) : Int)) c) :: news) →
      wpAny (model prog w) A (execs body env) (UnrPost h₀ env.locals { s with heap := h, toks := tk } I (krsIt (a + ((i + 1 : Nat) : Int) * c) ((n : Int) - ((i + 1 : Nat) : Int)) c) (J (i + 1)) Q) E { s with heap := h, toks := tk })
    (done : ∀ m news, J n m news → ∀ h tk, Fr h₀ env.locals h m → News h₀ env.locals h news → Q .next { s with heap := h, toks := tk }) :
    ∀ k i m news, i + k = n → J i m news → KrsRest prog w A E h₀ env x body Q s I a c n k i m news
  | 0, i, m, news, e, hj => done m news (by rw [← e]; exact hj)
  | k + 1, i, m, news, e, hj => fun t h tk F N => wpAny_mono (turn i m news (by omega) hj t h tk F N) (fun f s₂ p => by
      have up : UnrEnd h₀ env.locals { s with heap := h, toks := tk } I (krsIt (a + ((i + 1 : Nat) : Int) * c) ((n : Int) - ((i + 1 : Nat) : Int)) c) (J (i + 1)) s₂ →
          UnrEnd h₀ env.locals { s with heap := h, toks := tk } I (krsIt (a + ((i + 1 : Nat) : Int) * c) ((n : Int) - ((i + 1 : Nat) : Int)) c) (KrsRest prog w A E h₀ env x body Q s I a c n k (i + 1)) s₂ := by
        rintro ⟨h', tk', m', news', e', F', N', off, r⟩
        exact ⟨h', tk', m', news', e', F', N', off, krs_inv n J turn done k (i + 1) m' news' (by omega) r⟩
      cases f with
      | ret v => exact p
      | brk => exact p
      | next => exact up p
      | cont => exact up p) fun _ _ z => z

def MyS {σ : Type} (Led : Nat → σ → List (Addr × Obj)) (ps : Nat → σ → List (Str × Value)) (x : Str) (stored : List Str) (m₀ : Str → Option Value) (P : Nat → σ → Prop) (i : Nat) (m : Str → Option Value) (nx : List (Addr × Obj)) : Prop :=
  ∃ c : σ, nx = Led i c ∧ (∀ p ∈ ps i c, m p.1 = some p.2) ∧ (∀ z, z ≠ x → (∀ p ∈ ps i c, z ≠ p.1) → stored.contains z = false → m z = m₀ z) ∧ P i c

theorem my_range {σ : Type} {r : Addr} {a₀ b₀ c : Int} {t₀ u₀ v₀ : Tok} {n : Nat} {m₀ : Str → Option Value} (Led : Nat → σ → List (Addr × Obj)) (ps : Nat → σ → List (Str × Value)) (stored : List Str) (P : Nat → σ → Prop)
    (hh : A.handled = none) (hr : IsRange s.heap r a₀ b₀ c t₀ u₀ v₀) (hsmall : Builtin.Range.small a₀ b₀ c = true) (hn : Builtin.Range.rangeSize a₀ b₀ c = (n : Int)) (F : Fr h₀ env.locals s.heap m₀)
    (hc : ∃ c₀, News h₀ env.locals s.heap (Led 0 c₀) ∧ (∀ p ∈ ps 0 c₀, m₀ p.1 = some p.2) ∧ P 0 c₀)
    (turn : ∀ (I : Addr) (i : Nat) (c₁ : σ) (t : Tok) (u : Str → Option Value) h tk, i < n → P i c₁ →
      Fr h₀ env.locals h (fun y => if y = x then some (.int (a₀ + (i : Int) * c) t) else kstB (fun z => if stored.contains z then u z else m₀ z) (ps i c₁) y) →
      News h₀ env.locals h ((I, krsIt (a₀ + ((i + 1 : Nat) : Int) * c) ((n : Int) - ((i + 1 : Nat) : Int)) c) :: Led i c₁) → (∃ c₀, ∀ p ∈ Led 0 c₀, p.1 < I) →
      wpAny (model prog w) A (execs body env) (UnrPost h₀ env.locals { s with heap := h, toks := tk } I (krsIt (a₀ + ((i + 1 : Nat) : Int) * c) ((n : Int) - ((i + 1 : Nat) : Int)) c) (MyS Led ps x stored m₀ P (i + 1)) Q) E { s with heap := h, toks := tk })
    (done : ∀ (c₁ : σ) (u : Str → Option Value) h tk, P n c₁ → Fr h₀ env.locals h (fun y => if y = x then u y else kstB (fun z => if stored.contains z then u z else m₀ z) (ps n c₁) y) → News h₀ env.locals h (Led n c₁) → Q .next { s with heap := h, toks := tk }) :
    wpAny (model prog w) A (pyIter (.ref r)) (fun it s₂ => LoopAtV prog w A h₀ env x body Q E it s₂) E s := by
  obtain ⟨c₀, N, hk, hp⟩ := hc
  refine krs_iter hh hr hsmall hn F N fun I hI => krs_inv n (MyS Led ps x stored m₀ P) ?_ ?_ n 0 m₀ _ (Nat.zero_add n) ⟨c₀, rfl, hk, fun _ _ _ _ => rfl, hp⟩
  · rintro i m news hi ⟨c₁, rfl, h1, h2, hP⟩ t h tk F₁ N₁
    exact turn I i c₁ t m h tk hi hP (kst_fr h1 h2 F₁) N₁ ⟨c₀, hI⟩
  · rintro m news ⟨c₁, rfl, h1, h2, hP⟩ h tk F₁ N₁
    exact done c₁ m h tk hP (kst_frOut h1 h2 F₁) N₁
end
end
section
local macro_rules | `(tactic| walk_at "own pad 0") => `(tactic| fail)
local macro_rules | `(tactic| walk_at "own pad 1") => `(tactic| fail)
local macro_rules | `(tactic| k_all) => `(tactic| with_reducible assumption)
local macro_rules | `(tactic| walk_at "pyIter ref") => `(tactic| refine Stop.go ?_)
local macro_rules | `(tactic| walk_at "UnrEnd") => `(tactic| refine Stop.go ?_)
local macro_rules | `(tactic| walk_at "exec For Name Call cons nil") => `(tactic| (k_here; (rename Fr _ _ _ _ => lF'); (with_unfolding_all refine' For_invVF lF' ?k1 ?k2 ?_; (case k1 => exact rfl); (case k2 => exact rfl); k_whole)))
/-- the words of octets, filled up -/
def wordsOf (ks : List Int) : List Int := (List.range (2 * ((ks.length + 7) / 8))).map fun j => wordAt (pad8 ks) (4 * j)
theorem value_snoc (l : List Int) (k : Int) : KFB.value (l ++ [k]) = KFB.value l * 256 + k := by
  unfold KFB.value
  rw [List.foldl_append]
  rfl
theorem pad8_getD (ks : List Int) (q : Nat) : (pad8 ks).getD q 0 = ks.getD q 0 := by
  unfold pad8
  rw [List.getD_eq_getElem?_getD, List.getD_eq_getElem?_getD, List.getElem?_append]
  split
  · rfl
  · rename_i h
    rw [List.getElem?_eq_none (l := ks) (by omega), List.getElem?_replicate]
    split <;> rfl
theorem word_step {ks : List Int} {p j : Nat} (h : p + j < (pad8 ks).length) : KFB.value (((pad8 ks).drop p).take j) * 256 + ks.getD (p + j) 0 = KFB.value (((pad8 ks).drop p).take (j + 1)) := by
  have e : ((pad8 ks).drop p)[j]? = some (ks.getD (p + j) 0) := by
    rw [List.getElem?_drop, ← pad8_getD, List.getD_eq_getElem?_getD, List.getElem?_eq_getElem h]
    rfl
  rw [List.take_add_one, e, ← value_snoc]
  rfl
theorem word_in {ks : List Int} {i j : Nat} (hj : j < 4) (hi : i < 2 * ((ks.length + 7) / 8)) : KFB.value (((pad8 ks).drop (4 * i)).take j) * 256 + ks.getD (0 + (i : Int) * 4 + (j : Int) * 1).toNat 0 = KFB.value (((pad8 ks).drop (4 * i)).take (j + 1)) := by
  have e : (0 + (i : Int) * 4 + (j : Int) * 1).toNat = 4 * i + j := by omega
  rw [e]
  exact word_step (by rw [pad8_length]; omega)
theorem word_out {ks : List Int} {i j : Nat} (hj : j < 4) (hi : i < 2 * ((ks.length + 7) / 8)) (h : ¬ (0 + (i : Int) * 4 + (j : Int) * 1 < (ks.length : Int))) : KFB.value (((pad8 ks).drop (4 * i)).take j) * 256 + 0 = KFB.value (((pad8 ks).drop (4 * i)).take (j + 1)) := by
  have e := word_in hj hi
  have e2 : ks.getD (0 + (i : Int) * 4 + (j : Int) * 1).toNat 0 = 0 := by
    rw [List.getD_eq_getElem?_getD, List.getElem?_eq_none (by omega)]
    rfl
  rw [e2] at e
  exact e
theorem unr_word {h₀ : Heap} {L I : Addr} {it : Obj} {led : List (Addr × Obj)} {s₁ : Shared} {h' : Heap} {tk : Nat} {m₀ m' : Str → Option Value} {ks : List Int} {p j : Nat} {v : Int} {tv : Tok} (F : Fr h₀ L h' m') (N : News h₀ L h' ((I, it) :: led)) (off : ∀ p ∈ led, p.1 ≠ I)
    (h1 : m' (Str.ofString "word") = some (.int v tv)) (e : v = KFB.value (((pad8 ks).drop p).take (j + 1))) (hr : ∀ z, z ≠ Str.ofString "at" → z ≠ Str.ofString "word" → m' z = m₀ z) :
    UnrEnd h₀ L s₁ I it (MyS (fun _ (_ : Tok) => led) (fun j c => [(Str.ofString "word", .int (KFB.value (((pad8 ks).drop p).take j)) c)]) (Str.ofString "at") [] m₀ (fun _ _ => True) (j + 1)) { s₁ with heap := h', toks := tk } := by
  subst e
  refine UnrEnd.intro F N led (fun _ hp => hp) off ⟨tv, rfl, List.forall_mem_cons.mpr ⟨h1, List.forall_mem_nil _⟩, ?_, trivial⟩
  intro z hz hp _
  simp only [List.forall_mem_cons] at hp
  exact hr z hz hp.1
theorem unr_found {h₀ : Heap} {L I D : Addr} {it : Obj} {news : List (Addr × Obj)} {s₁ : Shared} {h' : Heap} {tk : Nat} {m₀ m' : Str → Option Value} {ks : List Int} {i c : Nat} {vs : List Value} {v : Int} {tv : Tok} (F : Fr h₀ L h' m') (N : News h₀ L h' ((I, it) :: (D, listOf (vs.toArray.push (.int v tv)) c) :: news)) (hI : D < I) (off : ∀ p ∈ news, p.1 ≠ I)
    (h1 : IntsAre vs ((List.range i).map fun j => wordAt (pad8 ks) (4 * j))) (hv : v = wordAt (pad8 ks) (4 * i)) (hr : ∀ z, z ≠ Str.ofString "first" → z ≠ Str.ofString "word" → z ≠ Str.ofString "at" → m' z = m₀ z) :
    UnrEnd h₀ L s₁ I it (MyS (fun _ (c : List Value × Nat) => (D, listOf c.1.toArray c.2) :: news) (fun _ _ => []) (Str.ofString "first") [Str.ofString "word", Str.ofString "at"] m₀ (fun i c => IntsAre c.1 ((List.range i).map fun j => wordAt (pad8 ks) (4 * j))) (i + 1)) { s₁ with heap := h', toks := tk } := by
  subst hv
  rw [List.push_toArray] at N
  have h2 : IntsAre (vs ++ [Value.int (wordAt (pad8 ks) (4 * i)) tv]) ((List.range (i + 1)).map fun j => wordAt (pad8 ks) (4 * j)) := by
    rw [List.range_succ, List.map_append]
    exact h1.append (.cons _ _ .nil)
  refine UnrEnd.intro F N ((D, listOf (vs ++ [Value.int (wordAt (pad8 ks) (4 * i)) tv]).toArray c) :: news) (fun _ hp => hp) ?_ ⟨(_, c), rfl, List.forall_mem_nil _, ?_, h2⟩
  · intro p hp
    rcases List.mem_cons.mp hp with rfl | hp
    · exact Nat.ne_of_lt hI
    · exact off p hp
  · intro z hz _ hs
    simp only [List.contains_cons, List.contains_nil, Bool.or_false, Bool.or_eq_false_iff, beq_eq_false_iff_ne, ne_eq] at hs
    exact hr z hz hs.1 hs.2
theorem words_len (ks : List Int) : (wordsOf ks).length = 2 * ((ks.length + 7) / 8) := by
  unfold wordsOf
  rw [List.length_map, List.length_range]
theorem range4 {n : Nat} {v : Int} (hv : v = ((8 * n : Nat) : Int)) : Builtin.Range.rangeSize 0 v 4 = ((2 * n : Nat) : Int) := by
  subst hv
  rw [rangeSize_pos (by decide) (by omega)]
  omega
theorem small4 {v : Int} (h0 : 0 ≤ v) (h1 : v < 2 ^ 62) : Builtin.Range.small 0 v 4 = true := by
  unfold Builtin.Range.small
  rw [rangeSize_pos (by decide) h0]
  have e1 : (0 : Int) ≤ (v + 4 - 1) / 4 := by omega
  have e2 : (v + 4 - 1) / 4 < 2 ^ 62 := by omega
  generalize (v + 4 - 1) / 4 = q at e1 e2 ⊢
  simp only [Builtin.Range.rangeFitsLong, Bool.and_eq_true, Bool.or_eq_true, decide_eq_true_eq, beq_iff_eq, show ((4 : Int) > 0) from by decide, if_true]
  omega
set_option maxRecDepth 100000 in
set_option maxHeartbeats 8000000 in
theorem words_spec {w : World} {loose : List Str} {mean : ExcName → Option Value} {mg mb : Str → Option Value} {dp un : Nat} {gd : Option (List Code)} {cn : Str} {cs : Scope} {a : Addr} {ccd : Value} {cl : List (Str × Addr)} {outer : List Env}
    {A₀ : Around} {base h₀ : Heap} {L : Addr} {m : Str → Option Value} {s : Shared} {Q E : Value → Shared → Prop} {t : Tok} {news : List (Addr × Obj)} {b : Array UInt8} {ks : List Int}
    (B : Below A₀ base outer h₀) (F : Fr h₀ L s.heap m) (X : (hd.heap_39 w.params).In h₀)
    (N : News h₀ L s.heap news) (T : Top hd.view_39 loose mean mg mb h₀) (hk : cs.kind = .function)
    (hb : KBw.bInts b = ks) (hl : ks.length ≤ 40) (hdp : dp + 9 < recursionLimit)
    (hret : ∀ (D : Addr) (vs : List Value) (n : Nat) (h' : Heap) (tk' : Nat), IntsAre vs (wordsOf ks) →
      Fr h₀ L h' m → News h₀ L h' ((D, listOf vs.toArray n) :: news) → (∀ p ∈ news, p.1 < D) → Q (.ref D) { s with heap := h', toks := tk' }) :
    wpAny (model PySem.Challenge.rw_xm0738_01.row.prog w) (ktrTop dp un gd cn cs L a ccd cl outer) (call (.ref 71) [.bytes b t]) Q E s := by
  w_top off
  revert X; k_fill; intro X
  refine wpAny_call ?_
  k_dflt cell_enter
  k_steps
  have hX : ((ks.length : Int) + 7).fdiv 8 * 8 = ((8 * ((ks.length + 7) / 8) : Nat) : Int) := by
    rw [Int.fdiv_eq_ediv_of_nonneg _ (by decide)]
    omega
  unfold Stop
  rename_i l9 _ l1 _ _ _ _ _ _ _ _ R9 F9 N9 _
  have hoff : ∀ p ∈ news, p.1 ≠ l9 := fun p hp => Nat.ne_of_lt (l1 p hp)
  refine my_range (σ := List Value × Nat) (n := 2 * ((ks.length + 7) / 8)) (fun _ c => (l9, listOf c.1.toArray c.2) :: news) (fun _ _ => []) [Str.ofString "word", Str.ofString "at"]
    (fun i c => IntsAre c.1 ((List.range i).map fun j => wordAt (pad8 ks) (4 * j))) rfl R9 (small4 (by omega) (by omega)) (range4 hX) F9 ⟨([], 0), N9, List.forall_mem_nil _, .nil⟩ ?turn ?done
  case turn =>
    rintro I i ⟨vs, cnt⟩ t1 u hh tk hi hP F N ⟨c₀, hI⟩
    dsimp only [kstB] at F
    dsimp only at hP N hI
    (try k_fold)
    k_steps
    unfold Stop
    rename IsRange _ _ _ _ _ _ _ _ => R2
    rename Fr _ _ _ _ => F2
    rename News _ _ _ _ => N2
    have hIl : l9 < I := hI _ (.head _)
    have hIoff : ∀ p ∈ news, p.1 ≠ I := fun p hp => Nat.ne_of_lt (hI p (.tail _ hp))
    refine my_range (σ := Tok) (n := 4) (fun _ _ => (I, krsIt (0 + ((i + 1 : Nat) : Int) * 4) (((2 * ((ks.length + 7) / 8) : Nat) : Int) - ((i + 1 : Nat) : Int)) 4) :: (l9, listOf vs.toArray cnt) :: news)
      (fun j c => [(Str.ofString "word", .int (KFB.value (((pad8 ks).drop (4 * i)).take j)) c)]) []
      (fun _ _ => True) rfl R2 (small_one (by omega) (by omega) (by omega) (by omega)) ((rangeSize_nat _ _).trans (by omega)) F2 (by with_unfolding_all exact ⟨_, N2, List.forall_mem_cons.mpr ⟨rfl, List.forall_mem_nil _⟩, trivial⟩) ?turn2 ?done2
    case turn2 =>
      rintro I2 j tw t2 u2 hh2 tk2 hj - F3 N3 ⟨_, hI2⟩
      dsimp only [kstB] at F3
      (try dsimp only at N3 hI2)
      (try k_fold)
      k_steps
      all_goals (
        unfold Stop
        first
        | (with_unfolding_all refine unr_word (by k_asm) (by k_asm) (fun p hp => Nat.ne_of_lt (hI2 p hp)) rfl (word_in hj hi) ?_
           (intro z h1 h2; simp [h1, h2]))
        | (with_unfolding_all refine unr_word (by k_asm) (by k_asm) (fun p hp => Nat.ne_of_lt (hI2 p hp)) rfl (word_out hj hi (by assumption)) ?_
           (intro z h1 h2; simp [h1, h2])))
    case done2 =>
      rintro tw u2 hh2 tk2 - F3 N3
      dsimp only [kstB] at F3
      (try dsimp only at N3)
      (try k_fold)
      have hvl : vs.length = i := by rw [hP.length, List.length_map, List.length_range]
      have hIne : I ≠ l9 := Nat.ne_of_gt hIl
      k_steps
      unfold Stop
      with_unfolding_all refine unr_found (by k_asm) (by k_asm) hIl hIoff hP rfl ?w2
      case w2 => (intro z h1 h2 h3; simp [h1, h2, h3])
  case done =>
    rintro ⟨vs, cnt⟩ u hh tk hP F N
    dsimp only [kstB] at F
    dsimp only at hP N
    (try k_fold)
    k_steps
    exact hret _ _ _ _ _ hP (by k_asm) (by k_asm) l1
end
section
local macro_rules | `(tactic| walk_at "own pad 0") => `(tactic| fail)
local macro_rules | `(tactic| walk_at "own pad 1") => `(tactic| fail)
local macro_rules | `(tactic| walk_at "own pad 2") => `(tactic| fail)
local macro_rules | `(tactic| walk_at "own pad 3") => `(tactic| fail)
local macro_rules | `(tactic| k_all) => `(tactic| with_reducible assumption)
local macro_rules | `(tactic| walk_at "call ref") => `(tactic| (k_here; k_dflt (refine' take_spec ?tB ?tF ?tX ?tN ?tP ?tT ?tk ?toff ?tx ?ty ?ty2 ?tt ?tt2 ?td ?_; (case tB => k_asm); (case tF => k_asm); (case tX => k_asm); (case tN => k_asm); (case tP => first | exact Pick.head | exact Pick.tail Pick.head | exact Pick.tail (Pick.tail Pick.head) | exact Pick.tail (Pick.tail (Pick.tail Pick.head)) | exact Pick.tail (Pick.tail (Pick.tail (Pick.tail Pick.head)))); (case tT => k_asm); (case tk => first | exact rfl | assumption); (case toff => k_all); (case tx => assumption); (case ty => assumption); (case ty2 => assumption); (case tt => first | assumption | omega); (case tt2 => first | assumption | omega); (case td => ktr_room); k_whole); intro d' x' y' t' tx' ty' n' h' tk' hd0' hd1' hx' hy' hy2' F' N'; (try k_sweep); (try dsimp only); (try k_fold)))
local macro_rules | `(tactic| walk_at "call ref") => `(tactic| (k_here; k_dflt (refine' one_spec ?tB ?tF ?tX ?tN ?tP ?tM ?tT ?tk ?toff ?tx ?ty ?ty2 ?ti ?tn ?tn2 ?td ?_; (case tB => k_asm); (case tF => k_asm); (case tX => k_asm); (case tN => k_asm); (case tP => first | exact Pick.head | exact Pick.tail Pick.head | exact Pick.tail (Pick.tail Pick.head) | exact Pick.tail (Pick.tail (Pick.tail Pick.head)) | exact Pick.tail (Pick.tail (Pick.tail (Pick.tail Pick.head)))); (case tM => k_mem); (case tT => k_asm); (case tk => first | exact rfl | assumption); (case toff => k_all); (case tx => assumption); (case ty => assumption); (case ty2 => assumption); (case ti => first | exact (IntsAre.cons _ _ (IntsAre.cons _ _ (IntsAre.cons _ _ (IntsAre.cons _ _ (IntsAre.cons _ _ IntsAre.nil))))) | exact (IntsAre.cons _ _ (IntsAre.cons _ _ (IntsAre.cons _ _ (IntsAre.cons _ _ (IntsAre.cons _ _ (IntsAre.cons _ _ (IntsAre.cons _ _ IntsAre.nil)))))))); (case tn => (simp only [List.length_cons, List.length_nil]; omega)); (case tn2 => (simp only [List.length_cons, List.length_nil]; omega)); (case td => ktr_room); k_whole); intro d' x' y' t' tx' ty' n' h' tk' hd0' hx' hy' hy2' F' N'; (try k_sweep); (try dsimp only); (try k_fold)))
theorem changed_end {ks : List Int} {d e : Int} {c : UInt8} {bf : Array UInt8} (h : KBw.bInts bf = ks.take (clipAt ks.length d) ++ [c].map (fun c => ((c.toNat : Nat) : Int)) ++ (ks.drop (clipAt ks.length (d + 1))).take (ks.length - clipAt ks.length (d + 1)))
    (hc : ((c.toNat : Nat) : Int) = (ks.getD d.toNat 0 + 1 + e).fmod 256) (hd0 : 0 ≤ d) (hd1 : d < (ks.length : Int)) (he0 : 0 ≤ e) (he1 : e < 255) (hlo : 0 ≤ ks.getD d.toNat 0) (hhi : ks.getD d.toNat 0 < 256) :
    KBw.bInts bf = ks.set d.toNat ((ks.getD d.toNat 0 + 1 + e).fmod 256) ∧ d.toNat < ks.length ∧ (ks.getD d.toNat 0 + 1 + e).fmod 256 ≠ ks.getD d.toNat 0 := by
  obtain ⟨p, rfl⟩ := Int.eq_ofNat_of_zero_le hd0
  rw [Int.toNat_natCast] at *
  have hp : p < ks.length := by omega
  refine ⟨?_, hp, ?_⟩
  · have e1 : ((p : Int) + 1) = ((p + 1 : Nat) : Int) := by omega
    rw [h, e1, clipAt_nat, clipAt_nat, List.map_cons, List.map_nil, hc, List.set_eq_take_append_cons_drop, if_pos hp]
    have e2 : min p ks.length = p := by omega
    have e3 : min (p + 1) ks.length = p + 1 := by omega
    rw [e2, e3, List.append_assoc, List.singleton_append]
    congr 2
    exact List.take_of_length_le (by rw [List.length_drop]; omega)
  · rw [Int.fmod_eq_emod_of_nonneg _ (by decide)]
    omega
set_option maxRecDepth 100000 in
set_option maxHeartbeats 8000000 in
theorem changed_spec {w : World} {loose : List Str} {mean : ExcName → Option Value} {mg mb : Str → Option Value} {dp un : Nat} {gd : Option (List Code)} {cn : Str} {cs : Scope} {a : Addr} {ccd : Value} {cl : List (Str × Addr)} {outer : List Env}
    {A₀ : Around} {base h₀ : Heap} {L : Addr} {m : Str → Option Value} {s : Shared} {Q E : Value → Shared → Prop} {src : Addr} {n : Nat} {x y : Int} {tx ty t : Tok} {led news : List (Addr × Obj)} {b : Array UInt8} {ks : List Int}
    (B : Below A₀ base outer h₀) (F : Fr h₀ L s.heap m) (X : (hd.heap_39 w.params).In h₀)
    (N : News h₀ L s.heap led) (P : Pick src (listOf [.int x tx, .int y ty].toArray n) led news) (T : Top hd.view_39 loose mean mg mb h₀) (hk : cs.kind = .function)
    (hoff : ∀ p ∈ news, p.1 ≠ src) (hx : 0 ≤ x) (hy : 0 ≤ y) (hy2 : y < 2147483647) (hb : KBw.bInts b = ks) (hl : ks.length ≤ 40) (hl0 : 0 < ks.length) (hdp : dp + 9 < recursionLimit)
    (hret : ∀ (b' : Array UInt8) (ks' : List Int) (p : Nat) (v x' y' : Int) (t tx' ty' : Tok) (n' : Nat) (h' : Heap) (tk' : Nat), KBw.bInts b' = ks' → ks' = ks.set p v → p < ks.length → v ≠ ks.getD p 0 → 0 ≤ x' → 0 ≤ y' → y' < 2147483647 →
      Fr h₀ L h' m → News h₀ L h' ((src, listOf [.int x' tx', .int y' ty'].toArray n') :: news) → Q (.bytes b' t) { s with heap := h', toks := tk' }) :
    wpAny (model PySem.Challenge.rw_xm0738_01.row.prog w) (ktrTop dp un gd cn cs L a ccd cl outer) (call (.ref 85) [.ref src, .bytes b t]) Q E s := by
  w_top off
  revert X; k_fill; intro X
  replace N := P.news N
  refine wpAny_call ?_
  k_dflt cell_enter
  k_steps
  obtain ⟨c1, c2, c3⟩ := changed_end (by assumption) (by assumption) (by assumption) (by assumption) (by assumption) (by assumption) (by assumption) (by assumption)
  refine hret _ _ _ _ _ _ _ _ _ _ _ _ c1 rfl c2 c3 ?a2 ?a3 ?a4 (by k_asm) (by exact news_sl (by k_asm) (.cons _ (.refl _)))
  case a2 => assumption
  case a3 => assumption
  case a4 => assumption
end
section
local macro_rules | `(tactic| k_all) => `(tactic| with_reducible assumption)
theorem pool_nn {c : Int} {P : Prop} [Decidable P] : 0 ≤ (if -1 - c > c then -1 - c else c) * (if P then 1 else 0) := by
  have h : 0 ≤ (if -1 - c > c then -1 - c else c) := by split <;> omega
  by_cases hp : P
  · rw [if_pos hp, Int.mul_one]; exact h
  · rw [if_neg hp, Int.mul_zero]; exact Int.le_refl 0
set_option maxRecDepth 100000 in
set_option maxHeartbeats 8000000 in
theorem pool_spec {w : World} {loose : List Str} {mean : ExcName → Option Value} {mg mb : Str → Option Value} {dp un : Nat} {gd : Option (List Code)} {cn : Str} {cs : Scope} {a : Addr} {ccd : Value} {cl : List (Str × Addr)} {outer : List Env}
    {A₀ : Around} {base h₀ : Heap} {L : Addr} {m : Str → Option Value} {s : Shared} {Q E : Value → Shared → Prop} {l : Addr} {j : Int} {t : Tok} {news : List (Addr × Obj)} {vs : List Value} {ns : List Int}
    (B : Below A₀ base outer h₀) (F : Fr h₀ L s.heap m) (X : (hd.heap_39 w.params).In h₀)
    (N : News h₀ L s.heap news) (T : Top hd.view_39 loose mean mg mb h₀) (hk : cs.kind = .function)
    (hls : base.IsList l vs.toArray) (hi : IntsAre vs ns) (hn : ns.length < 2 ^ 62) (hj : 0 ≤ j) (hj2 : j < 3) (hdp : dp + 9 < recursionLimit)
    (hret : ∀ (D : Addr) (x' y' : Int) (tx' ty' : Tok) (n' : Nat) (h' : Heap) (tk' : Nat), 0 ≤ x' → 0 ≤ y' → y' < 2147483647 →
      Fr h₀ L h' m → News h₀ L h' ((D, listOf [.int x' tx', .int y' ty'].toArray n') :: news) → (∀ p ∈ news, p.1 < D) → Q (.ref D) { s with heap := h', toks := tk' }) :
    wpAny (model PySem.Challenge.rw_xm0738_01.row.prog w) (ktrTop dp un gd cn cs L a ccd cl outer) (call (.ref 38) [.ref l, .int j t]) Q E s := by
  w_top off
  revert X; k_fill; intro X
  refine wpAny_call ?_
  k_dflt cell_enter
  k_steps
  · exact hret _ _ _ _ _ _ _ _ pool_nn (fmod_facts (by decide) _).1 (fmod_facts (by decide) _).2 (by k_asm) (by k_asm) (by assumption)
  · exact hret _ _ _ _ _ _ _ _ (pool_nn (c := 0)) (fmod_facts (by decide) _).1 (fmod_facts (by decide) _).2 (by k_asm) (by k_asm) (by assumption)
end
section
local macro_rules | `(tactic| walk_at "own pad 0") => `(tactic| fail)
local macro_rules | `(tactic| walk_at "own pad 1") => `(tactic| fail)
local macro_rules | `(tactic| walk_at "own pad 2") => `(tactic| fail)
local macro_rules | `(tactic| k_all) => `(tactic| with_reducible assumption)
section
variable {prog : Program} {w : World} {A : Around} {E : Value → Shared → Prop} {s : Shared} {h₀ : Heap} {L : Addr} {m : Str → Option Value} {env : Env}
theorem comp_pure {elt : Expr} {x : Str} {scope : Scope} {cl : List (Str × Addr)} {P : Nat → Value → Prop} {Fin : List Value → List (Addr × Obj) → Prop} {led : List (Addr × Obj)} {S : List (Addr × Obj) → Prop} (Y : List Value → Nat → Prop) (n : Nat) (h0 : Y [] 0)
    (turn : ∀ i ys, i < n → Y ys i → ∀ v a oI C oC D m₂ h tk (E' : Value → Shared → Prop), P i v → LCg.NsObj oC m₂ → m₂ x = some v → Fr h₀ L h m → News h₀ L h ((a, oI) :: (C, oC) :: (D, LCg.lst ys) :: led) → LCg.Off3 a C D led → ((@Ne Nat a C) ∧ (@Ne Nat a D) ∧ (@Ne Nat C D)) →
      wpAny (model prog w) A (eval elt (compEnvC scope cl C env)) (LCg.CompEnd h₀ L m { s with heap := h, toks := tk } a oI C oC D (LCg.lst ys) S (fun y nw' => nw' = led ∧ Y (ys ++ [y]) (i + 1))) E' { s with heap := h, toks := tk })
    (fin : ∀ ys, Y ys n → Fin ys led) :
    LCg.CompRest prog w A h₀ L m env elt x scope cl s S P Fin n 0 [] led := by
  refine comp_inv (fun i ys nw => nw = led ∧ Y ys i) n ?_ ?_ n 0 [] _ (Nat.zero_add n) ⟨rfl, h0⟩
  · rintro i ys nw hi ⟨rfl, hY⟩ v a oI C oC D m₂ h tk E' hP hC hx F N off ne
    exact turn i ys hi hY v a oI C oC D m₂ h tk E' hP hC hx F N off ne
  · rintro ys nw ⟨rfl, hY⟩
    exact fin ys hY
theorem pure_end1 {I C D l : Addr} {oI oC oD ol : Obj} {led : List (Addr × Obj)} {h' : Heap} {tk : Nat} {rest : Value → List (Addr × Obj) → Prop} {y : Value} {s₁ : Shared} {S : List (Addr × Obj) → Prop} (F : Fr h₀ L h' m)
    (N : News h₀ L h' ((l, ol) :: (I, oI) :: (C, oC) :: (D, oD) :: led)) (off : LCg.Off3 I C D led) (hS : S led) (r : rest y led) :
    LCg.CompEnd h₀ L m s₁ I oI C oC D oD S rest y { s₁ with heap := h', toks := tk } :=
  LCg.CompEnd.intro F N led (fun _ hp => .tail _ hp) off hS r
theorem pure_end0 {I C D : Addr} {oI oC oD : Obj} {led : List (Addr × Obj)} {h' : Heap} {tk : Nat} {rest : Value → List (Addr × Obj) → Prop} {y : Value} {s₁ : Shared} {S : List (Addr × Obj) → Prop} (F : Fr h₀ L h' m)
    (N : News h₀ L h' ((I, oI) :: (C, oC) :: (D, oD) :: led)) (off : LCg.Off3 I C D led) (hS : S led) (r : rest y led) :
    LCg.CompEnd h₀ L m s₁ I oI C oC D oD S rest y { s₁ with heap := h', toks := tk } :=
  LCg.CompEnd.intro F N led (fun _ hp => hp) off hS r
end
local macro_rules | `(tactic| walk_at "call ref") => `(tactic| (k_here; (with_reducible show wpAny _ _ (call (Value.ref _) [Value.bytes (KBy.picked _ (some _) (some _)) _, Value.str _ _]) _ _ _); kfb_any; k_dflt (refine' KFB.call_big ?N ?M (sl4 ?h ?h0 ?h1 ?h2).1 (sl4 ?h ?h0 ?h1 ?h2).2 ?_; (case N => k_asm); (case M => k_mem); (case h => assumption); (case h0 => omega); (case h1 => omega); (case h2 => omega)); intro _ _))
theorem off1_ne {D : Addr} : ∀ {l : List (Addr × Obj)}, LCg.Off1 D l → ∀ p ∈ l, p.1 ≠ D
  | [], _, _, h => nomatch h
  | _ :: _, x, p, h => by
    rcases List.mem_cons.mp h with rfl | h
    · exact x.1
    · exact off1_ne x.2 p h
theorem word_get {ps : List Int} {i : Nat} : KFB.value ((ps.drop (0 + 4 * (0 + (i : Int))).toNat).take 4) = wordAt ps (4 * i) := by
  have e : (0 + 4 * (0 + (i : Int))).toNat = 4 * i := by omega
  rw [e]
  rfl
local macro_rules | `(tactic| walk_at "CompSrc") => `(tactic| refine Stop.go ?_)
local macro_rules | `(tactic| walk_at "CompRest") => `(tactic| refine Stop.go ?_)
local macro_rules | `(tactic| walk_at "CompEnd") => `(tactic| refine Stop.go ?_)
set_option maxRecDepth 100000 in
set_option maxHeartbeats 8000000 in
theorem get_spec {w : World} {loose : List Str} {mean : ExcName → Option Value} {mg mb : Str → Option Value} {dp un : Nat} {gd : Option (List Code)} {cn : Str} {cs : Scope} {a : Addr} {ccd : Value} {cl : List (Str × Addr)} {outer : List Env}
    {A₀ : Around} {base h₀ : Heap} {L : Addr} {m : Str → Option Value} {s : Shared} {Q E : Value → Shared → Prop} {t t0 t1 : Tok} {news : List (Addr × Obj)} {b : Array UInt8} {ps : List Int} {many : Int} {n : Nat}
    (B : Below A₀ base outer h₀) (F : Fr h₀ L s.heap m) (X : (hd.heap_39 w.params).In h₀)
    (N : News h₀ L s.heap news) (T : Top hd.view_39 loose mean mg mb h₀) (hk : cs.kind = .function)
    (hb : KBw.bInts b = ps) (hm : many = (n : Int)) (hl : ps.length = 4 * n) (hn : n ≤ 20) (hdp : dp + 9 < recursionLimit)
    (hret : ∀ (D : Addr) (vs : List Value) (c : Nat) (h' : Heap) (tk' : Nat), IntsAre vs ((List.range n).map fun j => wordAt ps (4 * j)) →
      Fr h₀ L h' m → News h₀ L h' ((D, listOf vs.toArray c) :: news) → (∀ p ∈ news, p.1 ≠ D) → Q (.ref D) { s with heap := h', toks := tk' }) :
    wpAny (model PySem.Challenge.rw_xm0738_01.row.prog w) (ktrTop dp un gd cn cs L a ccd cl outer) (call (.ref 24) [.bytes b t, .int 0 t0, .int many t1]) Q E s := by
  w_top off
  revert X; k_fill; intro X
  subst hm
  refine wpAny_call ?_
  k_dflt (refine' code_defC ?k1 ?k2 ?k3 ?k4 ?k5 ?kA ?kF ?kK ?k6 ?k7 ?k8 ?k9 ?kB ?kD ?_ ?c2 ?c3 ?c4; (case kA => exact rfl); (case kF => exact rfl); (case kK => assumption); (case k1 => k_asm); (case k2 => k_asm); (case k3 => k_asm); (case k4 => k_asm); (case k5 => k_asm); (case k6 => k_is); (case k7 => k_is); (case k8 => ktr_room); (case k9 => exact BindsTo.of_eq rfl); (case kB => exact rfl); (case kD => decide +kernel); (case c2 => exact rfl); (case c3 => exact rfl); (case c4 => exact rfl); k_whole; intro g' L' h' tk' cells' FG' F' N' Y' B' X' T' l1; (try k_lt l1); k_cells Y'; (try simp only [List.cons_append, List.nil_append] at N'); (try dsimp only); (try k_lift B'); (try k_fold))
  k_steps
  unfold Stop
  rename IsRange _ _ _ _ _ _ _ _ => R2
  rename Fr _ _ _ _ => F2
  rename News _ _ _ _ => N2
  refine LCg.CompSrc.range rfl F2 N2 R2 (small_one (by omega) (by omega) (by omega) (by omega)) ((rangeSize_nat _ _).trans (by omega : _ = ((n : Nat) : Int))) (by rw [sizeLine_eq]; omega) fun g => ?_
  refine comp_pure (fun ys i => IntsAre ys ((List.range i).map fun j => wordAt ps (4 * j))) n .nil ?turn ?fin
  case turn =>
    rintro i ys hi hY v a9 oI C oC D m2 h tk E' ⟨tv, rfl⟩ hC hx F3 N3 off ne
    simp only [LCg.Off3] at off
    k_steps
    unfold Stop
    refine pure_end1 (by k_asm) (by k_asm) (by simp only [LCg.Off3]; assumption) trivial ⟨rfl, ?_⟩
    rw [List.range_succ, List.map_append, word_get]
    exact hY.append (.cons _ _ .nil)
  case fin =>
    intro ys hY
    k_steps
    exact hret _ _ _ _ _ hY (by k_asm) (by exact news_sl (by k_asm) (.cons_cons _ (.cons _ (.cons _ (.refl _))))) (off1_ne (And.right (And.right (by assumption : _ ≠ _ ∧ _ ≠ _ ∧ LCg.Off1 _ news))))
end
section
local macro_rules | `(tactic| k_all) => `(tactic| with_reducible assumption)
namespace Jn
open PySem.Calls Builtin
set_option maxRecDepth 100000
theorem slot : Slot "bytes" "join" "bytes.join" :=
  .of (owner := "bytes") (n := "join") (by rw [typeLookup_type, builtinLookup_eq_fast]; kernel_rfl) (by decide +kernel) (by decide +kernel) (by decide +kernel)
    (by first | exact .inl (by decide +kernel) | exact .inr (by decide +kernel)) (by rw [isSubtype_type]; kernel_rfl)
theorem type_eq : typeOf (.builtin "bytes.join") = pure (.type "method_descriptor") := by show builtinType _ = _; rw [builtinType_eq_fast]; kernel_rfl
theorem entry : entryFor table "bytes.join" = some Builtin.«bytes.join» := entryFor_of_fast (by kernel_rfl)
theorem args (a b : Value) : argsOk "bytes.join" ⟨[a, b], []⟩ := by unfold argsOk; kernel_rfl
theorem take_eq {b : Array UInt8} {t : Tok} {id : String} : Bytes.takeBuffer? id (.bytes b t) 0 = pure (some (b, none)) := by
  unfold Bytes.takeBuffer?
  rw [KBy.special_eq KBy.look_buffer, KBy.own_buffer]
  have e : (0 == Bytes.fullReadOnly) = false := by decide +kernel
  simp only [pure_bind, e, KBy.buffer_eq]
  kernel_rfl
theorem quiet_eq {b : Array UInt8} {t : Tok} {id : String} : Bytes.takeBufferQuiet? id (.bytes b t) 0 = pure (some (b, none)) := by
  unfold Bytes.takeBufferQuiet?
  rw [take_eq]
  rfl
section
variable {prog : Program} {w : World} {M : Model} {A : Around} {E : Value → Shared → Prop} {s : Shared}
theorem method {pl : Sem Bool} {b : Array UInt8} {t : Tok} {Q : Value × List Value → Shared → Prop} (h : Q (.builtin "bytes.join", [.bytes b t]) s) :
    wpAny M A (getMethod (.bytes b t) (PySem.Str.ofString "join") pl) Q E s := by
  with_reducible exact KBd.method_of (.bytes b t) (typeIs_bytes _ _ _) slot type_eq KBd.noRef h
theorem match_ne {α : Type} {Q : α → Shared → Prop} (arr : Array Value) (f : Value → Sem α) (g : Sem α) (h : arr.size ≠ 1) (hg : wpAny M A g Q E s) : wpAny M A (match arr with | #[x] => f x | _ => g) Q E s := by
  obtain ⟨l⟩ := arr
  match l, h with
  | [], _ => exact hg
  | [x], h => exact absurd rfl h
  | x :: y :: r, _ => exact hg
def val (p : Array UInt8 × Tok) : Value := .bytes p.1 p.2
def Quiet (taken : List (Value × Option Value)) : Prop := ∀ p ∈ taken, p.1.onHeap = false ∧ p.2 = none
theorem letGo_quiet : ∀ {taken : List (Value × Option Value)} {keep : List Value} {Q : Unit → Shared → Prop}, Quiet taken → Q () s → wpAny M A (Bytes.joinLetGo taken keep) Q E s
  | [], _, _, _, h => wpAny_pure h
  | (x, w) :: rest, keep, Q, hq, h => by
    have hw : w = none := (hq (x, w) (.head _)).2
    subst hw
    unfold Bytes.joinLetGo
    exact wpAny_bind (wpAny_letGo (letGo_quiet (fun p hp => hq p (.tail _ hp)) h))
theorem join {l : Addr} {its : List Value} {tb : List (Array UInt8 × Tok)} {t : Tok} {Q : Value → Shared → Prop} (hl : s.heap.IsList l its.toArray) (hI : its = tb.map val) (h1 : tb.length ≠ 1)
    (hz : Bytes.tooLong ((tb.map (·.1)).foldl (fun n p => n + p.size) 0) = false) (hz2 : (Bytes.joined #[] (tb.map (·.1))).size ≤ sizeLine)
    (h : ∀ t' k, Q (.bytes (Bytes.joined #[] (tb.map (·.1))) t') { s with toks := k }) :
    wpAny (model prog w) A (call (.builtin "bytes.join") [.bytes #[] t, .ref l]) Q E s := by
  obtain ⟨o, ho, hc, n, hd⟩ := id hl
  refine wpAny_call_entry slot (typeIs_bytes s _ t) entry ?_ (args _ _)
  unfold Builtin.«bytes.join» Bytes.joinM
  refine wpAny_bind (wpAny_of_eq (a := (.bytes #[] t, .ref l)) (by kernel_rfl) ?_)
  dsimp only
  refine wpAny_ite_true (by rfl) ?_
  refine wpAny_bind ?_
  unfold Bytes.joinItems
  refine wpAny_bind (wpAny_typeOf ⟨o, ho, hc⟩ ?_)
  refine wpAny_ite_true (by rfl) ?_
  refine wpAny_pure ?_
  refine wpAny_bind (wpAny_seqItems ho hd ?_)
  have hlen : its.length = tb.length := by rw [hI, List.length_map]
  have hget : ∀ i p, tb[i]? = some p → its.toArray.getD i Value.none = val p := fun i p e => by
    rw [hI]
    simp [Array.getD_eq_getD_getElem?, e]
  · dsimp only
    refine wpAny_ite_true (by rfl) ?_
    refine match_ne _ _ _ (by rw [List.size_toArray, hlen]; exact h1) ?_
    rw [List.size_toArray, hlen]
    simp only [Std.Legacy.Range.forIn_eq_forIn_range', Std.Legacy.Range.size, Nat.sub_zero, Nat.add_sub_cancel, Nat.div_one]
    refine wpAny_bind ?_
    refine wpAny_forIn_list _ (fun rest b s' => s' = s ∧ ∃ i, i + rest.length = tb.length ∧ rest = List.range' i rest.length ∧ b.1 = ((tb.map (·.1)).take i).toArray ∧ Quiet b.2) _ ?_ ?_ _ _ ⟨rfl, 0, by simp, by simp, by simp, fun _ h => nomatch h⟩
    · rintro j rest ⟨parts, taken⟩ s' ⟨rfl, i, hi, hr, hp, hq⟩
      rw [List.length_cons] at hi hr
      rw [List.range'_succ] at hr
      obtain ⟨rfl, hr'⟩ := List.cons.inj hr
      dsimp only at hp hq ⊢
      have hlt : j < tb.length := by omega
      have hj : tb[j]? = some tb[j] := List.getElem?_eq_getElem hlt
      have e : taken.any (fun x => x.1.onHeap) = false := List.any_eq_false.mpr fun p hp => by rw [(hq p hp).1]; decide
      refine wpAny_bind (wpAny_seqItems ho hd ?_)
      dsimp only
      rw [hget j _ hj]
      refine wpAny_ite_false (by rw [e]; rfl) ?_
      unfold val
      refine wpAny_bind (wpAny_holding (wpAny_of_eq quiet_eq ?_))
      dsimp only
      refine wpAny_bind (wpAny_seqItems ho hd ?_)
      dsimp only
      refine wpAny_ite_false (by rw [List.size_toArray, hlen]; simp) ?_
      refine wpAny_pure ⟨rfl, j + 1, by omega, hr', ?_, ?_⟩
      · dsimp only
        rw [hp, List.take_add_one, List.getElem?_map, hj]
        simp
      · intro p hp
        rcases List.mem_append.mp hp with hp | hp
        · exact hq p hp
        · rw [List.mem_singleton.mp hp]
          exact ⟨rfl, rfl⟩
    · rintro ⟨parts, taken⟩ s' ⟨rfl, i, hi, hr, hp, hq⟩
      have hi' : i = tb.length := by simpa using hi
      subst hi'
      dsimp only at hp hq ⊢
      rw [List.take_of_length_le (by simp)] at hp
      subst hp
      refine wpAny_bind (wpAny_of_eq (a := #[]) rfl ?_)
      refine wpAny_ite_false (by
        have e : ((tb.map (·.1)).toArray.foldl (fun n p => n + p.size) ((#[] : Array UInt8).size * ((tb.map (·.1)).toArray.size - 1))) = (tb.map (·.1)).foldl (fun n p => n + p.size) 0 := by simp
        rw [e, hz]; rfl) ?_
      refine wpAny_bind (wpAny_mkBytes ?_ hz2)
      refine wpAny_bind (wpAny_holding (wpAny_point ?_))
      refine wpAny_bind (letGo_quiet hq ?_)
      exact wpAny_pure ⟨_, rfl, h _ _⟩
end
theorem ints_nil : KBw.bInts #[] = [] := rfl
theorem foldl_join (f : Array UInt8 → Array UInt8 × Nat → Array UInt8) (hf : ∀ o q, f o q = o ++ q.1) : ∀ (l : List (Array UInt8)) (k : Nat) (acc : Array UInt8), KBw.bInts ((l.zipIdx k).foldl f acc) = KBw.bInts acc ++ (l.map KBw.bInts).flatten
  | [], _, acc => by simp
  | p :: r, k, acc => by
    rw [List.zipIdx_cons, List.foldl_cons, hf, foldl_join f hf r (k + 1), KBw.ints_app rfl rfl, List.map_cons, List.flatten_cons, List.append_assoc]
theorem ints_joined (l : List (Array UInt8)) : KBw.bInts (Bytes.joined #[] l) = (l.map KBw.bInts).flatten := by
  have h := foldl_join (fun out q => (if q.2 > 0 then out ++ #[] else out) ++ q.1) (fun o q => by split <;> simp) l 0 #[]
  rw [ints_nil, List.nil_append] at h
  exact h
theorem foldl_size : ∀ (l : List (Array UInt8)) (n : Nat), l.foldl (fun n p => n + p.size) n = n + (l.map KBw.bInts).flatten.length
  | [], n => by simp
  | p :: r, n => by
    rw [List.foldl_cons, foldl_size r, List.map_cons, List.flatten_cons, List.length_append, KBw.ints_length]
    omega
theorem size_joined (l : List (Array UInt8)) : (Bytes.joined #[] l).size = (l.map KBw.bInts).flatten.length := by
  rw [← KBw.ints_length, ints_joined]
section
variable {prog : Program} {w : World} {M : Model} {A : Around} {E : Value → Shared → Prop} {s : Shared}
/-- the join of a made list of bytes -/
theorem join_K {l : Addr} {its : List Value} {tb : List (Array UInt8 × Tok)} {t : Tok} {Q : Value → Shared → Prop} {ks : List Int} (hl : s.heap.IsList l its.toArray) (hI : its = tb.map val) (h1 : tb.length ≠ 1)
    (hk : ((tb.map (·.1)).map KBw.bInts).flatten = ks) (hz : ks.length ≤ 16777216) (h : ∀ b t' k, KBw.bInts b = ks → Q (.bytes b t') { s with toks := k }) :
    wpAny (model prog w) A (call (.builtin "bytes.join") [.bytes #[] t, .ref l]) Q E s := by
  subst hk
  refine join hl hI h1 ?_ ?_ fun t' k => h _ _ _ (ints_joined _)
  · rw [foldl_size, Nat.zero_add]
    exact KBy.tooLong_not hz
  · rw [size_joined, sizeLine_eq]
    exact hz
end
end Jn
end
section
local macro_rules | `(tactic| walk_at "own pad 0") => `(tactic| fail)
local macro_rules | `(tactic| walk_at "own pad 1") => `(tactic| fail)
local macro_rules | `(tactic| k_all) => `(tactic| with_reducible assumption)
local macro_rules | `(tactic| walk_at "getMethod bytes") => `(tactic| (k_here; (with_reducible refine Jn.method ?_)))
local macro_rules | `(tactic| walk_at "call builtin:bytes.join") => `(tactic| refine Stop.go ?_)
theorem mod_word (v : Int) : 0 ≤ v.fmod 4294967296 ∧ v.fmod 4294967296 < 4294967296 := fmod_facts (by decide) v
local macro_rules | `(tactic| walk_at "call builtin:int.to_bytes") => `(tactic| (k_here; (with_unfolding_all refine KTBy.to_big (k := 4) (B := 4294967296) (by decide) (by decide) (mod_word _).1 (mod_word _).2 ?_); intro b9 t9 k9 ktb1 ktb2))
local macro_rules | `(tactic| walk_at "CompSrc") => `(tactic| refine Stop.go ?_)
local macro_rules | `(tactic| walk_at "CompRest") => `(tactic| refine Stop.go ?_)
local macro_rules | `(tactic| walk_at "CompEnd") => `(tactic| refine Stop.go ?_)
theorem put_step {tb : List (Array UInt8 × Tok)} {ns : List Int} {g : Int → List Int} {i : Nat} {v : Int} {b : Array UInt8} {t : Tok} (hv : ns[i]? = some v) (ht1 : tb.length = i) (ht2 : (tb.map (·.1)).map KBw.bInts = (ns.take i).map g) (hb : KBw.bInts b = g v) :
    ∃ tb' : List (Array UInt8 × Tok), tb.map Jn.val ++ [.bytes b t] = tb'.map Jn.val ∧ tb'.length = i + 1 ∧ (tb'.map (·.1)).map KBw.bInts = (ns.take (i + 1)).map g := by
  refine ⟨tb ++ [(b, t)], by rw [List.map_append]; rfl, by rw [List.length_append, ht1]; rfl, ?_⟩
  rw [List.take_add_one, hv, List.map_append, List.map_append, List.map_append, ht2]
  show _ ++ [KBw.bInts b] = _ ++ [g v]
  rw [hb]
set_option maxRecDepth 100000 in
set_option maxHeartbeats 8000000 in
theorem put_spec {w : World} {loose : List Str} {mean : ExcName → Option Value} {mg mb : Str → Option Value} {dp un : Nat} {gd : Option (List Code)} {cn : Str} {cs : Scope} {a : Addr} {ccd : Value} {cl : List (Str × Addr)} {outer : List Env}
    {A₀ : Around} {base h₀ : Heap} {L : Addr} {m : Str → Option Value} {s : Shared} {Q E : Value → Shared → Prop} {l : Addr} {c : Nat} {news : List (Addr × Obj)} {vs : List Value} {ns : List Int}
    (B : Below A₀ base outer h₀) (F : Fr h₀ L s.heap m) (X : (hd.heap_39 w.params).In h₀)
    (N : News h₀ L s.heap news) (M : (l, listOf vs.toArray c) ∈ news) (T : Top hd.view_39 loose mean mg mb h₀) (hk : cs.kind = .function)
    (hi : IntsAre vs ns) (hn : ns.length ≤ 20) (hn1 : ns.length ≠ 1) (hdp : dp + 9 < recursionLimit)
    (hret : ∀ (b : Array UInt8) (t : Tok) (h' : Heap) (tk' : Nat), KBw.bInts b = (ns.map fun v => (KTBy.little 4 (v.fmod 4294967296)).reverse).flatten →
      Fr h₀ L h' m → News h₀ L h' news → Q (.bytes b t) { s with heap := h', toks := tk' }) :
    wpAny (model PySem.Challenge.rw_xm0738_01.row.prog w) (ktrTop dp un gd cn cs L a ccd cl outer) (call (.ref 19) [.ref l]) Q E s := by
  w_top off
  revert X; k_fill; intro X
  replace N : News h₀ L s.heap ((l, listOf vs.toArray c) :: news) := fun p hp => by
    rcases List.mem_cons.mp hp with rfl | hp
    · exact N _ M
    · exact N _ hp
  refine wpAny_call ?_
  k_dflt cell_enter
  k_steps
  unfold Stop
  rename Fr _ _ _ _ => F2
  rename News _ _ _ _ => N2
  have hvs : vs.toArray.size = ns.length := by rw [List.size_toArray]; exact hi.length
  refine LCg.CompSrc.ledger rfl F2 N2 (.head _) (by rw [hvs, sizeLine_eq]; omega) fun g => ?_
  rw [hvs]
  refine comp_pure (fun ys i => ∃ tb : List (Array UInt8 × Tok), ys = tb.map Jn.val ∧ tb.length = i ∧ (tb.map (·.1)).map KBw.bInts = (ns.take i).map fun v => (KTBy.little 4 (v.fmod 4294967296)).reverse) ns.length ⟨[], rfl, rfl, by simp⟩ ?turn ?fin
  case turn =>
    rintro i ys hi9 ⟨tb, rfl, ht1, ht2⟩ v a9 oI C oC D m2 h tk E' hv hC hx F3 N3 off ne
    simp only [LCg.Off3] at off
    have hni : ns[i]? = some ns[i] := List.getElem?_eq_getElem hi9
    obtain ⟨tv, hvi⟩ := hi.get i _ hni
    have hv2 : v = .int ns[i] tv := by
      have h9 : vs[i]? = some v := by simpa using hv
      rw [hvi] at h9
      exact (Option.some.inj h9).symm
    subst hv2
    k_steps
    unfold Stop
    exact pure_end0 (by k_asm) (by k_asm) (by simp only [LCg.Off3]; assumption) (.inr ⟨_, .head _, rfl, _, rfl⟩) ⟨rfl, put_step hni ht1 ht2 (by assumption)⟩
  case fin =>
    rintro ys ⟨tb, rfl, ht1, ht2⟩
    k_steps
    unfold Stop
    rename News _ _ _ _ => N9
    refine Jn.join_K (PySem.IsL.isList (N9 _ (.head _)).1) rfl (by omega) (by rw [ht2, List.take_length]) ?len (fun b9 t9 k9 hb9 => ?_)
    case len =>
      have e : ∀ l : List Int, (l.map fun v => (KTBy.little 4 (v.fmod 4294967296)).reverse).flatten.length = 4 * l.length := fun l => by
        induction l with
        | nil => rfl
        | cons v r ih => rw [List.map_cons, List.flatten_cons, List.length_append, ih, List.length_reverse, KTBy.little_length, List.length_cons]; omega
      rw [e]
      omega
    k_steps
    exact hret _ _ _ _ hb9 (by k_asm) (by exact news_sl (by k_asm) (.cons _ (.cons _ (.refl _))))
end
section
local macro_rules | `(tactic| walk_at "own pad 0") => `(tactic| fail)
local macro_rules | `(tactic| walk_at "own pad 1") => `(tactic| fail)
local macro_rules | `(tactic| walk_at "own pad 2") => `(tactic| fail)
local macro_rules | `(tactic| k_all) => `(tactic| with_reducible assumption)
theorem range_stop {M : Model} {A : Around} {E : Value → Shared → Prop} {s : Shared} {Q : Value → Shared → Prop} {r : Addr} {a b c : Int} {t u v : Tok} (_hr : IsRange s.heap r a b c t u v) (h : Stop (wpAny M A (pyIter (.ref r)) Q E s)) : wpAny M A (pyIter (.ref r)) Q E s := h
local macro_rules | `(tactic| walk_at "pyIter ref") => `(tactic| (refine range_stop (by assumption) ?_))
local macro_rules | `(tactic| walk_at "exec For Name Call cons nil") => `(tactic| (k_here; (rename Fr _ _ _ _ => lF'); (with_unfolding_all refine' For_invVF lF' ?k1 ?k2 ?_; (case k1 => exact rfl); (case k2 => exact rfl); k_whole)))
section
variable {prog : Program} {w : World} {A : Around} {E : Value → Shared → Prop} {s : Shared} {env : Env} {h₀ : Heap} {x : Str} {body : List Stmt} {Q : Flow → Shared → Prop}
theorem my_tuple {σ : Type} {ax : Addr} {items : Array Value} {m₀ : Str → Option Value} {adr : List Addr} (Led : Nat → σ → List (Addr × Obj)) (ps : Nat → σ → List (Str × Value)) (stored : List Str) (P : Nat → σ → Prop)
    (hh : A.handled = none) (ht : s.heap.IsTuple ax items) (haL : env.locals ≠ ax) (hadr : ∀ i c, (Led i c).map (·.1) = adr) (hax : ax ∉ adr) (F : Fr h₀ env.locals s.heap m₀)
    (hc : ∃ c₀, News h₀ env.locals s.heap (Led 0 c₀) ∧ (∀ p ∈ ps 0 c₀, m₀ p.1 = some p.2) ∧ P 0 c₀)
    (turn : ∀ (i : Nat) (v : Value) (c₁ : σ) (u : Str → Option Value) h tk own, items[i]? = some v → OwnOff own adr → P i c₁ →
      Fr h₀ env.locals h (fun y => if y = x then some v else kstB (fun z => if stored.contains z then u z else m₀ z) (ps i c₁) y) →
      News h₀ env.locals h (Led i c₁ ++ own) →
      wpAny (model prog w) A (execs body env) (InvPostN h₀ env.locals (MyS Led ps x stored m₀ P (i + 1)) own adr { s with heap := h, toks := tk } Q) E { s with heap := h, toks := tk })
    (done : ∀ (c₁ : σ) (u : Str → Option Value) h tk, P items.size c₁ → Fr h₀ env.locals h (fun y => if y = x then u y else kstB (fun z => if stored.contains z then u z else m₀ z) (ps items.size c₁) y) → News h₀ env.locals h (Led items.size c₁) → Q .next { s with heap := h, toks := tk }) :
    wpAny (model prog w) A (pyIter (.ref ax)) (fun it s₂ => LoopAtV prog w A h₀ env x body Q E it s₂) E s := by
  obtain ⟨c₀, N, hk, hp⟩ := hc
  obtain ⟨ol, hol, _⟩ := id ht
  have hne : ax ≠ s.heap.objs.size := Nat.ne_of_lt (Heap.lt_size hol)
  refine wpAny_pyIter_tuple ht ?_
  refine loop_invN (fun i m nx => MyS Led ps x stored m₀ P i m nx) (Walks.tuple hh s.heap.objs.size ax hne items) ?_ ?_ ?_ ?_ ⟨⟨_, Heap.get?_push_size _ rfl, rfl, rfl⟩, ht.at fun o e => Heap.get?_push_of_some _ e⟩ (F.push _) (fun p hp => ⟨Heap.get?_push_of_some _ (N p hp).1, (N p hp).2⟩) ⟨c₀, rfl, hk, fun _ _ _ _ => rfl, hp⟩ ?_ ?_
  · intro hm
    rcases List.mem_cons.mp hm with e | hm
    · exact absurd F.ns.lt (e ▸ Nat.lt_irrefl _)
    · exact haL (List.mem_singleton.mp hm)
  · intro b hb
    rw [List.mem_singleton.mp hb]
    exact next_is_new F
  · intro p hp hI
    exact absurd (Heap.lt_size (N p hp).1) ((List.mem_singleton.mp hI) ▸ Nat.lt_irrefl _)
  · intro p hp hI
    rcases List.mem_cons.mp hI with e | hI
    · exact absurd (Heap.lt_size (N p hp).1) (e ▸ Nat.lt_irrefl _)
    · exact hax (by rw [← List.mem_singleton.mp hI, ← hadr 0 c₀]; exact List.mem_map_of_mem hp)
  · rintro i v m₁ nx h tk own hi hv _ hoff ⟨c₁, rfl, h1, h2, hP⟩ F₁ N₁
    rw [hadr] at hoff ⊢
    exact turn i v c₁ m₁ h tk own hv hoff hP (kst_fr h1 h2 F₁) N₁
  · rintro m₁ nx h tk ⟨c₁, rfl, h1, h2, hP⟩ F₁ N₁
    exact done c₁ m₁ h tk hP (kst_frOut h1 h2 F₁) N₁
end
theorem tup_stop {M : Model} {A : Around} {E : Value → Shared → Prop} {s : Shared} {Q : Value → Shared → Prop} {r : Addr} (h : Stop (wpAny M A (pyIter (.ref r)) Q E s)) : wpAny M A (pyIter (.ref r)) Q E s := h
local macro_rules | `(tactic| walk_at "pyIter ref") => `(tactic| ((with_reducible show wpAny _ _ (pyIter (Value.ref _)) (fun it s₂ => LoopAtV _ _ _ _ _ _ _ _ _ it s₂) _ _); refine tup_stop ?_))
local macro_rules | `(tactic| walk_at "exec For Name Tuple cons nil") => `(tactic| (k_here; (rename Fr _ _ _ _ => lF'); (with_unfolding_all refine' For_invVF lF' ?k1 ?k2 ?_; (case k1 => exact rfl); (case k2 => exact rfl); k_whole)))
local macro_rules | `(tactic| walk_at "InvEndN") => `(tactic| refine Stop.go ?_)
local macro_rules | `(tactic| walk_at "UnrEnd") => `(tactic| refine Stop.go ?_)
/-- the weights: 1, 0, and then each the sum of the two ahead -/
def wt : Nat → Int
  | 0 => 1
  | 1 => 0
  | k + 2 => wt (k + 1) + wt k
def part (ns : List Int) (last : Nat) : Nat → Int
  | 0 => 0
  | j + 1 => part ns last j + ns.getD j 0 * wt (last - j)
def weigh (ns : List Int) (x y : Int) (last : Nat) : Int := (x * wt last + y * wt (last + 1) + part ns last ns.length).fmod 4294967296
theorem wt_at {m j : Nat} (h : j < m) : ((List.range m).map wt).getD j 0 = wt j := by
  rw [List.getD_eq_getElem?_getD, List.getElem?_map, List.getElem?_range h]
  rfl
theorem wt_next {i : Nat} : ((List.range (i + 2)).map wt).getD (-1 + (((List.range (i + 2)).map wt).length : Int)).toNat 0 + ((List.range (i + 2)).map wt).getD (-2 + (((List.range (i + 2)).map wt).length : Int)).toNat 0 = wt (i + 2) := by
  have e1 : (-1 + (((List.range (i + 2)).map wt).length : Int)).toNat = i + 1 := by rw [List.length_map, List.length_range]; omega
  have e2 : (-2 + (((List.range (i + 2)).map wt).length : Int)).toNat = i := by rw [List.length_map, List.length_range]; omega
  rw [e1, e2, wt_at (by omega), wt_at (by omega)]
  rfl
theorem unr_wt {h₀ : Heap} {L I D : Addr} {it : Obj} {tail : List (Addr × Obj)} {s₁ : Shared} {h' : Heap} {tk : Nat} {m₀ m' : Str → Option Value} {i c : Nat} {us : List Value} {v : Int} {tv : Tok} (F : Fr h₀ L h' m') (N : News h₀ L h' ((I, it) :: (D, listOf (us.toArray.push (.int v tv)) c) :: tail)) (hI : D < I) (off : ∀ p ∈ tail, p.1 ≠ I)
    (h1 : IntsAre us ((List.range (i + 2)).map wt)) (hv : v = wt (i + 2)) (hr : ∀ z, z ≠ Str.ofString "turn" → m' z = m₀ z) :
    UnrEnd h₀ L s₁ I it (MyS (fun _ (c : List Value × Nat) => (D, listOf c.1.toArray c.2) :: tail) (fun _ _ => []) (Str.ofString "turn") [] m₀ (fun i c => IntsAre c.1 ((List.range (i + 2)).map wt)) (i + 1)) { s₁ with heap := h', toks := tk } := by
  subst hv
  rw [List.push_toArray] at N
  have h2 : IntsAre (us ++ [Value.int (wt (i + 2)) tv]) ((List.range (i + 1 + 2)).map wt) := by
    rw [List.range_succ, List.map_append]
    exact h1.append (.cons _ _ .nil)
  refine UnrEnd.intro F N ((D, listOf (us ++ [Value.int (wt (i + 2)) tv]).toArray c) :: tail) (fun _ hp => hp) ?_ ⟨(_, c), rfl, List.forall_mem_nil _, ?_, h2⟩
  · intro p hp
    rcases List.mem_cons.mp hp with rfl | hp
    · exact Nat.ne_of_lt hI
    · exact off p hp
  · intro z hz _ _
    exact hr z hz
theorem pair_items {a : Int} {t1 t2 : Tok} {i : Nat} {v : Value} (h : ([Value.int a t1, Value.int (a + 1) t2].toArray)[i]? = some v) : i < 2 ∧ ∃ t, v = .int (a + (i : Int)) t := by
  match i, h with
  | 0, h =>
    simp at h
    exact ⟨by decide, t1, by rw [← h]; simp⟩
  | 1, h =>
    simp at h
    exact ⟨by decide, t2, by rw [← h]; simp⟩
  | i + 2, h => simp at h
theorem not_adr {D : Addr} {led : List (Addr × Obj)} (h : ∀ p ∈ led, p.1 < D) : D ∉ led.map (·.1) := fun hm => by
  obtain ⟨p, hp, e⟩ := List.mem_map.mp hm
  exact absurd (h p hp) (by rw [e]; exact Nat.lt_irrefl _)
theorem start_val {h₀ h : Heap} {L : Addr} {m : Str → Option Value} {v u : Int} {t : Tok} (y : Str) (_F : Fr h₀ L h m) (h1 : m y = some (.int v t)) (e : v = u) : m y = some (.int u t) := e ▸ h1
def totj (ns : List Int) (x y : Int) (last j : Nat) : Int := x * wt last + y * wt (last + 1) + part ns last j
theorem tot0 {ns : List Int} {x y : Int} {n i : Nat} (hn : ns.length = n) (hi : i < 2) : x * ((List.range (n + 1 + 2)).map wt).getD ((ns.length : Int) + (i : Int)).toNat 0 + y * ((List.range (n + 1 + 2)).map wt).getD ((ns.length : Int) + (i : Int) + 1).toNat 0 = totj ns x y (n + i) 0 := by
  have e1 : ((ns.length : Int) + (i : Int)).toNat = n + i := by omega
  have e2 : ((ns.length : Int) + (i : Int) + 1).toNat = n + i + 1 := by omega
  rw [e1, e2, wt_at (by omega), wt_at (by omega)]
  exact (Int.add_zero _).symm
theorem totS {ns : List Int} {x y : Int} {n i j : Nat} (hn : ns.length = n) (hi : i < 2) (hj : j < n) : totj ns x y (n + i) j + ns.getD (0 + (j : Int) * 1).toNat 0 * ((List.range (n + 1 + 2)).map wt).getD ((ns.length : Int) + (i : Int) - (0 + (j : Int) * 1)).toNat 0 = totj ns x y (n + i) (j + 1) := by
  have e1 : (0 + (j : Int) * 1).toNat = j := by omega
  have e2 : ((ns.length : Int) + (i : Int) - (0 + (j : Int) * 1)).toNat = n + i - j := by omega
  rw [e1, e2, wt_at (by omega)]
  exact Int.add_assoc _ _ _
theorem unr_tot {h₀ : Heap} {L I : Addr} {it : Obj} {led : List (Addr × Obj)} {s₁ : Shared} {h' : Heap} {tk : Nat} {m₀ m' : Str → Option Value} {ns : List Int} {x y : Int} {last j : Nat} {v : Int} {tv : Tok} (F : Fr h₀ L h' m') (N : News h₀ L h' ((I, it) :: led)) (off : ∀ p ∈ led, p.1 ≠ I)
    (h1 : m' (Str.ofString "total") = some (.int v tv)) (e : v = totj ns x y last (j + 1)) (hr : ∀ z, z ≠ Str.ofString "at" → z ≠ Str.ofString "total" → m' z = m₀ z) :
    UnrEnd h₀ L s₁ I it (MyS (fun _ (_ : Tok) => led) (fun j c => [(Str.ofString "total", .int (totj ns x y last j) c)]) (Str.ofString "at") [] m₀ (fun _ _ => True) (j + 1)) { s₁ with heap := h', toks := tk } := by
  subst e
  refine UnrEnd.intro F N led (fun _ hp => hp) off ⟨tv, rfl, List.forall_mem_cons.mpr ⟨h1, List.forall_mem_nil _⟩, ?_, trivial⟩
  intro z hz hp _
  simp only [List.forall_mem_cons] at hp
  exact hr z hz hp.1
theorem inv_told {h₀ : Heap} {L D : Addr} {tail own : List (Addr × Obj)} {s₁ : Shared} {h' : Heap} {tk : Nat} {m₀ m' : Str → Option Value} {f : Nat → Int} {i c : Nat} {ts : List Value} {v : Int} {tv : Tok} {pre : List (Addr × Obj)} {news : List (Addr × Obj)} {adr : List Addr} (F : Fr h₀ L h' m') (N : News h₀ L h' ((D, listOf (ts.toArray.push (.int v tv)) c) :: tail)) (ht : ∀ p ∈ pre ++ news, p ∈ tail) (ho : ∀ p ∈ own, p ∈ tail)
    (h1 : IntsAre ts ((List.range i).map f)) (hv : v = f i) (hadr : D :: (pre ++ news).map (·.1) = adr) (hr : ∀ z, z ≠ Str.ofString "last" → z ≠ Str.ofString "total" → z ≠ Str.ofString "at" → m' z = m₀ z) :
    InvEndN h₀ L (MyS (fun _ (c : List Value × Nat) => (D, listOf c.1.toArray c.2) :: (pre ++ news)) (fun _ _ => []) (Str.ofString "last") [Str.ofString "total", Str.ofString "at"] m₀ (fun i c => IntsAre c.1 ((List.range i).map f)) (i + 1)) own adr s₁ { s₁ with heap := h', toks := tk } := by
  subst hv
  rw [List.push_toArray] at N
  have h2 : IntsAre (ts ++ [Value.int (f i) tv]) ((List.range (i + 1)).map f) := by
    rw [List.range_succ, List.map_append]
    exact h1.append (.cons _ _ .nil)
  refine InvEndN.intro (nx := (D, listOf (ts ++ [Value.int (f i) tv]).toArray c) :: (pre ++ news)) F N ⟨(_, c), rfl, List.forall_mem_nil _, ?_, h2⟩ hadr ?_ ?_
  · intro z hz _ hs
    simp only [List.contains_cons, List.contains_nil, Bool.or_false, Bool.or_eq_false_iff, beq_eq_false_iff_ne, ne_eq] at hs
    exact hr z hz hs.1 hs.2
  · intro p hp
    rcases List.mem_cons.mp hp with rfl | hp
    · exact .head _
    · exact .tail _ (ht p hp)
  · exact fun p hp => .tail _ (ho p hp)
theorem mul_word {ns : List Int} {i : Nat} {b : Int} (h : ∀ i, 0 ≤ ns.getD i 0 ∧ ns.getD i 0 < 4294967296) : IntMulOk (ns.getD i 0) b :=
  IntMulOk.of_left (intBits_le_64 (Int.le_trans (by decide) (h i).1) (Int.lt_trans (h i).2 (by decide)))
theorem word_bound {ns : List Int} (h : ∀ v ∈ ns, 0 ≤ v ∧ v < 4294967296) (i : Nat) : 0 ≤ ns.getD i 0 ∧ ns.getD i 0 < 4294967296 := by
  rw [List.getD_eq_getElem?_getD]
  cases e : ns[i]? with
  | none => exact ⟨Int.le_refl 0, by decide⟩
  | some v => exact h v (List.mem_of_getElem? e)
local macro_rules | `(tactic| mul_fits) => `(tactic| exact mul_word (by assumption))
set_option maxRecDepth 100000 in
set_option maxHeartbeats 8000000 in
theorem weighed_spec {w : World} {loose : List Str} {mean : ExcName → Option Value} {mg mb : Str → Option Value} {dp un : Nat} {gd : Option (List Code)} {cn : Str} {cs : Scope} {a : Addr} {ccd : Value} {cl : List (Str × Addr)} {outer : List Env}
    {A₀ : Around} {base h₀ : Heap} {L : Addr} {m : Str → Option Value} {s : Shared} {Q E : Value → Shared → Prop} {l tp : Addr} {c k n : Nat} {x y : Int} {tx ty : Tok} {news : List (Addr × Obj)} {vs : List Value} {ns : List Int}
    (B : Below A₀ base outer h₀) (F : Fr h₀ L s.heap m) (X : (hd.heap_39 w.params).In h₀)
    (N : News h₀ L s.heap news) (M : (l, listOf vs.toArray c) ∈ news) (M2 : (tp, ({ cls := .type "tuple", data := .seq [.int x tx, .int y ty].toArray k } : Obj)) ∈ news) (T : Top hd.view_39 loose mean mg mb h₀) (hk : cs.kind = .function)
    (hi : IntsAre vs ns) (hn : ns.length = n) (hn2 : n ≤ 20) (hw : ∀ v ∈ ns, 0 ≤ v ∧ v < 4294967296) (hx : 0 ≤ x) (hx2 : x < 4294967296) (hy : 0 ≤ y) (hy2 : y < 4294967296) (hdp : dp + 9 < recursionLimit)
    (hret : ∀ (tq : Addr) (tx' ty' : Tok) (h' : Heap) (tk' : Nat),
      Fr h₀ L h' m → News h₀ L h' ((tq, { cls := .type "tuple", data := .seq [.int (weigh ns x y n) tx', .int (weigh ns x y (n + 1)) ty'].toArray }) :: news) → (∀ p ∈ news, p.1 < tq) → Q (.ref tq) { s with heap := h', toks := tk' }) :
    wpAny (model PySem.Challenge.rw_xm0738_01.row.prog w) (ktrTop dp un gd cn cs L a ccd cl outer) (call (.ref 78) [.ref l, .ref tp]) Q E s := by
  w_top off
  revert X; k_fill; intro X
  replace N : News h₀ L s.heap ((l, listOf vs.toArray c) :: (tp, { cls := .type "tuple", data := .seq [.int x tx, .int y ty].toArray k }) :: news) := fun p hp => by
    rcases List.mem_cons.mp hp with rfl | hp
    · exact N _ M
    · rcases List.mem_cons.mp hp with rfl | hp
      · exact N _ M2
      · exact N _ hp
  refine wpAny_call ?_
  k_dflt cell_enter
  k_steps
  unfold Stop
  rename_i l9 _ l1 _ _ _ _ _ _ _ _ R9 F9 N9 _
  have hl9 : l < l9 := l1.1
  have htp9 : tp < l9 := l1.2.1
  have hoff : ∀ p ∈ news, p.1 ≠ l9 := fun p hp => Nat.ne_of_lt (ktn_ltOf l1.2.2 p hp)
  refine my_range (σ := List Value × Nat) (n := n + 1) (fun _ c1 => (l9, listOf c1.1.toArray c1.2) :: (l, listOf vs.toArray c) :: (tp, { cls := .type "tuple", data := .seq [.int x tx, .int y ty].toArray k }) :: news) (fun _ _ => []) []
    (fun i c => IntsAre c.1 ((List.range (i + 2)).map wt)) rfl R9 (small_one (by omega) (by omega) (by omega) (by omega)) ((rangeSize_nat _ _).trans (by omega)) F9 ⟨([.int 1 _, .int 0 _], 0), N9, List.forall_mem_nil _, .cons _ _ (.cons _ _ .nil)⟩ ?turn ?done
  case turn =>
    rintro I i ⟨us, cnt⟩ t1 u hh tk hi9 hP F N ⟨c₀, hI⟩
    dsimp only [kstB] at F
    dsimp only at hP N hI
    (try k_fold)
    have hIl : l9 < I := hI _ (.head _)
    have hIne : I ≠ l9 := Nat.ne_of_gt hIl
    have hul : us.length = i + 2 := by rw [hP.length, List.length_map, List.length_range]
    k_steps
    unfold Stop
    with_unfolding_all refine unr_wt (by k_asm) (by k_asm) hIl (fun p hp => Nat.ne_of_lt (hI p (.tail _ hp))) hP wt_next ?w2
    case w2 => (intro z h1; simp [h1])
  case done =>
    rintro ⟨us, cnt⟩ u hh tk hP F N
    dsimp only [kstB] at F
    dsimp only at hP N
    (try k_fold)
    k_steps
    unfold Stop
    rename Fr _ _ _ _ => F2
    rename News _ _ _ _ => N2
    rename_i lT h1 lA D1 h2 lB h3 F3 N3 h4 h5 D2 h6 lC
    refine my_tuple (σ := List Value × Nat) (ax := D2) (fun _ c1 => (lT, listOf c1.1.toArray c1.2) :: (l9, listOf us.toArray cnt) :: (l, listOf vs.toArray c) :: (tp, { cls := .type "tuple", data := .seq [.int x tx, .int y ty].toArray k }) :: news) (fun _ _ => []) [Str.ofString "total", Str.ofString "at"]
      (fun i c => IntsAre c.1 ((List.range i).map fun j => weigh ns x y (n + j))) rfl ⟨_, (N2 _ (.head _)).1, rfl, _, rfl⟩ (Ne.symm (N2 _ (.head _)).2.1) (fun _ _ => rfl)
      (not_adr (led := (lT, listOf ([] : List Value).toArray 0) :: (l9, listOf us.toArray cnt) :: (l, listOf vs.toArray c) :: (tp, { cls := .type "tuple", data := .seq [.int x tx, .int y ty].toArray k }) :: news) (List.forall_mem_cons.mpr ⟨lC.2.1, List.forall_mem_cons.mpr ⟨lC.2.2.1, List.forall_mem_cons.mpr ⟨lC.2.2.2.1, List.forall_mem_cons.mpr ⟨lC.2.2.2.2.1, ktn_ltOf lC.2.2.2.2.2⟩⟩⟩⟩))
      F2 ⟨([], 0), news_sl N2 (.cons _ (.cons _ (.refl _))), List.forall_mem_nil _, .nil⟩ ?turn2 ?done2
    case turn2 =>
      rintro i v ⟨ts, c2⟩ u2 h7 tk7 own hv hown hP2 F4 N4
      obtain ⟨hi2, tv, rfl⟩ := pair_items hv
      dsimp only [kstB] at F4
      simp only [List.cons_append] at N4
      dsimp only at hP2
      have hoT : ∀ p ∈ news ++ own, p.1 ≠ lT := fun p hp => by
        rcases List.mem_append.mp hp with hp | hp
        · exact Nat.ne_of_lt (ktn_ltOf lA.2.2.2 p hp)
        · exact hown p hp lT (.head _)
      have hwb := word_bound hw
      have htl : ts.length = i := by rw [hP2.length, List.length_map, List.length_range]
      (try k_fold)
      k_steps
      unfold Stop
      rename IsRange _ _ _ _ _ _ _ _ => R5
      rename Fr _ _ _ _ => F5
      rename News _ _ _ _ => N5
      refine my_range (σ := Tok) (n := n) (fun _ _ => (lT, listOf ts.toArray c2) :: (l9, listOf us.toArray cnt) :: (l, listOf vs.toArray c) :: (tp, { cls := .type "tuple", data := .seq [.int x tx, .int y ty].toArray k }) :: (news ++ own))
        (fun j c1 => [(Str.ofString "total", .int (totj ns x y (n + i) j) c1)]) [] (fun _ _ => True) rfl R5 (small_one (by omega) (by omega) (by omega) (by omega)) ((rangeSize_nat _ _).trans (by omega)) F5
        (by with_unfolding_all exact ⟨_, N5, List.forall_mem_cons.mpr ⟨(start_val (Str.ofString "total") F5 rfl (tot0 hn hi2) :), List.forall_mem_nil _⟩, trivial⟩) ?turn3 ?done3
      case turn3 =>
        rintro I3 j tw t3 u3 hh3 tk3 hj - F6 N6 ⟨_, hI3⟩
        dsimp only [kstB] at F6
        (try dsimp only at N6 hI3)
        (try k_fold)
        k_steps
        unfold Stop
        with_unfolding_all refine unr_tot (by k_asm) (by k_asm) (fun p hp => Nat.ne_of_lt (hI3 p hp)) rfl (totS hn hi2 hj) ?w3
        case w3 => (intro z h1 h2; simp [h1, h2])
      case done3 =>
        rintro tw u3 hh3 tk3 - F6 N6
        dsimp only [kstB] at F6
        (try dsimp only at N6)
        (try k_fold)
        k_steps
        unfold Stop
        rename Fr _ _ _ _ => F7
        rename News _ _ _ _ => N7
        with_unfolding_all refine inv_told (pre := [(l9, listOf us.toArray cnt), (l, listOf vs.toArray c), (tp, { cls := .type "tuple", data := .seq [.int x tx, .int y ty].toArray k })]) (news := news) F7 N7 ?p1 ?p2 hP2 ?p3 rfl ?p4
        case p1 => exact fun p hp => List.mem_append_left own hp
        case p2 => exact fun p hp => .tail _ (.tail _ (.tail _ (List.mem_append_right news hp)))
        case p3 =>
          unfold weigh
          rw [hn]
          rfl
        case p4 => (intro z h1 h2 h3; simp [h1, h2, h3])
    case done2 =>
      rintro ⟨ts, c2⟩ u2 h7 tk7 hP2 F4 N4
      dsimp only [kstB] at F4
      dsimp only at hP2 N4
      (try k_fold)
      k_steps
      exact hret _ _ _ _ _ (by k_asm) (by exact news_sl (by k_asm) (.cons_cons _ (.cons _ (.cons _ (.cons _ (.cons _ (.refl _))))))) (ktn_ltOf (And.right (And.right (And.right (And.right (by assumption : lT < _ ∧ l9 < _ ∧ l < _ ∧ tp < _ ∧ AllLt _ news))))))
end
section
theorem csum_bound (ps : List Int) {x y : Int} (hx : 0 ≤ x) (hx2 : x < 4294967296) (hy : 0 ≤ y) (hy2 : y < 4294967296) : ∀ n, 0 ≤ (csum ps x y n).1 ∧ (csum ps x y n).1 < 4294967296 ∧ 0 ≤ (csum ps x y n).2 ∧ (csum ps x y n).2 < 4294967296
  | 0 => ⟨hx, hx2, hy, hy2⟩
  | _ + 1 => ⟨(fmod_facts (by decide) _).1, (fmod_facts (by decide) _).2, (fmod_facts (by decide) _).1, (fmod_facts (by decide) _).2⟩
theorem sums_bound (ks : List Int) {x y : Int} (hx : 0 ≤ x) (hx2 : x < 4294967296) (hy : 0 ≤ y) (hy2 : y < 4294967296) : 0 ≤ (sums ks x y).1 ∧ (sums ks x y).1 < 4294967296 ∧ 0 ≤ (sums ks x y).2 ∧ (sums ks x y).2 < 4294967296 := csum_bound _ hx hx2 hy hy2 _
theorem dig_in {b : Array UInt8} {ks : List Int} (hb : KBw.bInts b = ks) (q : Nat) : 0 ≤ (pad8 ks).getD q 0 ∧ (pad8 ks).getD q 0 < 256 := by
  rw [pad8_getD, List.getD_eq_getElem?_getD]
  cases e : ks[q]? with
  | none => exact ⟨Int.le_refl 0, by decide⟩
  | some v => exact KBw.ints_in (b := b) (by rw [hb]; exact List.mem_of_getElem? e)
theorem get_at {ps : List Int} {q : Nat} (h : q < ps.length) : ps[q]? = some (ps.getD q 0) := by
  rw [List.getD_eq_getElem?_getD, List.getElem?_eq_getElem h]
  rfl
theorem four_at {ps : List Int} {p : Nat} (h : p + 4 ≤ ps.length) : (ps.drop p).take 4 = [ps.getD p 0, ps.getD (p + 1) 0, ps.getD (p + 2) 0, ps.getD (p + 3) 0] := by
  rw [List.take_add_one, List.take_add_one, List.take_add_one, List.take_add_one, List.take_zero, List.getElem?_drop, List.getElem?_drop, List.getElem?_drop, List.getElem?_drop,
    get_at (q := p + 0) (by omega), get_at (q := p + 1) (by omega), get_at (q := p + 2) (by omega), get_at (q := p + 3) (by omega)]
  rfl
theorem word_eq {ps : List Int} {p : Nat} (h : p + 4 ≤ ps.length) : wordAt ps p = ((ps.getD p 0 * 256 + ps.getD (p + 1) 0) * 256 + ps.getD (p + 2) 0) * 256 + ps.getD (p + 3) 0 := by
  unfold wordAt
  rw [four_at h]
  show (((0 * 256 + ps.getD p 0) * 256 + ps.getD (p + 1) 0) * 256 + ps.getD (p + 2) 0) * 256 + ps.getD (p + 3) 0 = _
  rw [Int.zero_mul, Int.zero_add]
theorem word_in_range {ps : List Int} {p : Nat} (h : p + 4 ≤ ps.length) (hd : ∀ q, 0 ≤ ps.getD q 0 ∧ ps.getD q 0 < 256) : 0 ≤ wordAt ps p ∧ wordAt ps p < 4294967296 := by
  rw [word_eq h]
  have h0 := hd p
  have h1 := hd (p + 1)
  have h2 := hd (p + 2)
  have h3 := hd (p + 3)
  omega
theorem words_bound {b : Array UInt8} {ks : List Int} (hb : KBw.bInts b = ks) : ∀ v ∈ wordsOf ks, 0 ≤ v ∧ v < 4294967296 := by
  intro v hv
  obtain ⟨j, hj, rfl⟩ := List.mem_map.mp hv
  have hj' := List.mem_range.mp hj
  exact word_in_range (by rw [pad8_length]; omega) (dig_in hb)

theorem words_getD {ks : List Int} {j : Nat} (h : j < 2 * ((ks.length + 7) / 8)) : (wordsOf ks).getD j 0 = wordAt (pad8 ks) (4 * j) := by
  unfold wordsOf
  rw [List.getD_eq_getElem?_getD, List.getElem?_map, List.getElem?_range h]
  rfl
theorem part_rec {ns : List Int} {last : Nat} : ∀ j, j ≤ last + 1 → part ns (last + 2) j = part ns (last + 1) j + part ns last j
  | 0, _ => rfl
  | j + 1, h => by
    have e1 : last + 2 - j = (last - j) + 2 := by omega
    have e2 : last + 1 - j = (last - j) + 1 := by omega
    have e3 : wt ((last - j) + 2) = wt ((last - j) + 1) + wt (last - j) := rfl
    simp only [part]
    rw [part_rec j (by omega), e1, e2, e3, Int.mul_add]
    omega
theorem tot_rec {ns : List Int} {x y : Int} {last j : Nat} (h : j ≤ last + 1) : totj ns x y (last + 2) j = totj ns x y (last + 1) j + totj ns x y last j := by
  have e2 : wt (last + 2 + 1) = wt (last + 1 + 1) + wt (last + 1) := rfl
  have e0 : wt (last + 1 + 1) = wt (last + 1) + wt last := rfl
  simp only [totj]
  rw [part_rec j h, e2, e0]
  simp only [Int.mul_add]
  omega
theorem csum_tot {ks : List Int} {x y : Int} (hx : 0 ≤ x) (hx2 : x < 4294967296) (hy : 0 ≤ y) (hy2 : y < 4294967296) : ∀ i, i ≤ (ks.length + 7) / 8 →
    (csum (pad8 ks) x y i).1 = (totj (wordsOf ks) x y (2 * i) (2 * i)).fmod 4294967296 ∧ (csum (pad8 ks) x y i).2 = (totj (wordsOf ks) x y (2 * i + 1) (2 * i)).fmod 4294967296
  | 0, _ => by
    have e1 : totj (wordsOf ks) x y 0 0 = x := by simp [totj, part, wt]
    have e2 : totj (wordsOf ks) x y 1 0 = y := by simp [totj, part, wt]
    show x = (totj (wordsOf ks) x y 0 0).fmod 4294967296 ∧ y = (totj (wordsOf ks) x y 1 0).fmod 4294967296
    rw [e1, e2, Int.fmod_eq_emod_of_nonneg _ (by decide), Int.fmod_eq_emod_of_nonneg _ (by decide)]
    omega
  | i + 1, h => by
    obtain ⟨h1, h2⟩ := csum_tot (ks := ks) hx hx2 hy hy2 i (by omega)
    have w1 : wordAt (pad8 ks) (8 * i) = (wordsOf ks).getD (2 * i) 0 := by rw [words_getD (by omega)]; congr 1; omega
    have w2 : wordAt (pad8 ks) (8 * i + 4) = (wordsOf ks).getD (2 * i + 1) 0 := by rw [words_getD (by omega)]; congr 1; omega
    have p1 : totj (wordsOf ks) x y (2 * (i + 1)) (2 * (i + 1)) = totj (wordsOf ks) x y (2 * i + 1) (2 * i) + totj (wordsOf ks) x y (2 * i) (2 * i) + (wordsOf ks).getD (2 * i) 0 := by
      rw [← tot_rec (by omega)]
      have a1 : 2 * (i + 1) = 2 * i + 2 := by omega
      have a2 : 2 * i + 2 - 2 * i = 2 := by omega
      have a3 : 2 * i + 2 - (2 * i + 1) = 1 := by omega
      rw [a1]
      simp only [totj, part]
      rw [a2, a3]
      simp only [wt]
      omega
    have p2 : totj (wordsOf ks) x y (2 * (i + 1) + 1) (2 * (i + 1)) = totj (wordsOf ks) x y (2 * (i + 1)) (2 * (i + 1)) + totj (wordsOf ks) x y (2 * i + 1) (2 * i) + (wordsOf ks).getD (2 * i + 1) 0 := by
      have a1 : 2 * (i + 1) + 1 = 2 * i + 1 + 2 := by omega
      have a4 : 2 * (i + 1) = 2 * i + 1 + 1 := by omega
      have a2 : 2 * i + 1 + 2 - 2 * i = 3 := by omega
      have a3 : 2 * i + 1 + 2 - (2 * i + 1) = 2 := by omega
      have a5 : 2 * i + 1 + 1 - 2 * i = 2 := by omega
      have a6 : 2 * i + 1 + 1 - (2 * i + 1) = 1 := by omega
      have r := tot_rec (ns := wordsOf ks) (x := x) (y := y) (last := 2 * i + 1) (j := 2 * i) (by omega)
      rw [a1, a4]
      simp only [totj, part] at r ⊢
      rw [a2, a3, a5, a6]
      simp only [wt] at r ⊢
      omega
    have q1 : (csum (pad8 ks) x y (i + 1)).1 = (totj (wordsOf ks) x y (2 * (i + 1)) (2 * (i + 1))).fmod 4294967296 := by
      show ((csum (pad8 ks) x y i).1 + wordAt (pad8 ks) (8 * i) + (csum (pad8 ks) x y i).2).fmod 4294967296 = _
      rw [h1, h2, w1, p1]
      simp only [Int.fmod_eq_emod_of_nonneg _ (show (0 : Int) ≤ 4294967296 by decide)]
      omega
    refine ⟨q1, ?_⟩
    show ((csum (pad8 ks) x y i).2 + wordAt (pad8 ks) (8 * i + 4) + (csum (pad8 ks) x y (i + 1)).1).fmod 4294967296 = _
    rw [q1, h2, w2, p2]
    simp only [Int.fmod_eq_emod_of_nonneg _ (show (0 : Int) ≤ 4294967296 by decide)]
    omega
theorem m1 {ks : List Int} {x y : Int} (hx : 0 ≤ x) (hx2 : x < 4294967296) (hy : 0 ≤ y) (hy2 : y < 4294967296) : (sums ks x y).1 = weigh (wordsOf ks) x y (2 * ((ks.length + 7) / 8)) ∧ (sums ks x y).2 = weigh (wordsOf ks) x y (2 * ((ks.length + 7) / 8) + 1) := by
  have h := csum_tot (ks := ks) hx hx2 hy hy2 _ (Nat.le_refl _)
  unfold weigh
  rw [words_len]
  exact h

theorem csum_congr {ps qs : List Int} {x y : Int} : ∀ n, (∀ i, i < n → wordAt ps (8 * i) = wordAt qs (8 * i) ∧ wordAt ps (8 * i + 4) = wordAt qs (8 * i + 4)) → csum ps x y n = csum qs x y n
  | 0, _ => rfl
  | n + 1, h => by
    have ih := csum_congr (x := x) (y := y) n fun i hi => h i (by omega)
    obtain ⟨h1, h2⟩ := h n (by omega)
    simp only [csum]
    rw [ih, h1, h2]
theorem word_drop {ps : List Int} {c p : Nat} : wordAt (ps.drop c) p = wordAt ps (c + p) := by
  unfold wordAt
  rw [List.drop_drop]
theorem csum_add {ps : List Int} {x y : Int} {q : Nat} : ∀ j, csum ps x y (q + j) = csum (ps.drop (8 * q)) (csum ps x y q).1 (csum ps x y q).2 j
  | 0 => rfl
  | j + 1 => by
    have ih := csum_add (ps := ps) (x := x) (y := y) (q := q) j
    have e1 : 8 * (q + j) = 8 * q + 8 * j := by omega
    have e2 : 8 * (q + j) + 4 = 8 * q + (8 * j + 4) := by omega
    show csum ps x y ((q + j) + 1) = _
    simp only [csum]
    rw [ih, word_drop, word_drop, e2, e1]
theorem pad_take {ks : List Int} {q : Nat} (hq : 8 * q ≤ ks.length) : pad8 (ks.take (8 * q)) = ks.take (8 * q) := by
  unfold pad8
  have e : (ks.take (8 * q)).length = 8 * q := by rw [List.length_take]; omega
  rw [e]
  have e2 : 8 * ((8 * q + 7) / 8) - 8 * q = 0 := by omega
  rw [e2]
  exact List.append_nil _
theorem pad_drop {ks : List Int} {q : Nat} (hq : 8 * q ≤ ks.length) : pad8 (ks.drop (8 * q)) = (pad8 ks).drop (8 * q) := by
  unfold pad8
  rw [List.drop_append_of_le_length hq, List.length_drop]
  congr 2
  omega
theorem m2 {ks : List Int} {x y : Int} {q : Nat} (hq : 8 * q ≤ ks.length) : sums (ks.drop (8 * q)) (sums (ks.take (8 * q)) x y).1 (sums (ks.take (8 * q)) x y).2 = sums ks x y := by
  have hl : (ks.take (8 * q)).length = 8 * q := by rw [List.length_take]; omega
  have e1 : sums (ks.take (8 * q)) x y = csum (pad8 ks) x y q := by
    unfold sums
    rw [pad_take hq, hl]
    have e : (8 * q + 7) / 8 = q := by omega
    rw [e]
    refine csum_congr q fun i hi => ?_
    have hw : ∀ p, p + 4 ≤ 8 * q → wordAt (ks.take (8 * q)) p = wordAt (pad8 ks) p := fun p hp => by
      rw [word_eq (by rw [hl]; omega), word_eq (by rw [pad8_length]; omega)]
      have g : ∀ r, r < 8 * q → (ks.take (8 * q)).getD r 0 = (pad8 ks).getD r 0 := fun r hr => by
        rw [pad8_getD, List.getD_eq_getElem?_getD, List.getD_eq_getElem?_getD, List.getElem?_take, if_pos hr]
      rw [g p (by omega), g (p + 1) (by omega), g (p + 2) (by omega), g (p + 3) (by omega)]
    exact ⟨hw _ (by omega), hw _ (by omega)⟩
  rw [e1]
  unfold sums
  rw [pad_drop hq, ← csum_add, List.length_drop]
  congr 1
  omega

theorem set_getD {ps : List Int} {p q : Nat} {v : Int} (hp : p < ps.length) : (ps.set p v).getD q 0 = if q = p then v else ps.getD q 0 := by
  rw [List.getD_eq_getElem?_getD, List.getD_eq_getElem?_getD, List.getElem?_set]
  by_cases h : p = q
  · subst h
    simp [hp]
  · rw [if_neg h, if_neg (Ne.symm h)]
theorem pad_set {ks : List Int} {p : Nat} {v : Int} (hp : p < ks.length) : pad8 (ks.set p v) = (pad8 ks).set p v := by
  unfold pad8
  rw [List.length_set, List.set_append_left _ _ hp]
theorem word_set {ps : List Int} {p P : Nat} {v : Int} (hp : p < ps.length) (hP : P + 4 ≤ ps.length) (h : p < P ∨ P + 4 ≤ p) : wordAt (ps.set p v) P = wordAt ps P := by
  rw [word_eq (by rw [List.length_set]; exact hP), word_eq hP, set_getD hp, set_getD hp, set_getD hp, set_getD hp, if_neg (by omega), if_neg (by omega), if_neg (by omega), if_neg (by omega)]
theorem word_ne {ps : List Int} {p P : Nat} {v : Int} (hp : p < ps.length) (hP : P + 4 ≤ ps.length) (h1 : P ≤ p) (h2 : p < P + 4) (hv : v ≠ ps.getD p 0) : wordAt (ps.set p v) P ≠ wordAt ps P := by
  rw [word_eq (by rw [List.length_set]; exact hP), word_eq hP, set_getD hp, set_getD hp, set_getD hp, set_getD hp]
  have hc : p = P ∨ p = P + 1 ∨ p = P + 2 ∨ p = P + 3 := by omega
  rcases hc with rfl | rfl | rfl | rfl
  · rw [if_pos rfl, if_neg (by omega), if_neg (by omega), if_neg (by omega)]; omega
  · rw [if_neg (by omega), if_pos rfl, if_neg (by omega), if_neg (by omega)]; omega
  · rw [if_neg (by omega), if_neg (by omega), if_pos rfl, if_neg (by omega)]; omega
  · rw [if_neg (by omega), if_neg (by omega), if_neg (by omega), if_pos rfl]; omega
theorem stay_ne {ps qs : List Int} {x y : Int} {i : Nat} (h : csum ps x y (i + 1) ≠ csum qs x y (i + 1)) : ∀ n, (∀ j, i < j → j < i + 1 + n → wordAt ps (8 * j) = wordAt qs (8 * j) ∧ wordAt ps (8 * j + 4) = wordAt qs (8 * j + 4)) → csum ps x y (i + 1 + n) ≠ csum qs x y (i + 1 + n)
  | 0, _ => h
  | n + 1, hw => by
    have ih := stay_ne h n fun j h1 h2 => hw j h1 (by omega)
    intro e
    obtain ⟨w1, w2⟩ := hw (i + 1 + n) (by omega) (by omega)
    have hb : ∀ rs : List Int, 0 ≤ (csum rs x y (i + 1 + n)).1 ∧ (csum rs x y (i + 1 + n)).1 < 4294967296 ∧ 0 ≤ (csum rs x y (i + 1 + n)).2 ∧ (csum rs x y (i + 1 + n)).2 < 4294967296 := fun rs => by
      have e9 : i + 1 + n = (i + n) + 1 := by omega
      rw [e9]
      exact ⟨(fmod_facts (by decide) _).1, (fmod_facts (by decide) _).2, (fmod_facts (by decide) _).1, (fmod_facts (by decide) _).2⟩
    have b1 := hb ps
    have b2 := hb qs
    have e1 := congrArg Prod.fst e
    have e2 := congrArg Prod.snd e
    have f1 : ((csum ps x y (i + 1 + n)).1 + wordAt ps (8 * (i + 1 + n)) + (csum ps x y (i + 1 + n)).2).fmod 4294967296 = ((csum qs x y (i + 1 + n)).1 + wordAt qs (8 * (i + 1 + n)) + (csum qs x y (i + 1 + n)).2).fmod 4294967296 := e1
    have f2 : ((csum ps x y (i + 1 + n)).2 + wordAt ps (8 * (i + 1 + n) + 4) + ((csum ps x y (i + 1 + n)).1 + wordAt ps (8 * (i + 1 + n)) + (csum ps x y (i + 1 + n)).2).fmod 4294967296).fmod 4294967296 = ((csum qs x y (i + 1 + n)).2 + wordAt qs (8 * (i + 1 + n) + 4) + ((csum qs x y (i + 1 + n)).1 + wordAt qs (8 * (i + 1 + n)) + (csum qs x y (i + 1 + n)).2).fmod 4294967296).fmod 4294967296 := e2
    rw [f1, w2] at f2
    rw [w1] at f1
    simp only [Int.fmod_eq_emod_of_nonneg _ (show (0 : Int) ≤ 4294967296 by decide)] at f1 f2
    have g2 : (csum ps x y (i + 1 + n)).2 = (csum qs x y (i + 1 + n)).2 := by omega
    have g1 : (csum ps x y (i + 1 + n)).1 = (csum qs x y (i + 1 + n)).1 := by omega
    exact ih (Prod.ext g1 g2)
theorem m3 {b : Array UInt8} {ks : List Int} {x y v : Int} {p : Nat} (hb : KBw.bInts b = ks) (hp : p < ks.length) (hv0 : 0 ≤ v) (hv1 : v < 256) (hv : v ≠ ks.getD p 0) : sums (ks.set p v) x y ≠ sums ks x y := by
  unfold sums
  rw [List.length_set, pad_set hp]
  have hpl := pad8_length ks
  have hpp : p < (pad8 ks).length := by omega
  have hvp : v ≠ (pad8 ks).getD p 0 := by rw [pad8_getD]; exact hv
  have hd := dig_in hb
  have hd2 : ∀ q, 0 ≤ ((pad8 ks).set p v).getD q 0 ∧ ((pad8 ks).set p v).getD q 0 < 256 := fun q => by
    rw [set_getD hpp]
    split
    · exact ⟨hv0, hv1⟩
    · exact hd q
  have hsame : csum ((pad8 ks).set p v) x y (p / 8) = csum (pad8 ks) x y (p / 8) := csum_congr _ fun i hi => ⟨word_set hpp (by omega) (by omega), word_set hpp (by omega) (by omega)⟩
  have hdiff : csum ((pad8 ks).set p v) x y (p / 8 + 1) ≠ csum (pad8 ks) x y (p / 8 + 1) := by
    intro e
    have e1 := congrArg Prod.fst e
    have e2 := congrArg Prod.snd e
    simp only [csum] at e1 e2
    rw [hsame] at e1 e2
    have r1 := word_in_range (ps := pad8 ks) (p := 8 * (p / 8)) (by omega) hd
    have r2 := word_in_range (ps := pad8 ks) (p := 8 * (p / 8) + 4) (by omega) hd
    have r3 := word_in_range (ps := (pad8 ks).set p v) (p := 8 * (p / 8)) (by rw [List.length_set]; omega) hd2
    have r4 := word_in_range (ps := (pad8 ks).set p v) (p := 8 * (p / 8) + 4) (by rw [List.length_set]; omega) hd2
    by_cases hc : p < 8 * (p / 8) + 4
    · have hne := word_ne (P := 8 * (p / 8)) hpp (by omega) (by omega) hc hvp
      simp only [Int.fmod_eq_emod_of_nonneg _ (show (0 : Int) ≤ 4294967296 by decide)] at e1
      omega
    · have hs := word_set (P := 8 * (p / 8)) (v := v) hpp (by omega) (by omega)
      have hne := word_ne (P := 8 * (p / 8) + 4) hpp (by omega) (by omega) (by omega) hvp
      rw [e1] at e2
      simp only [Int.fmod_eq_emod_of_nonneg _ (show (0 : Int) ≤ 4294967296 by decide)] at e2
      omega
  have h := stay_ne hdiff ((ks.length + 7) / 8 - (p / 8 + 1)) fun j h1 h2 => ⟨word_set hpp (by omega) (by omega), word_set hpp (by omega) (by omega)⟩
  have e : p / 8 + 1 + ((ks.length + 7) / 8 - (p / 8 + 1)) = (ks.length + 7) / 8 := by omega
  rw [e] at h
  exact h

theorem little_word {a b c d : Int} (ha : 0 ≤ a ∧ a < 256) (hb : 0 ≤ b ∧ b < 256) (hc : 0 ≤ c ∧ c < 256) (hd : 0 ≤ d ∧ d < 256) : (KTBy.little 4 ((((a * 256 + b) * 256 + c) * 256 + d).fmod 4294967296)).reverse = [a, b, c, d] := by
  rw [Int.fmod_eq_emod_of_nonneg _ (by decide)]
  have e : (((a * 256 + b) * 256 + c) * 256 + d) % 4294967296 = ((a * 256 + b) * 256 + c) * 256 + d := by omega
  rw [e]
  simp only [KTBy.little, List.reverse_cons, List.reverse_nil, List.nil_append, List.cons_append]
  have e1 : (((a * 256 + b) * 256 + c) * 256 + d) % 256 = d := by omega
  have e2 : (((a * 256 + b) * 256 + c) * 256 + d) / 256 = (a * 256 + b) * 256 + c := by omega
  have e3 : ((a * 256 + b) * 256 + c) % 256 = c := by omega
  have e4 : ((a * 256 + b) * 256 + c) / 256 = a * 256 + b := by omega
  have e5 : (a * 256 + b) % 256 = b := by omega
  have e6 : (a * 256 + b) / 256 = a := by omega
  have e7 : a % 256 = a := by omega
  rw [e1, e2, e3, e4, e5, e6, e7]
theorem put_all {ps : List Int} (hd : ∀ q, 0 ≤ ps.getD q 0 ∧ ps.getD q 0 < 256) : ∀ n, 4 * n ≤ ps.length → (((List.range n).map fun j => wordAt ps (4 * j)).map fun v => (KTBy.little 4 (v.fmod 4294967296)).reverse).flatten = ps.take (4 * n)
  | 0, _ => by simp
  | n + 1, h => by
    rw [List.range_succ, List.map_append, List.map_append, List.flatten_append, put_all hd n (by omega)]
    have e : 4 * (n + 1) = 4 * n + 4 := by omega
    rw [e, List.take_add, four_at (by omega)]
    simp only [List.map_cons, List.map_nil, List.flatten_cons, List.flatten_nil, List.append_nil]
    rw [word_eq (by omega), little_word (hd _) (hd _) (hd _) (hd _)]
theorem m5 {b : Array UInt8} {ks : List Int} (hb : KBw.bInts b = ks) : ((wordsOf ks).map fun v => (KTBy.little 4 (v.fmod 4294967296)).reverse).flatten = pad8 ks := by
  have hpl := pad8_length ks
  unfold wordsOf
  rw [put_all (dig_in hb) _ (by omega)]
  exact List.take_of_length_le (by omega)
end
section
local macro_rules | `(tactic| k_all) => `(tactic| with_reducible assumption)
namespace Bn
open PySem.Calls Builtin
set_option maxRecDepth 100000
theorem no_bytes : typeLookup (.type "int") "__bytes__" = pure none := by rw [typeLookup_type, builtinLookup_eq_fast]; kernel_rfl
theorem type_bytes : isType (.type "bytes") = pure true := by first | rfl | kernel_rfl | (unfold isType; rw [isSubtype_type]; kernel_rfl)
section
variable {prog : Program} {w : World} {A : Around} {E : Value → Shared → Prop} {s : Shared}
theorem new {i : Int} {n : Nat} {t : Tok} {Q : Value → Shared → Prop} (hi : i = (n : Int)) (hn : n ≤ 1000)
    (hQ : ∀ t k, Q (.bytes (Array.replicate n 0) t) { s with toks := k }) :
    codeAny (model prog w) A (.call (.builtin "bytes.__new__") ⟨[.type "bytes", .int i t], []⟩) (wants Q E) s := by
  refine codeAny_of_tree ?_
  show wpAny _ A.in1 (do checkBuiltinCall "bytes.__new__" ⟨[.type "bytes", .int i t], []⟩; again (.builtin "bytes.__new__" ⟨[.type "bytes", .int i t], []⟩)) _ _ s
  refine wpAny_bind (wpAny_of_eq (F.bm_newCall _) (wpAny_pure ⟨plainId_quiet F.bm_plain _, codeAny_builtin F.bm_entry ?_⟩))
  rw [Around.under_plainId F.bm_plain _]
  unfold Builtin.«bytes.__new__»
  refine wpAny_bind (wpAny_of_eq (a := true) rfl ?_)
  refine bm_if_false rfl ?_
  refine wpAny_bind (wpAny_of_eq F.bm_sub ?_)
  refine bm_if_false rfl ?_
  refine wpAny_bind (wpAny_of_eq (F.bm_bind _) ?_)
  refine wpAny_bind (wpAny_of_eq (a := ()) rfl ?_)
  refine wpAny_bind (wpAny_of_eq (a := ()) rfl ?_)
  refine bm_if_false rfl ?_
  refine wpAny_bind (wpAny_specialOf (typeIs_int s i t) no_bytes ?_)
  refine wpAny_bind (wpAny_of_eq (a := false) rfl ?_)
  refine bm_if_false rfl ?_
  refine wpAny_bind (wpAny_specialOf (name := PySem.Str.ofString "__index__") (typeIs_int s i t) F.slot_int_index.lookup ?_)
  refine bm_if_false rfl ?_
  refine wpAny_bind (wpAny_attempt (wpAny_of_eq (rfl : asIndex (.int i t) = pure i) ?_))
  refine bm_if_false (by simp only [Builtin.Bytes.fitsIndex, Bool.not_eq_false', Bool.and_eq_true, decide_eq_true_eq]; omega) ?_
  refine wpAny_ite_false (decide_eq_false (by omega)) ?_
  refine wpAny_ite_false (decide_eq_false (by omega)) ?_
  refine bm_if_false (KBy.tooLong_not (by omega)) ?_
  refine wpAny_bind (wpAny_rule ?_)
  refine wpAny_bind (wpAny_mkBytes ?_ (by rw [Array.size_replicate, sizeLine_eq]; omega))
  have e : i.toNat = n := by omega
  rw [e]
  show wpAny _ _ (if (Value.type "bytes" == Value.type "bytes") = true then _ else _) _ _ _
  refine bm_if_true (by decide) ?_
  first
    | exact wpAny_pure (hQ _ _)
    | exact wpAny_bind (wpAny_pure (wpAny_pure (hQ _ _)))
theorem ints_zero (n : Nat) : KBw.bInts (Array.replicate n 0) = List.replicate n 0 := by
  simp [KBw.bInts]
theorem call_n {i : Int} {t : Tok} {Q : Value → Shared → Prop} (h0 : 0 ≤ i) (h1 : i ≤ 1000) (h : ∀ b t k, KBw.bInts b = List.replicate i.toNat 0 → Q (.bytes b t) { s with toks := k }) : wpAny (model prog w) A (call (.type "bytes") [.int i t]) Q E s := by
  refine callType_codes (Q₁ := fun obj s₁ => s₁.TypeIs obj "bytes" ∧ Q obj s₁) F.bm_called (F.bm_typeCall _) F.entry_object_init
    (new (n := i.toNat) (by omega) (by omega) fun t k => ⟨PySem.W.typeIs_bytes _ _ _, h _ t k (ints_zero _)⟩) fun obj s₁ h₁ => ?_
  exact ⟨h₁.1, F.args_object_init_2 obj _, object_init_meets F.bm_called.init.lookup F.bm_called.made (by decide) prog w A.in1 _ s₁ ⟨h₁.1, rfl, h₁.2⟩⟩
end
end Bn
end
section
local macro_rules | `(tactic| k_all) => `(tactic| with_reducible assumption)
theorem take_pos (n : Nat) : 0 < (n : Int).fdiv 8 + 1 := by
  rw [Int.fdiv_eq_ediv_of_nonneg _ (by decide)]
  omega
theorem take_le {n : Nat} (h : n ≤ 40) : (n : Int).fdiv 8 + 1 ≤ 65536 := by
  rw [Int.fdiv_eq_ediv_of_nonneg _ (by decide)]
  omega
theorem ne_len {b : Array UInt8} {ks : List Int} (hb : KBw.bInts b = ks) (h : (b.toList != (#[] : Array UInt8).toList) = true) : 0 < ks.length := by
  rw [← hb, KBw.ints_length]
  rcases Nat.eq_zero_or_pos b.size with e | e
  · have e2 : b = #[] := Array.size_eq_zero_iff.mp e
    rw [e2] at h
    exact absurd h (by decide)
  · exact e
local macro_rules | `(tactic| walk_at "call ref") => `(tactic| (k_here; k_dflt (refine' take_spec ?tB ?tF ?tX ?tN ?tP ?tT ?tk ?toff ?tx ?ty ?ty2 ?tt ?tt2 ?td ?_; (case tB => k_asm); (case tF => k_asm); (case tX => k_asm); (case tN => k_asm); (case tP => first | exact Pick.head | exact (Pick.tail Pick.head) | exact (Pick.tail (Pick.tail Pick.head)) | exact (Pick.tail (Pick.tail (Pick.tail Pick.head))) | exact (Pick.tail (Pick.tail (Pick.tail (Pick.tail Pick.head)))) | exact (Pick.tail (Pick.tail (Pick.tail (Pick.tail (Pick.tail Pick.head))))) | exact (Pick.tail (Pick.tail (Pick.tail (Pick.tail (Pick.tail (Pick.tail Pick.head)))))) | exact (Pick.tail (Pick.tail (Pick.tail (Pick.tail (Pick.tail (Pick.tail (Pick.tail Pick.head))))))) | exact (Pick.tail (Pick.tail (Pick.tail (Pick.tail (Pick.tail (Pick.tail (Pick.tail (Pick.tail Pick.head)))))))) | exact (Pick.tail (Pick.tail (Pick.tail (Pick.tail (Pick.tail (Pick.tail (Pick.tail (Pick.tail (Pick.tail Pick.head))))))))) | exact (Pick.tail (Pick.tail (Pick.tail (Pick.tail (Pick.tail (Pick.tail (Pick.tail (Pick.tail (Pick.tail (Pick.tail Pick.head))))))))))); (case tT => k_asm); (case tk => first | exact rfl | assumption); (case toff => k_all); (case tx => assumption); (case ty => assumption); (case ty2 => assumption); (case tt => first | assumption | omega | exact take_pos _); (case tt2 => first | assumption | omega | exact take_le (by omega)); (case td => ktr_room); k_whole); intro d' x' y' t' tx' ty' n' h' tk' hd0' hd1' hx' hy' hy2' F' N'; (try k_sweep); (try dsimp only); (try k_fold)))
local macro_rules | `(tactic| walk_at "call ref") => `(tactic| (k_here; k_dflt (refine' octets_spec ?tB ?tF ?tX ?tN ?tP ?tT ?tk ?toff ?tx ?ty ?ty2 ?td ?_; (case tB => k_asm); (case tF => k_asm); (case tX => k_asm); (case tN => k_asm); (case tP => first | exact Pick.head | exact (Pick.tail Pick.head) | exact (Pick.tail (Pick.tail Pick.head)) | exact (Pick.tail (Pick.tail (Pick.tail Pick.head))) | exact (Pick.tail (Pick.tail (Pick.tail (Pick.tail Pick.head)))) | exact (Pick.tail (Pick.tail (Pick.tail (Pick.tail (Pick.tail Pick.head))))) | exact (Pick.tail (Pick.tail (Pick.tail (Pick.tail (Pick.tail (Pick.tail Pick.head)))))) | exact (Pick.tail (Pick.tail (Pick.tail (Pick.tail (Pick.tail (Pick.tail (Pick.tail Pick.head))))))) | exact (Pick.tail (Pick.tail (Pick.tail (Pick.tail (Pick.tail (Pick.tail (Pick.tail (Pick.tail Pick.head)))))))) | exact (Pick.tail (Pick.tail (Pick.tail (Pick.tail (Pick.tail (Pick.tail (Pick.tail (Pick.tail (Pick.tail Pick.head))))))))) | exact (Pick.tail (Pick.tail (Pick.tail (Pick.tail (Pick.tail (Pick.tail (Pick.tail (Pick.tail (Pick.tail (Pick.tail Pick.head))))))))))); (case tT => k_asm); (case tk => first | exact rfl | assumption); (case toff => k_all); (case tx => assumption); (case ty => assumption); (case ty2 => assumption); (case td => ktr_room); k_whole); intro b' ks' x' y' t' tx' ty' n' h' tk' hb' hl' hx' hy' hy2' F' N'; (try k_sweep); (try dsimp only); (try k_fold)))
local macro_rules | `(tactic| walk_at "call ref") => `(tactic| (k_here; k_dflt (refine' sum_spec ?tB ?tF ?tX ?tN ?tP ?tT ?tk ?toff ?tx ?ty ?ty2 ?td ?_; (case tB => k_asm); (case tF => k_asm); (case tX => k_asm); (case tN => k_asm); (case tP => first | exact Pick.head | exact (Pick.tail Pick.head) | exact (Pick.tail (Pick.tail Pick.head)) | exact (Pick.tail (Pick.tail (Pick.tail Pick.head))) | exact (Pick.tail (Pick.tail (Pick.tail (Pick.tail Pick.head)))) | exact (Pick.tail (Pick.tail (Pick.tail (Pick.tail (Pick.tail Pick.head))))) | exact (Pick.tail (Pick.tail (Pick.tail (Pick.tail (Pick.tail (Pick.tail Pick.head)))))) | exact (Pick.tail (Pick.tail (Pick.tail (Pick.tail (Pick.tail (Pick.tail (Pick.tail Pick.head))))))) | exact (Pick.tail (Pick.tail (Pick.tail (Pick.tail (Pick.tail (Pick.tail (Pick.tail (Pick.tail Pick.head)))))))) | exact (Pick.tail (Pick.tail (Pick.tail (Pick.tail (Pick.tail (Pick.tail (Pick.tail (Pick.tail (Pick.tail Pick.head))))))))) | exact (Pick.tail (Pick.tail (Pick.tail (Pick.tail (Pick.tail (Pick.tail (Pick.tail (Pick.tail (Pick.tail (Pick.tail Pick.head))))))))))); (case tT => k_asm); (case tk => first | exact rfl | assumption); (case toff => k_all); (case tx => assumption); (case ty => assumption); (case ty2 => assumption); (case td => ktr_room); k_whole); intro d' x' y' t' tx' ty' n' h' tk' hd0' hd1' hx' hy' hy2' F' N'; (try k_sweep); (try dsimp only); (try k_fold)))
local macro_rules | `(tactic| walk_at "call ref") => `(tactic| (k_here; k_dflt (refine' words_spec ?tB ?tF ?tX ?tN ?tT ?tk ?tb ?tl ?td ?_; (case tB => k_asm); (case tF => k_asm); (case tX => k_asm); (case tN => k_asm); (case tT => k_asm); (case tk => first | exact rfl | assumption); (case tb => kba_ints); (case tl => omega); (case td => ktr_room); k_whole); intro D' vs' n' h' tk' hI' F' N' l1; (have hwl := hI'.length.trans (words_len _); have hwl2 := hI'.length.symm.trans hwl); (try k_lt l1); (try k_sweep); (try dsimp only); (try k_fold)))
local macro_rules | `(tactic| walk_at "call ref") => `(tactic| (k_here; k_dflt (refine' sums_spec ?tB ?tF ?tX ?tN ?tM ?tT ?tk ?tb ?tl ?tx ?tx2 ?ty ?ty2 ?td ?_; (case tB => k_asm); (case tF => k_asm); (case tX => k_asm); (case tN => k_asm); (case tM => k_mem); (case tT => k_asm); (case tk => first | exact rfl | assumption); (case tb => kba_ints); (case tl => ((try simp only [List.length_take, List.length_drop, List.length_set]); omega)); (case tx => first | assumption | exact (sums_bound _ (by assumption) (by assumption) (by assumption) (by assumption)).1); (case tx2 => first | assumption | exact (sums_bound _ (by assumption) (by assumption) (by assumption) (by assumption)).2.1); (case ty => first | assumption | exact (sums_bound _ (by assumption) (by assumption) (by assumption) (by assumption)).2.2.1); (case ty2 => first | assumption | exact (sums_bound _ (by assumption) (by assumption) (by assumption) (by assumption)).2.2.2); (case td => ktr_room); k_whole); intro D' tx' ty' h' tk' F' N' l1; (try k_lt l1); (try k_sweep); (try dsimp only); (try k_fold)))
local macro_rules | `(tactic| walk_at "call ref") => `(tactic| (k_here; k_dflt (refine' weighed_spec ?tB ?tF ?tX ?tN ?tM ?tM2 ?tT ?tk ?ti ?tn ?tn2 ?tw ?tx ?tx2 ?ty ?ty2 ?td ?_; (case tB => k_asm); (case tF => k_asm); (case tX => k_asm); (case tN => k_asm); (case tM => k_mem); (case tM2 => k_mem); (case tT => k_asm); (case tk => first | exact rfl | assumption); (case ti => assumption); (case tn => exact words_len _); (case tn2 => omega); (case tw => exact words_bound (by assumption)); (case tx => assumption); (case tx2 => assumption); (case ty => assumption); (case ty2 => assumption); (case td => ktr_room); k_whole); intro D' tx' ty' h' tk' F' N' l1; (try k_lt l1); (try k_sweep); (try dsimp only); (try k_fold)))
local macro_rules | `(tactic| walk_at "call ref") => `(tactic| (k_here; k_dflt (refine' changed_spec ?tB ?tF ?tX ?tN ?tP ?tT ?tk ?toff ?tx ?ty ?ty2 ?tb ?tl ?tl0 ?td ?_; (case tB => k_asm); (case tF => k_asm); (case tX => k_asm); (case tN => k_asm); (case tP => first | exact Pick.head | exact (Pick.tail Pick.head) | exact (Pick.tail (Pick.tail Pick.head)) | exact (Pick.tail (Pick.tail (Pick.tail Pick.head))) | exact (Pick.tail (Pick.tail (Pick.tail (Pick.tail Pick.head)))) | exact (Pick.tail (Pick.tail (Pick.tail (Pick.tail (Pick.tail Pick.head))))) | exact (Pick.tail (Pick.tail (Pick.tail (Pick.tail (Pick.tail (Pick.tail Pick.head)))))) | exact (Pick.tail (Pick.tail (Pick.tail (Pick.tail (Pick.tail (Pick.tail (Pick.tail Pick.head))))))) | exact (Pick.tail (Pick.tail (Pick.tail (Pick.tail (Pick.tail (Pick.tail (Pick.tail (Pick.tail Pick.head)))))))) | exact (Pick.tail (Pick.tail (Pick.tail (Pick.tail (Pick.tail (Pick.tail (Pick.tail (Pick.tail (Pick.tail Pick.head))))))))) | exact (Pick.tail (Pick.tail (Pick.tail (Pick.tail (Pick.tail (Pick.tail (Pick.tail (Pick.tail (Pick.tail (Pick.tail Pick.head))))))))))); (case tT => k_asm); (case tk => first | exact rfl | assumption); (case toff => k_all); (case tx => assumption); (case ty => assumption); (case ty2 => assumption); (case tb => kba_ints); (case tl => omega); (case tl0 => exact ne_len (by assumption) (by assumption)); (case td => ktr_room); k_whole); intro b' ks' p' v' x' y' t' tx' ty' n' h' tk' hb' hk' hp' hv' hx' hy' hy2' F' N'; subst hk'; (try k_sweep); (try dsimp only); (try k_fold)))
local macro_rules | `(tactic| walk_at "call ref") => `(tactic| (k_here; k_dflt (refine' get_spec ?tB ?tF ?tX ?tN ?tT ?tk ?tb ?tm ?tl ?tn ?td ?_; (case tB => k_asm); (case tF => k_asm); (case tX => k_asm); (case tN => k_asm); (case tT => k_asm); (case tk => first | exact rfl | assumption); (case tb => kba_ints); (case tm => exact rfl); (case tl => (rw [pad8_length, words_len]; omega)); (case tn => omega); (case td => ktr_room); k_whole); intro D' vs' n' h' tk' hI' F' N' l1; (try k_sweep); (try dsimp only); (try k_fold)))
local macro_rules | `(tactic| walk_at "call ref") => `(tactic| (k_here; k_dflt (refine' put_spec ?tB ?tF ?tX ?tN ?tM ?tT ?tk ?ti ?tn ?tn1 ?td ?_; (case tB => k_asm); (case tF => k_asm); (case tX => k_asm); (case tN => k_asm); (case tM => k_mem); (case tT => k_asm); (case tk => first | exact rfl | assumption); (case ti => assumption); (case tn => omega); (case tn1 => omega); (case td => ktr_room); k_whole); intro b' t' h' tk' hb' F' N'; (try k_sweep); (try dsimp only); (try k_fold)))
theorem pad_eq2 {ks : List Int} : ks ++ List.replicate (4 * ((wordsOf ks).length : Int) - (ks.length : Int)).toNat 0 = pad8 ks := by
  rw [words_len]
  unfold pad8
  congr 2
  omega
local macro_rules | `(tactic| walk_at "call type:bytes") => `(tactic| (k_here; (with_reducible show wpAny _ _ (call (Value.type "bytes") [Value.int _ _]) _ _ _); (refine Bn.call_n (by omega) (by omega) ?_); intro b9 t9 k9 hz9))
local macro_rules | `(tactic| walk_at "binaryOp Add bytes bytes") => `(tactic| (k_here; (refine KBa.add_K (by kba_ints) (by assumption) (by (simp only [List.length_replicate]; omega)) ?_); intro _ _ kbaApp; replace kbaApp := kbaApp.trans pad_eq2; (try dsimp only)))
theorem get_eq {ks : List Int} : (List.range (wordsOf ks).length).map (fun j => wordAt (pad8 ks) (4 * j)) = wordsOf ks := by
  rw [words_len]
  rfl
theorem map_inj8 : ∀ l l' : List UInt8, l.map (fun c => ((c.toNat : Nat) : Int)) = l'.map (fun c => ((c.toNat : Nat) : Int)) → l = l'
  | [], [], _ => rfl
  | [], _ :: _, e => nomatch e
  | _ :: _, [], e => nomatch e
  | a :: l, a' :: l', e => by
    rw [List.map_cons, List.map_cons] at e
    obtain ⟨e1, e2⟩ := List.cons.inj e
    have e3 : a = a' := UInt8.toNat_inj.mp (Int.ofNat.inj e1)
    rw [e3, map_inj8 l l' e2]
theorem ints_inj {b c : Array UInt8} (h : KBw.bInts b = KBw.bInts c) : b = c := Array.toList_inj.mp (map_inj8 _ _ h)
theorem put_eq {b c o : Array UInt8} {ks : List Int} (hb : KBw.bInts b = ((wordsOf ks).map fun v => (KTBy.little 4 (v.fmod 4294967296)).reverse).flatten) (hc : KBw.bInts c = pad8 ks) (ho : KBw.bInts o = ks) : (b.toList == c.toList) = true := by
  have e : b = c := ints_inj (by rw [hb, hc, m5 ho])
  rw [e]
  exact beq_self_eq_true _
theorem q_true {Q : Value → Shared → Prop} {s : Shared} {v : Bool} (hv : v = true) (h : Q (.bool true) s) : Q (.bool v) s := hv ▸ h
theorem news_pick {h₀ h : Heap} {L src : Addr} {o : Obj} {l news : List (Addr × Obj)} (N : News h₀ L h l) (h1 : (src, o) ∈ l) (h2 : ∀ p ∈ news, p ∈ l) : News h₀ L h ((src, o) :: news) := fun p hp => by
  rcases List.mem_cons.mp hp with rfl | hp
  · exact N _ h1
  · exact N _ (h2 p hp)
theorem close1 {ks : List Int} {x y : Int} (h : ((sums ks x y).1 == weigh (wordsOf ks) x y (2 * ((ks.length + 7) / 8)) && (sums ks x y).2 == weigh (wordsOf ks) x y (2 * ((ks.length + 7) / 8) + 1)) = false) (hx : 0 ≤ x) (hx2 : x < 4294967296) (hy : 0 ≤ y) (hy2 : y < 4294967296) : False := by
  obtain ⟨e1, e2⟩ := m1 (ks := ks) hx hx2 hy hy2
  rw [← e1, ← e2] at h
  simp at h
theorem close2 {ks : List Int} {x y d : Int} (h : ((sums ((ks.drop (clipAt ks.length (8 * d))).take (ks.length - clipAt ks.length (8 * d))) (sums (ks.take (clipAt ks.length (8 * d))) x y).1 (sums (ks.take (clipAt ks.length (8 * d))) x y).2).1 == (sums ks x y).1
    && (sums ((ks.drop (clipAt ks.length (8 * d))).take (ks.length - clipAt ks.length (8 * d))) (sums (ks.take (clipAt ks.length (8 * d))) x y).1 (sums (ks.take (clipAt ks.length (8 * d))) x y).2).2 == (sums ks x y).2) = false) (hd0 : 0 ≤ d) (hd1 : d < (ks.length : Int).fdiv 8 + 1) : False := by
  obtain ⟨q, rfl⟩ := Int.eq_ofNat_of_zero_le hd0
  rw [Int.fdiv_eq_ediv_of_nonneg _ (by decide)] at hd1
  have hq : 8 * q ≤ ks.length := by omega
  have e1 : (8 * (q : Int)) = ((8 * q : Nat) : Int) := by omega
  rw [e1, clipAt_nat] at h
  have e2 : min (8 * q) ks.length = 8 * q := by omega
  rw [e2, List.take_of_length_le (l := ks.drop (8 * q)) (by rw [List.length_drop]; omega), m2 hq] at h
  simp at h
theorem close3 {b o : Array UInt8} {ks : List Int} {x y v : Int} {p : Nat} (h : ((sums (ks.set p v) x y).1 == (sums ks x y).1 && (sums (ks.set p v) x y).2 == (sums ks x y).2) = true) (hb : KBw.bInts b = ks.set p v) (ho : KBw.bInts o = ks) (hp : p < ks.length) (hv : v ≠ ks.getD p 0) : False := by
  have hvr := KBw.ints_in (b := b) (k := v) (by rw [hb]; exact List.mem_set hp v)
  simp only [Bool.and_eq_true, beq_iff_eq] at h
  exact m3 ho hp hvr.1 hvr.2 hv (Prod.ext h.1 h.2)
local macro_rules | `(tactic| ke_room) => `(tactic| ktr_units)
set_option maxRecDepth 100000 in
set_option maxHeartbeats 8000000 in
theorem right_spec {w : World} {loose : List Str} {mean : ExcName → Option Value} {mg mb : Str → Option Value} {dp un : Nat} {gd : Option (List Code)} {cn : Str} {cs : Scope} {a : Addr} {ccd : Value} {cl : List (Str × Addr)} {outer : List Env}
    {A₀ : Around} {base h₀ : Heap} {L : Addr} {m : Str → Option Value} {s : Shared} {Q E : Value → Shared → Prop} {src : Addr} {n : Nat} {x y : Int} {tx ty : Tok} {led news : List (Addr × Obj)}
    (B : Below A₀ base outer h₀) (F : Fr h₀ L s.heap m) (X : (hd.heap_39 w.params).In h₀)
    (N : News h₀ L s.heap led) (P : Pick src (listOf [.int x tx, .int y ty].toArray n) led news) (T : Top hd.view_39 loose mean mg mb h₀) (hk : cs.kind = .function)
    (hoff : ∀ p ∈ news, p.1 ≠ src) (hx : 0 ≤ x) (hy : 0 ≤ y) (hy2 : y < 2147483647) (hdp : dp + 20 < recursionLimit) (hun : un + 200 < cLine)
    (hret : ∀ (x' y' : Int) (tx' ty' : Tok) (n' : Nat) (h' : Heap) (tk' : Nat), Fr h₀ L h' m → News h₀ L h' ((src, listOf [.int x' tx', .int y' ty'].toArray n') :: news) → Q (.bool true) { s with heap := h', toks := tk' }) :
    wpAny (model PySem.Challenge.rw_xm0738_01.row.prog w) (ktrTop dp un gd cn cs L a ccd cl outer) (call (.ref 92) [.ref src]) Q E s := by
  w_top off
  revert X; k_fill; intro X
  replace N := P.news N
  refine wpAny_call ?_
  k_dflt cell_enter
  k_steps
  all_goals first
    | exact (close1 (by assumption) (by assumption) (by assumption) (by assumption) (by assumption)).elim
    | exact (close2 (by assumption) (by assumption) (by assumption)).elim
    | exact (close3 (by assumption) (by assumption) (by assumption) (by assumption) (by assumption)).elim
    | exact q_true (put_eq (by assumption) (by assumption) (by assumption)) (hret _ _ _ _ _ _ _ (by k_asm) (by exact news_pick (by k_asm) (by k_mem) (by (intro p hp; repeat (first | exact hp | refine List.Mem.tail _ ?_)))))
    | exact q_true (decide_eq_true get_eq) (hret _ _ _ _ _ _ _ (by k_asm) (by exact news_pick (by k_asm) (by k_mem) (by (intro p hp; repeat (first | exact hp | refine List.Mem.tail _ ?_)))))
end
section
local macro_rules | `(tactic| walk_at "own pad 0") => `(tactic| fail)
local macro_rules | `(tactic| walk_at "own pad 1") => `(tactic| fail)
local macro_rules | `(tactic| walk_at "own pad 2") => `(tactic| fail)
local macro_rules | `(tactic| walk_at "own pad 3") => `(tactic| fail)
local macro_rules | `(tactic| k_all) => `(tactic| with_reducible assumption)
local macro_rules | `(tactic| walk_at "call ref") => `(tactic| (k_here; k_dflt (refine' sums_spec ?tB ?tF ?tX ?tN ?tM ?tT ?tk ?tb ?tl ?tx ?tx2 ?ty ?ty2 ?td ?_; (case tB => k_asm); (case tF => k_asm); (case tX => k_asm); (case tN => k_asm); (case tM => k_mem); (case tT => k_asm); (case tk => first | exact rfl | assumption); (case tb => first | kba_ints2 | rfl); (case tl => decide); (case tx => first | assumption | decide | exact (sums_bound _ (by assumption) (by assumption) (by assumption) (by assumption)).1); (case tx2 => first | assumption | decide | exact (sums_bound _ (by assumption) (by assumption) (by assumption) (by assumption)).2.1); (case ty => first | assumption | decide | exact (sums_bound _ (by assumption) (by assumption) (by assumption) (by assumption)).2.2.1); (case ty2 => first | assumption | decide | exact (sums_bound _ (by assumption) (by assumption) (by assumption) (by assumption)).2.2.2); (case td => ktr_room); k_whole); intro D' tx' ty' h' tk' F' N' l1; (try k_lt l1); (try k_sweep); (try dsimp only); (try k_fold)))
local macro_rules | `(tactic| walk_at "call ref") => `(tactic| (k_here; k_dflt (refine' pool_spec ?tB ?tF ?tX ?tN ?tT ?tk ?tl ?ti ?tn ?tj ?tj2 ?td ?_; (case tB => k_asm); (case tF => k_asm); (case tX => k_asm); (case tN => k_asm); (case tT => k_asm); (case tk => first | exact rfl | assumption); (case tl => assumption); (case ti => assumption); (case tn => first | omega | l_fit); (case tj => omega); (case tj2 => omega); (case td => ktr_room); k_whole); intro D' x' y' tx' ty' n' h' tk' hx' hy' hy2' F' N' l1; (try k_lt l1); (try k_sweep); (try dsimp only); (try k_fold)))
local macro_rules | `(tactic| walk_at "call ref") => `(tactic| (k_here; k_dflt (refine' right_spec ?tB ?tF ?tX ?tN ?tP ?tT ?tk ?toff ?tx ?ty ?ty2 ?td ?tu ?_; (case tB => k_asm); (case tF => k_asm); (case tX => k_asm); (case tN => k_asm); (case tP => exact Pick.head); (case tT => k_asm); (case tk => first | exact rfl | assumption); (case toff => k_all); (case tx => assumption); (case ty => assumption); (case ty2 => assumption); (case td => ktr_room); (case tu => first | k_units | ktr_units); k_whole); intro x' y' tx' ty' n' h' tk' F' N'; (try k_sweep); (try dsimp only); (try k_fold)))
theorem range_stop2 {M : Model} {A : Around} {E : Value → Shared → Prop} {s : Shared} {Q : Value → Shared → Prop} {r : Addr} {a b c : Int} {t u v : Tok} (_hr : IsRange s.heap r a b c t u v) (h : Stop (wpAny M A (pyIter (.ref r)) Q E s)) : wpAny M A (pyIter (.ref r)) Q E s := h
local macro_rules | `(tactic| walk_at "pyIter ref") => `(tactic| (refine range_stop2 (by assumption) ?_))
local macro_rules | `(tactic| walk_at "UnrEnd") => `(tactic| refine Stop.go ?_)
local macro_rules | `(tactic| walk_at "exec For Name Call cons nil") => `(tactic| (k_here; (rename Fr _ _ _ _ => lF'); (with_unfolding_all refine' For_invVF lF' ?k1 ?k2 ?_; (case k1 => exact rfl); (case k2 => exact rfl); k_whole)))
theorem unr_law {h₀ : Heap} {L I : Addr} {it : Obj} {l : List (Addr × Obj)} {s₁ : Shared} {h' : Heap} {tk : Nat} {m₀ m' : Str → Option Value} {i : Nat} (F : Fr h₀ L h' m') (N : News h₀ L h' l) (hm : (I, it) ∈ l) (hr : ∀ z, z ≠ Str.ofString "k" → m' z = m₀ z) :
    UnrEnd h₀ L s₁ I it (MyS (fun _ (_ : Unit) => []) (fun _ _ => []) (Str.ofString "k") [] m₀ (fun _ _ => True) (i + 1)) { s₁ with heap := h', toks := tk } := by
  refine UnrEnd.intro F N [] (fun p hp => ?_) (fun _ h => nomatch h) ⟨(), rfl, List.forall_mem_nil _, fun z hz _ _ => hr z hz, trivial⟩
  rw [List.mem_singleton.mp hp]
  exact hm
set_option maxRecDepth 100000 in
set_option maxHeartbeats 8000000 in
theorem law_holds : PySem.Challenge.rw_xm0738_01.Holds := by
  w_top off
  refine hd ?_
  w_strict (
    k_go0
    (all_goals try k_fold)
    k_steps
    all_goals (
      unfold Stop
      rename IsRange _ _ _ _ _ _ _ _ => R9
      rename Fr _ _ _ _ => F9
      refine my_range (σ := Unit) (fun _ _ => []) (fun _ _ => []) [] (fun _ _ => True) rfl R9 (by decide) (rangeSize_nat _ _) F9 ⟨(), News.nil, List.forall_mem_nil _, trivial⟩ ?_ ?_
      · rintro I i - t9 u9 hh9 tk9 hi9 - F1 N1 -
        dsimp only [kstB] at F1
        have hi10 : i < 3 := Nat.lt_of_lt_of_le hi9 (by decide)
        (try k_fold)
        k_steps
        unfold Stop
        with_unfolding_all refine unr_law (by k_asm) (by k_asm) (by k_mem) ?_
        (intro z h1; simp [h1])
      · rintro - u9 hh9 tk9 - F1 N1
        dsimp only [kstB] at F1
        (try k_fold)
        k_steps))
end
end Mine
set_option maxRecDepth 100000 in
set_option maxHeartbeats 8000000 in
theorem PySem.Challenge.cw_xm0738_01_holds : PySem.Challenge.rw_xm0738_01.Holds := by
  exact Mine.law_holds
