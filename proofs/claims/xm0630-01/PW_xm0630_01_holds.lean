import PyProof.Rows.All
import Wide.All
import OpenK.AllK
import Wide.FinOn
import PySem.Challenge.RW_xm0630_01
open PySem PySem.W PySem.Calls PyProof.Rows
set_option Elab.async false
namespace Mine
set_option maxRecDepth 100000
section
set_option maxHeartbeats 8000000 in
open_top hd for PySem.Challenge.rw_xm0630_01

end

section
abbrev srcO (a b : Int) (t u : Tok) (n : Nat) : Obj := W.listOf [.int a t, .int b u].toArray n

/-- the ground of a call -/
structure Gr (w : World) (mean : ExcName → Option Value) (mg mb : Str → Option Value) (cs : Scope) (outer : List Env) (A₀ : Around) (base h₀ : Heap) (L : Addr) (m : Str → Option Value) (h : Heap) : Prop where
  B : Below A₀ base outer h₀
  F : Fr h₀ L h m
  X : (hd.heap_39 w.params).In h₀
  T : Top hd.view_39 (looseW hd.view_39 []) mean mg mb h₀
  k : cs.kind = .function

def KeepBut (h h' : Heap) (l : List Addr) : Prop := ∀ b o, h.get? b = some o → b ∉ l → h'.get? b = some o

theorem keep_of {h g h' : Heap} {L' : Addr} {m' : Str → Option Value} {l : List Addr} (G : GSub h g l) (F : Fr g L' h' m') : KeepBut h h' l := fun b o e hn => F.keep b o (G b o e hn)
theorem keep_all {h g h' : Heap} {L' : Addr} {m' : Str → Option Value} {l : List Addr} {l' : List Addr} (G : GSub h g l) (F : Fr g L' h' m') (x : ∀ b ∈ l, b ∉ l' → ∀ o, h.get? b = some o → h'.get? b = some o) : KeepBut h h' l' := fun b o e hn => by
  by_cases hb : b ∈ l
  · exact x b hb hn o e
  · exact F.keep b o (G b o e hb)

theorem news_one {h₀ h : Heap} {L : Addr} {news : List (Addr × Obj)} {p : Addr × Obj} (N : News h₀ L h news) (hm : p ∈ news) : News h₀ L h [p] := fun q hq => by
  rw [List.mem_singleton.mp hq]; exact N p hm
theorem news_two {h₀ h : Heap} {L : Addr} {news : List (Addr × Obj)} {p q : Addr × Obj} (N : News h₀ L h news) (hm : p ∈ news) (hm' : q ∈ news) : News h₀ L h [p, q] := fun r hq => by
  rcases List.mem_cons.mp hq with rfl | hq
  · exact N _ hm
  · rw [List.mem_singleton.mp hq]; exact N _ hm'

theorem news_after {h₀ h h' : Heap} {L l : Addr} {o o' : Obj} {news : List (Addr × Obj)} {g : Obj → List (Addr × Obj)} (N : News h₀ L h news) (U : UpdF l o news g) (K : KeepBut h h' [l]) (e : h'.get? l = some o') : News h₀ L h' (g o') := by
  obtain ⟨pre, post, rfl, hg, h1, h2⟩ := U.split
  rw [hg]
  intro p hp
  rcases List.mem_append.mp hp with hp | hp
  · have z := N p (List.mem_append.mpr (.inl hp))
    exact ⟨K _ _ z.1 (by simpa using h1 p hp), z.2⟩
  · rcases List.mem_cons.mp hp with rfl | hp
    · have z := N (l, o) (List.mem_append.mpr (.inr (.head _)))
      exact ⟨e, z.2⟩
    · have z := N p (List.mem_append.mpr (.inr (.tail _ hp)))
      exact ⟨K _ _ z.1 (by simpa using h2 p hp), z.2⟩

abbrev CtS (w : World) (f : Addr) (l : Addr) (vs : List Value) (dN : Nat) (Post : Value → Prop) : Prop :=
  ∀ {prog : Program} {mean : ExcName → Option Value} {mg mb : Str → Option Value} {dp un : Nat} {gd : Option (List Code)} {cn : Str} {cs : Scope} {ad : Addr} {ccd : Value} {cl : List (Str × Addr)} {outer : List Env} {A₀ : Around} {base h₀ : Heap} {L : Addr} {m : Str → Option Value} {s : Shared} {Q E : Value → Shared → Prop} {a b : Int} {t u : Tok} {n : Nat},
    Gr w mean mg mb cs outer A₀ base h₀ L m s.heap → dp + dN < recursionLimit → un + 8 * dN < cLine →
    News h₀ L s.heap [(l, srcO a b t u n)] → 0 ≤ a → 0 ≤ b → b < 2147483647 →
    (∀ v a' b' t' u' n' h' tk', Post v → 0 ≤ a' → 0 ≤ b' → b' < 2147483647 → Fr h₀ L h' m → KeepBut s.heap h' [l] → h'.get? l = some (srcO a' b' t' u' n') → Q v { s with heap := h', toks := tk' }) →
    wpAny (model prog w) (ktrTop dp un gd cn cs L ad ccd cl outer) (call (.ref f) vs) Q E s

end
local macro_rules | `(tactic| walk_at "CT ENTER") => `(tactic| (refine' code_defG ?k1 ?k2 ?k3 ?k4 ?k5 ?kA ?kF ?kK ?k6 ?k7 ?k8 ?k9 ?kB ?_ ?c2 ?c3 ?c4 ?c5; (case kA => exact rfl); (case kF => exact rfl); (case kK => assumption); (case k1 => k_asm); (case k2 => k_asm); (case k3 => k_asm); (case k4 => k_asm); (case k5 => k_asm); (case k6 => k_is); (case k7 => k_is); (case k8 => ktr_room); (case k9 => exact BindsTo.of_eq rfl); (case c5 => decide); (case kB => exact locs rfl); (case c2 => exact rfl); (case c3 => exact rfl); (case c4 => exact rfl); k_whole))
local macro_rules | `(tactic| walk_at "CT GR") => `(tactic| exact ⟨by k_asm, by k_asm, by k_asm, by k_asm, by first | exact rfl | assumption⟩)

section
set_option maxHeartbeats 8000000 in
theorem take_ok (w : World) (l : Addr) (top : Int) (tt : Tok) (h1 : 1 ≤ top) (h2 : top ≤ 64) : CtS w 61 l [.ref l, .int top tt] 1 (fun v => ∃ r tk, v = .int r tk ∧ 0 ≤ r ∧ r < top) := by
  w_top off
  intro prog mean mg mb dp un gd cn cs ad ccd cl outer A₀ base h₀ L m s Q E a b t u n G hdp hun N ha hb hb2 hret
  obtain ⟨B, F, X, T, hk⟩ := G
  have hI : IntsAre [.int a t, .int b u] [a, b] := .cons a t (.cons b u .nil)
  refine wpAny_call ?_
  walk_at "CT ENTER"
  intro g' L' h' FG' F' N' B' X' T' kG'
  (try dsimp only)
  (try k_fold)
  k_steps
  · have e1 := fmod_lo a (n := top) (by omega)
    have e2 := fmod_hi a (n := top) (by omega)
    have e3 : 0 ≤ a.fdiv top := by rw [Int.fdiv_eq_ediv_of_nonneg _ (by omega)]; exact Int.ediv_nonneg ha (by omega)
    rename News h₀ L _ _ => kN
    exact hret _ _ _ _ _ _ _ _ ⟨_, _, rfl, e1, e2⟩ e3 hb hb2 (by assumption) (keep_of kG' (by assumption)) (kN _ (.head _)).1
  · have e1 := fmod_lo (b * 39373 + 7) (n := 2147483647) (by omega)
    have e2 := fmod_hi (b * 39373 + 7) (n := 2147483647) (by omega)
    dsimp only [List.getD_cons_zero, List.set_cons_zero, List.set_cons_succ, List.getD_cons_succ, Int.toNat, List.set, List.getD, List.getElem?_cons_zero, List.getElem?_cons_succ, Option.getD]
    refine mul_int ?_ (.of_left (intBits_le_64 (by omega) (by omega)))
    k_steps
    have e3 := fmod_lo (((((b * 39373 + 7).fmod 2147483647 * (b * 39373 + 7).fmod 2147483647).fmod 2147483629).fdiv 32)) (n := top) (by omega)
    have e4 := fmod_hi (((((b * 39373 + 7).fmod 2147483647 * (b * 39373 + 7).fmod 2147483647).fmod 2147483629).fdiv 32)) (n := top) (by omega)
    rename News h₀ L _ _ => kN
    exact hret _ _ _ _ _ _ _ _ ⟨_, _, rfl, e3, e4⟩ ha e1 e2 (by assumption) (keep_of kG' (by assumption)) (kN _ (.head _)).1

end
local macro_rules | `(tactic| walk_at "call ref") => `(tactic| (k_here; k_dflt (
  refine' take_ok _ _ _ _ ?h1 ?h2 ?G ?hd ?hu ?N ?ha ?hb ?hb2 ?_
  (case G => walk_at "CT GR")
  (case N => exact news_one (by k_asm) (by k_mem))
  (case h1 => first | decide | omega)
  (case h2 => first | decide | omega)
  (case hd => ktr_room)
  (case hu => ktr_units)
  (case ha => assumption)
  (case hb => assumption)
  (case hb2 => assumption)
  intro v9 a' b' t9' u9' n9' h9' tk9' hP9 ha9' hb9' hb29' F9' K9' hl9'
  (have N9' := news_after (by k_asm) (by k_updF) K9' hl9')
  (obtain ⟨r9, w9, e9, hr9, hr9'⟩ := hP9)
  subst e9
  (try dsimp only at N9')
  (try k_sweep)
  (try dsimp only)
  (try k_fold))))

section
theorem item_at {x : Str} {i : Int} (h0 : 0 ≤ i) (h1 : i < x.length) : ∃ c, c ∈ x.cps.toList ∧ x.cps.toList[i.toNat]? = some c ∧ Txt.item x i = ⟨#[c]⟩ := by
  have hi : i.toNat < x.cps.size := by have : x.length = x.cps.size := rfl; omega
  have e : seqIndex? i x.length = some i.toNat := by
    have hn : ¬ i < 0 := by omega
    have hq : (decide (0 ≤ i) && decide (i < (x.length : Int))) = true := by simp only [Bool.and_eq_true, decide_eq_true_eq]; exact ⟨h0, h1⟩
    unfold seqIndex?
    simp only [if_neg hn, hq, if_true]
  refine ⟨x.cps[i.toNat], by simp, by simp [hi], ?_⟩
  unfold Txt.item Txt.charAt
  rw [e]
  simp [hi]

local macro_rules | `(tactic| walk_at "subscriptTail") => `(tactic| (k_here; (with_reducible show wpAny _ _ (subscriptTail _ _ (Value.str _ _) (Value.int _ _)) _ _ _); (refine KXi.item rfl (by omega) (by omega) (by omega) ?_); intro kxiE))

set_option maxHeartbeats 8000000 in
theorem one_str_ok (w : World) (l : Addr) (x : Str) (tt : Tok) (h1 : 1 ≤ x.length) (h2 : x.length ≤ 64) : CtS w 68 l [.ref l, .str x tt] 2 (fun v => ∃ c tk, v = .str ⟨#[c]⟩ tk ∧ c ∈ x.cps.toList) := by
  w_top off
  intro prog mean mg mb dp un gd cn cs ad ccd cl outer A₀ base h₀ L m s Q E a b t u n G hdp hun N ha hb hb2 hret
  obtain ⟨B, F, X, T, hk⟩ := G
  refine wpAny_call ?_
  walk_at "CT ENTER"
  intro g' L' h' FG' F' N' B' X' T' kG'
  (try dsimp only)
  (try k_fold)
  k_steps
  rename ((_ : Int) < (x.length : Int)) => hr2
  obtain ⟨c, hc, _, e⟩ := item_at (by assumption) hr2
  rw [e]
  rename News h₀ L _ _ => kN
  exact hret _ _ _ _ _ _ _ _ ⟨c, _, rfl, hc⟩ (by assumption) (by assumption) (by assumption) (by assumption) (keep_of kG' (by assumption)) (kN _ (.head _)).1

abbrev four (x1 x2 x3 x4 : Str) (t1 t2 t3 t4 : Tok) (k : Nat) : Obj := W.listOf [.str x1 t1, .str x2 t2, .str x3 t3, .str x4 t4].toArray k

theorem four_item {prog : Program} {w : World} {A : Around} {E : Value → Shared → Prop} {s : Shared} {h₀ : Heap} {L d : Addr} {news : List (Addr × Obj)} {value slice : PySem.Expr} {x1 x2 x3 x4 : Str} {t1 t2 t3 t4 : Tok} {n : Nat} {k : Int} {u : Tok} {Q : Value → Shared → Prop}
    (N : News h₀ L s.heap news) (hm : (d, four x1 x2 x3 x4 t1 t2 t3 t4 n) ∈ news) (h0 : 0 ≤ k) (h1 : k < 4)
    (h : ∀ x t, (x = x1 ∨ x = x2 ∨ x = x3 ∨ x = x4) → Q (.str x t) s)
    (hs : subscripted slice false (.ref d) (.int k u) = operate [.ref d, .int k u] (getItem (.ref d) (.int k u)) := by with_unfolding_all rfl) :
    wpAny (model prog w) A (subscriptTail value slice (.ref d) (.int k u)) Q E s := by
  have hl := PySem.IsL.isList (n := n) (N _ hm).1
  have hk : k = 0 ∨ k = 1 ∨ k = 2 ∨ k = 3 := by omega
  rcases hk with rfl | rfl | rfl | rfl
  · exact tail_any hl.typeIs slot_list_getitem.lookup (wpAny_getItem_list hl (by decide) (by decide) rfl (h _ _ (.inl rfl))) hs
  · exact tail_any hl.typeIs slot_list_getitem.lookup (wpAny_getItem_list hl (by decide) (by decide) rfl (h _ _ (.inr (.inl rfl)))) hs
  · exact tail_any hl.typeIs slot_list_getitem.lookup (wpAny_getItem_list hl (by decide) (by decide) rfl (h _ _ (.inr (.inr (.inl rfl))))) hs
  · exact tail_any hl.typeIs slot_list_getitem.lookup (wpAny_getItem_list hl (by decide) (by decide) rfl (h _ _ (.inr (.inr (.inr rfl))))) hs

local macro_rules | `(tactic| walk_at "subscriptTail") => `(tactic| (k_here; (with_reducible show wpAny _ _ (subscriptTail _ _ (Value.ref _) (Value.int _ _)) _ _ _); k_dflt (refine four_item (by k_asm) (by k_mem) (by omega) (by omega) ?_); intro x9 t9 hx9))

set_option maxHeartbeats 8000000 in
theorem one_four_ok (w : World) (l d : Addr) (x1 x2 x3 x4 : Str) (t1 t2 t3 t4 : Tok) (k : Nat) (hne : @Ne Nat d l)
    {prog : Program} {mean : ExcName → Option Value} {mg mb : Str → Option Value} {dp un : Nat} {gd : Option (List Code)} {cn : Str} {cs : Scope} {ad : Addr} {ccd : Value} {cl : List (Str × Addr)} {outer : List Env} {A₀ : Around} {base h₀ : Heap} {L : Addr} {m : Str → Option Value} {s : Shared} {Q E : Value → Shared → Prop} {a b : Int} {t u : Tok} {n : Nat}
    (G : Gr w mean mg mb cs outer A₀ base h₀ L m s.heap) (hdp : dp + 2 < recursionLimit) (hun : un + 8 * 2 < cLine)
    (N : News h₀ L s.heap [(l, srcO a b t u n), (d, four x1 x2 x3 x4 t1 t2 t3 t4 k)]) (ha : 0 ≤ a) (hb : 0 ≤ b) (hb2 : b < 2147483647)
    (hret : ∀ x tk a' b' t' u' n' h' tk', (x = x1 ∨ x = x2 ∨ x = x3 ∨ x = x4) → 0 ≤ a' → 0 ≤ b' → b' < 2147483647 → Fr h₀ L h' m → KeepBut s.heap h' [l] → h'.get? l = some (srcO a' b' t' u' n') → Q (.str x tk) { s with heap := h', toks := tk' }) :
    wpAny (model prog w) (ktrTop dp un gd cn cs L ad ccd cl outer) (call (.ref 68) [.ref l, .ref d]) Q E s := by
  w_top off
  obtain ⟨B, F, X, T, hk⟩ := G
  refine wpAny_call ?_
  walk_at "CT ENTER"
  intro g' L' h' FG' F' N' B' X' T' kG'
  (try dsimp only)
  (try k_fold)
  k_steps
  rename News h₀ L _ _ => kN
  refine hret _ _ _ _ _ _ _ _ _ (by assumption) (by assumption) (by assumption) (by assumption) (by assumption) (keep_all kG' (by assumption) fun b hb hn o e => ?_) (kN _ (.head _)).1
  have hd : b = d := by
    rcases List.mem_cons.mp hb with rfl | hb
    · exact absurd (List.mem_singleton.mpr rfl) hn
    · simpa using hb
  subst hd
  have e1 := (N _ (.tail _ (.head _))).1
  have e2 := (kN _ (.tail _ (.head _))).1
  dsimp only at e1 e2
  rw [e1] at e
  rw [← e]
  exact e2

end
local macro_rules | `(tactic| walk_at "CT BACK") => `(tactic| (intro a' b' t9' u9' n9' h9' tk9'; intro ha9' hb9' hb29' F9' K9' hl9'; (have N9' := news_after (by k_asm) (by k_updF) K9' hl9'); (try dsimp only at N9'); (try k_sweep); (try dsimp only); (try k_fold)))
local macro_rules | `(tactic| walk_at "CT SIDE") => `(tactic| (
  (case hd => ktr_room)
  (case hu => ktr_units)
  (case ha => assumption)
  (case hb => assumption)
  (case hb2 => assumption)))
local macro_rules | `(tactic| walk_at "call ref") => `(tactic| (k_here; k_dflt (
  refine' one_str_ok _ _ _ _ ?h1 ?h2 ?G ?hd ?hu ?N ?ha ?hb ?hb2 ?_
  (case G => walk_at "CT GR")
  (case N => exact news_one (by k_asm) (by k_mem))
  walk_at "CT SIDE"
  (case h1 => first | decide | omega)
  (case h2 => first | decide | omega)
  intro v9 a' b' t9' u9' n9' h9' tk9' hP9
  (obtain ⟨r9, w9, e9, hr9⟩ := hP9)
  subst e9
  revert a' b' t9' u9' n9' h9' tk9'
  walk_at "CT BACK")))
local macro_rules | `(tactic| walk_at "call ref") => `(tactic| (k_here; k_dflt (
  refine' one_four_ok _ _ _ _ _ _ _ _ _ _ _ _ ?h1 ?G ?hd ?hu ?N ?ha ?hb ?hb2 ?_
  (case G => walk_at "CT GR")
  (case N => exact news_two (by k_asm) (by k_mem) (by k_mem))
  walk_at "CT SIDE"
  (case h1 => k_ne)
  intro x9 w9 a' b' t9' u9' n9' h9' tk9' hP9
  revert a' b' t9' u9' n9' h9' tk9'
  walk_at "CT BACK")))

section
def Hold (P : Prop) : Prop := P
theorem Hold.out {P : Prop} (h : Hold P) : P := h

abbrev sg (c : Nat) : Str := ⟨#[c]⟩
abbrev tx (l : List Nat) : Str := ⟨l.toArray⟩
theorem tx_list (l : List Nat) : (tx l).cps.toList = l := by simp
theorem tx_len (l : List Nat) : (tx l).length = l.length := by simp [Str.length]
theorem tx_of (x : Str) : tx x.cps.toList = x := by simp

theorem strs_snoc {c : Nat} {t : Tok} {vs : List Value} {l : List Nat} (h : StrsAre vs (l.map sg)) : StrsAre (vs ++ [.str (sg c) t]) ((l ++ [c]).map sg) := by
  rw [List.map_append]; exact h.append' (.cons _ _ .nil)

theorem join_codes {prog : Program} {w : World} {A : Around} {E : Value → Shared → Prop} {s : Shared} {t : Tok} {Q : Value → Shared → Prop} {D : Addr} {ys : List Value} {l : List Nat}
    (hl : s.heap.IsList D ys.toArray) (hy : StrsAre ys (l.map sg)) (hn : l.length ≤ 1048576) (h : ∀ t' k, Q (.str (tx l) t') { s with toks := k }) :
    wpAny (model prog w) A (call (.builtin "str.join") [.str (Str.ofString "") t, .ref D]) Q E s := by
  refine KT.join_B (l := l) (g := sg) 1 hl (by have := hy.carried; rwa [List.map_map] at this) (fun _ _ => Nat.le_refl _) hn (by decide) fun t' k => ?_
  have e : Txt.join (Str.ofString "") (l.map sg) = tx l := by
    show Builtin.Str.glued _ _ = _
    rw [StrLaws.glued_eq_join]
    exact join_ones l
  rw [e]
  exact h t' k

section
variable {prog : Program} {w : World} {A : Around} {h₀ : Heap} {L : Addr} {m : Str → Option Value} {env : Env} {ct elt : PySem.Expr} {x : Str} {scope : Scope} {cl : List (Str × Addr)} {s : Shared} {S : List (Addr × Obj) → Prop} {P : Nat → Value → Prop} {Fin : List Value → List (Addr × Obj) → Prop} {news : List (Addr × Obj)}
theorem rest_inv {n : Nat} (Inv : Nat → List Value → List (Addr × Obj) → Prop) (h0 : Inv 0 [] news)
    (turn : ∀ i ys news v I oI C oC D m₂ h tk (E' : Value → Shared → Prop), i < n → Inv i ys news → P i v → LCg.NsObj oC m₂ → m₂ x = some v → Fr h₀ L h m → News h₀ L h ((I, oI) :: (C, oC) :: (D, LCg.lst ys) :: news) → LCg.Off3 I C D news → ((@Ne Nat I C) ∧ (@Ne Nat I D) ∧ (@Ne Nat C D)) →
      wpAny (model prog w) A (eval elt (compEnvC scope cl C env)) (LCg.CompEnd h₀ L m { s with heap := h, toks := tk } I oI C oC D (LCg.lst ys) S (fun y news' => Inv (i + 1) (ys ++ [y]) news')) E' { s with heap := h, toks := tk })
    (fin : ∀ ys news, Inv n ys news → Fin ys news) : LCg.CompRest prog w A h₀ L m env elt x scope cl s S P Fin n 0 [] news := by
  have key : ∀ (j i : Nat) (ys : List Value) (news : List (Addr × Obj)), i + j = n → Inv i ys news → LCg.CompRest prog w A h₀ L m env elt x scope cl s S P Fin j i ys news := by
    intro j
    induction j with
    | zero => intro i ys news hi hy; exact LCg.CompRest.zero (fin ys news (by rw [← hi]; exact hy))
    | succ j ih =>
      intro i ys news hi hy
      refine LCg.CompRest.succ fun v I oI C oC D m₂ h tk E' hv hC hx F N off ne => ?_
      refine wpAny_mono (turn i ys news v I oI C oC D m₂ h tk E' (by omega) hy hv hC hx F N off ne) (fun y s₂ hq => ?_) fun _ _ e => e
      obtain ⟨h', tk', nw, e, F', N', off', hS, hI⟩ := hq
      exact ⟨h', tk', nw, e, F', N', off', hS, ih (i + 1) _ _ (by omega) hI⟩
  exact key n 0 [] news (by omega) h0
end

end
local macro_rules | `(tactic| walk_at "CompSrc") => `(tactic| (k_here; refine Hold.out ?_))
local macro_rules | `(tactic| walk_at "call builtin:str.join") => `(tactic| (k_here; (with_reducible show wpAny _ _ (call (Value.builtin "str.join") [Value.str _ _, Value.ref _]) _ _ _); refine join_codes (by exact News.isList (by k_asm) (by k_mem)) (by assumption) (by omega) ?_; intro _ _))

section
def RowInv (x : Str) (l : Addr) (p1 p2 : Addr × Obj) (i : Nat) (ys : List Value) (news : List (Addr × Obj)) : Prop :=
  ∃ (a b : Int) (t u : Tok) (n : Nat) (cs : List Nat), news = [p1, p2, (l, srcO a b t u n)] ∧ 0 ≤ a ∧ 0 ≤ b ∧ b < 2147483647 ∧ StrsAre ys (cs.map sg) ∧ cs.length = i ∧ ∀ c ∈ cs, c ∈ x.cps.toList

set_option maxHeartbeats 8000000 in
theorem row_ok (w : World) (l : Addr) (x : Str) (tt : Tok) (most : Int) (tm : Tok) (h1 : 1 ≤ x.length) (h2 : x.length ≤ 64) (h3 : 0 ≤ most) (h4 : most ≤ 32)
    {prog : Program} {mean : ExcName → Option Value} {mg mb : Str → Option Value} {dp un : Nat} {gd : Option (List Code)} {cn : Str} {cs : Scope} {ad : Addr} {ccd : Value} {cl : List (Str × Addr)} {outer : List Env} {A₀ : Around} {base h₀ : Heap} {L : Addr} {m : Str → Option Value} {s : Shared} {Q E : Value → Shared → Prop} {a b : Int} {t u : Tok} {n : Nat}
    (G : Gr w mean mg mb cs outer A₀ base h₀ L m s.heap) (hdp : dp + 3 < recursionLimit) (hun : un + 8 * 3 < cLine)
    (N : News h₀ L s.heap [(l, srcO a b t u n)]) (ha : 0 ≤ a) (hb : 0 ≤ b) (hb2 : b < 2147483647)
    (hret : ∀ y tk a' b' t' u' n' h' tk', (y.length : Int) ≤ most → (∀ c ∈ y.cps.toList, c ∈ x.cps.toList) → 0 ≤ a' → 0 ≤ b' → b' < 2147483647 → Fr h₀ L h' m → News h₀ L h' [(l, srcO a' b' t' u' n')] → Q (.str y tk) { s with heap := h', toks := tk' }) :
    wpAny (model prog w) (ktrTop dp un gd cn cs L ad ccd cl outer) (call (.ref 73) [.ref l, .str x tt, .int most tm]) Q E s := by
  w_top off
  obtain ⟨B, F, X, T, hk⟩ := G
  refine wpAny_call ?_
  refine' code_defC ?k1 ?k2 ?k3 ?k4 ?k5 ?kA ?kF ?kK ?k6 ?k7 ?k8 ?k9 ?kB ?kD ?_ ?c2 ?c3 ?c4; (case kA => exact rfl); (case kF => exact rfl); (case kK => assumption); (case k1 => k_asm); (case k2 => k_asm); (case k3 => k_asm); (case k4 => k_asm); (case k5 => k_asm); (case k6 => k_is); (case k7 => k_is); (case k8 => ktr_room); (case k9 => exact BindsTo.of_eq rfl); (case kB => exact rfl); (case kD => decide +kernel); (case c2 => exact rfl); (case c3 => exact rfl); (case c4 => exact rfl); k_whole; intro g' L' h' tk' cells' FG' F' N' Y' B' X' T' l1; (try k_lt l1); obtain ⟨o1, o2, hE, d1, d2⟩ := CellsAre.two Y'; subst hE; clear Y'; (try simp only [List.cons_append, List.nil_append] at N'); (try dsimp only); (try k_fold)
  k_steps
  unfold Hold
  k_dflt (refine LCg.CompSrc.range (by rfl) (by k_asm) (by k_asm) (by assumption) (small_one (by omega) (by omega) (by omega) (by omega)) (rangeSize_nat _ _) (by rw [PySem.sizeLine_eq]; omega) ?_)
  intro g9
  refine rest_inv (RowInv x l (L' + 1 + 1, o1) (L' + 1, o2)) ⟨_, _, _, _, _, [], rfl, by assumption, by assumption, by assumption, .nil, rfl, fun _ h => nomatch h⟩ ?_ ?_
  · rintro i ys news v I oI C oC D m₂ h tk E' hi ⟨a5, b5, t5, u5, n5, cs5, rfl, ha5, hb5, hc5, hy5, hl5, hs5⟩ ⟨t6, rfl⟩ hC hx F5 N5 off ne
    simp only [LCg.Off3, and_true] at off
    obtain ⟨ne1, ne2, ne3⟩ := ne
    obtain ⟨⟨of1, of2, of3⟩, ⟨of4, of5, of6⟩, ⟨of7, of8, of9⟩⟩ := off
    k_steps
    rename (_ ∈ x.cps.toList) => hr
    refine ⟨_, _, _, _, _, _, rfl, by assumption, by assumption, by assumption, strs_snoc hy5, by simp [hl5], fun c hc => ?_⟩
    rcases List.mem_append.mp hc with hc | hc
    · exact hs5 c hc
    · rw [List.mem_singleton.mp hc]; exact hr
  · rintro ys news ⟨a5, b5, t5, u5, n5, cs5, rfl, ha5, hb5, hc5, hy5, hl5, hs5⟩
    k_steps
    rename News h₀ L _ _ => kN
    refine hret _ _ _ _ _ _ _ _ _ ?_ ?_ ha5 hb5 hc5 (by assumption) (news_one kN (by k_mem))
    · rw [tx_len]; omega
    · rw [tx_list]; exact hs5

end
local macro_rules | `(tactic| walk_at "call ref") => `(tactic| (k_here; k_dflt (
  refine' row_ok _ _ _ _ _ _ ?h1 ?h2 ?h3 ?h4 ?G ?hd ?hu ?N ?ha ?hb ?hb2 ?_
  (case G => walk_at "CT GR")
  (case N => exact news_one (by k_asm) (by k_mem))
  walk_at "CT SIDE"
  (case h1 => first | decide | omega)
  (case h2 => first | decide | omega)
  (case h3 => first | decide | omega)
  (case h4 => first | decide | omega)
  intro y9 w9 a' b' t9' u9' n9' h9' tk9' hy9 hz9 ha9' hb9' hb29' F9' N9'
  (try k_sweep)
  (try dsimp only)
  (try k_fold))))

section
theorem news_keep {h₀ h h' : Heap} {L : Addr} {news : List (Addr × Obj)} (N : News h₀ L h news) (K : KeepBut h h' []) : News h₀ L h' news := fun p hp => ⟨K _ _ (N p hp).1 (by simp), (N p hp).2⟩

abbrev CtP (w : World) (f : Addr) (vs : List Value) (dN : Nat) (Post : Value → Prop) : Prop :=
  ∀ {prog : Program} {mean : ExcName → Option Value} {mg mb : Str → Option Value} {dp un : Nat} {gd : Option (List Code)} {cn : Str} {cs : Scope} {ad : Addr} {ccd : Value} {cl : List (Str × Addr)} {outer : List Env} {A₀ : Around} {base h₀ : Heap} {L : Addr} {m : Str → Option Value} {s : Shared} {Q E : Value → Shared → Prop},
    Gr w mean mg mb cs outer A₀ base h₀ L m s.heap → dp + dN < recursionLimit → un + 8 * dN < cLine →
    (∀ v h' tk', Post v → Fr h₀ L h' m → KeepBut s.heap h' [] → Q v { s with heap := h', toks := tk' }) →
    wpAny (model prog w) (ktrTop dp un gd cn cs L ad ccd cl outer) (call (.ref f) vs) Q E s

theorem slice_from (x : Str) {i : Int} (h0 : 0 ≤ i) (h1 : i ≤ x.length) : Txt.slice x (some i) none = tx (x.cps.toList.drop i.toNat) := by
  rw [slice_from_eq h0 h1 rfl]
  have : (x.cps.toList.drop i.toNat).take ((x.length : Int) - i).toNat = x.cps.toList.drop i.toNat := by
    apply List.take_of_length_le
    have : x.length = x.cps.size := rfl
    rw [List.length_drop, Array.length_toList]; omega
  rw [this]
theorem slice_tail (x : Str) : Txt.slice x (some 1) none = tx (x.cps.toList.drop 1) := by
  by_cases h : x.length = 0
  · rw [slice_from_beyond (by omega)]
    have e : x.cps.toList = [] := by apply List.eq_nil_of_length_eq_zero; rw [Array.length_toList]; exact h
    rw [e]; rfl
  · exact slice_from x (by decide) (by omega)
theorem slice_head (x : Str) : Txt.slice x none (some 1) = tx (x.cps.toList.take 1) := by
  rw [beq_iff_eq.mp (slice_to_min_closes (x := x) (n := 1) (by decide) rfl)]
  have : x.length = x.cps.toList.length := by rw [Array.length_toList]; rfl
  rw [this]
  cases x.cps.toList with
  | nil => rfl
  | cons a r =>
    have : ¬ (((a :: r).length : Int) < 1) := by simp only [List.length_cons]; omega
    rw [if_neg this]; rfl

section
variable {prog : Program} {w : World} {A : Around} {E : Value → Shared → Prop} {s : Shared} {env : Env} {h₀ : Heap} {x : Str} {body : List Stmt} {Q : Flow → Shared → Prop}
theorem loop_text {xt : Str} {tt : Tok} {m₀ : Str → Option Value} (J : Nat → (Str → Option Value) → Prop) (hh : A.handled = none) (F : Fr h₀ env.locals s.heap m₀) (hj : J 0 m₀)
    (turn : ∀ i c t m₁ h tk own, i < xt.length → xt.cps.toList[i]? = some c → J i m₁ → Fr h₀ env.locals h (fun y => if y = x then some (.str (sg c) t) else m₁ y) → News h₀ env.locals h own →
      wpAny (model prog w) A (execs body env) (InvPostN h₀ env.locals (fun m' nx => nx = [] ∧ J (i + 1) m') own [] { s with heap := h, toks := tk } Q) E { s with heap := h, toks := tk })
    (done : ∀ m₁ h tk, J xt.length m₁ → Fr h₀ env.locals h m₁ → News h₀ env.locals h [] → Q .next { s with heap := h, toks := tk }) :
    wpAny (model prog w) A (pyIter (.str xt tt)) (fun it s₂ => LoopAtV prog w A h₀ env x body Q E it s₂) E s := by
  refine wpAny_pyIter_str fun o St hW hst => ?_
  have W := hW A hh
  refine loop_invN (news := []) (fun i m nx => nx = [] ∧ J i m) W ?_ ?_ (fun _ h => nomatch h) (fun _ h => nomatch h) hst (F.push _) News.nil ⟨rfl, hj⟩ ?_ ?_
  · intro hm
    exact absurd F.ns.lt ((List.mem_singleton.mp hm) ▸ Nat.lt_irrefl _)
  · intro b' hb
    rw [List.mem_singleton.mp hb]
    exact next_is_new F
  · rintro i v m₁ nx h tk own hi ⟨c, t, hc, rfl⟩ _ _ ⟨rfl, hj'⟩ F₁ N₁
    exact turn i c t m₁ h tk own hi (by rw [← hc]; exact Array.getElem?_toList) hj' F₁ N₁
  · rintro m₁ nx h tk ⟨rfl, hj'⟩ F₁ N₁
    exact done m₁ h tk hj' F₁ N₁
end

theorem news_sub {h₀ h : Heap} {L : Addr} {news news' : List (Addr × Obj)} (N : News h₀ L h news') (k : ∀ p ∈ news, p ∈ news') : News h₀ L h news := fun p hp => N p (k p hp)

abbrev CtN (w : World) (f : Addr) (vs : List Value) (dN : Nat) (Post : Value → Prop) : Prop :=
  ∀ {prog : Program} {mean : ExcName → Option Value} {mg mb : Str → Option Value} {dp un : Nat} {gd : Option (List Code)} {cn : Str} {cs : Scope} {ad : Addr} {ccd : Value} {cl : List (Str × Addr)} {outer : List Env} {A₀ : Around} {base h₀ : Heap} {L : Addr} {m : Str → Option Value} {s : Shared} {Q E : Value → Shared → Prop} {news : List (Addr × Obj)},
    Gr w mean mg mb cs outer A₀ base h₀ L m s.heap → dp + dN < recursionLimit → un + 8 * dN < cLine → News h₀ L s.heap news →
    (∀ v h' tk', Post v → Fr h₀ L h' m → News h₀ L h' news → Q v { s with heap := h', toks := tk' }) →
    wpAny (model prog w) (ktrTop dp un gd cn cs L ad ccd cl outer) (call (.ref f) vs) Q E s

end
local macro_rules | `(tactic| walk_at "CT LOOK") => `(tactic| first | with_reducible assumption | ((try dsimp only); first | exact if_pos rfl | (refine (if_neg ?kn).trans ?kr; (case kn => decide); (case kr => walk_at "CT LOOK"))))
local macro_rules | `(tactic| walk_at "eval Name") => `(tactic| (k_here; k_dflt (refine' nameX_L ?F ?v ?_ ?a ?b; (case F => k_asm); (case v => walk_at "CT LOOK"); (case a => rfl); (case b => rfl); k_whole)))
local macro_rules | `(tactic| walk_at "CT PURE") => `(tactic| (
  (case G => walk_at "CT GR")
  (case hd => ktr_room)
  (case hu => ktr_units)))
local macro_rules | `(tactic| walk_at "CT PBACK") => `(tactic| (intro F9' K9'; (have N9' := news_keep (by k_asm) K9'); (try dsimp only at N9'); (try k_sweep); (try dsimp only); (try k_fold)))
local macro_rules | `(tactic| walk_at "exec While") => `(tactic| (k_here; refine Hold.out ?_))
local macro_rules | `(tactic| walk_at "loadName") => `(tactic| (k_here; k_dflt (refine' ldn ?F ?v ?_ ?a ?b; (case F => k_asm); (case v => walk_at "CT LOOK"); (case a => rfl); (case b => rfl); k_whole)))
local macro_rules | `(tactic| walk_at "exec For") => `(tactic| (k_here; (rename Fr _ _ _ _ => lF'); k_dflt (refine' For_invVF lF' ?k1 ?k2 ?_; (case k1 => exact rfl); (case k2 => exact rfl); k_whole)))
local macro_rules | `(tactic| walk_at "pyIter str") => `(tactic| (k_here; refine Hold.out ?_))

section
/-- the noughts ahead taken away, but for the last -/
def wn (l : List Nat) : List Nat := match l.dropWhile (· == 48) with
  | [] => if l = [] then [] else [48]
  | c :: r => c :: r

theorem wn_cons {r : List Nat} (h : r ≠ []) : wn (48 :: r) = wn r := by
  unfold wn
  have : List.dropWhile (· == 48) (48 :: r) = List.dropWhile (· == 48) r := by simp [List.dropWhile]
  rw [this]
  cases List.dropWhile (· == 48) r with
  | nil => simp [h]
  | cons a b => rfl
theorem wn_drop : ∀ (i : Nat) (l : List Nat), (i = 0 ∨ i < l.length) → (∀ k, k < i → l[k]? = some 48) → (l.length ≤ i + 1 ∨ l[i]? ≠ some 48) → wn l = l.drop i
  | 0, [], _, _, _ => rfl
  | 0, [c], _, _, _ => by
    unfold wn
    by_cases h : c = 48
    · subst h; rfl
    · have : (c == 48) = false := by simp [h]
      simp [List.dropWhile, this]
  | 0, c :: d :: r, _, _, h2 => by
    have hc : c ≠ 48 := by
      rcases h2 with h2 | h2
      · simp at h2
      · intro e; subst e; exact h2 rfl
    have : (c == 48) = false := by simp [hc]
    unfold wn
    simp [List.dropWhile, this]
  | i + 1, [], h0, _, _ => by simp at h0
  | i + 1, c :: r, h0, h1, h2 => by
    have hc : c = 48 := by have := h1 0 (by omega); simpa using this
    subst hc
    have hl : i < r.length := by simp at h0; omega
    have hr : r ≠ [] := by intro e; subst e; simp at hl
    rw [wn_cons hr, List.drop_succ_cons]
    refine wn_drop i r (.inr hl) (fun k hk => by have := h1 (k + 1) (by omega); simpa using this) ?_
    rcases h2 with h2 | h2
    · left; simp at h2; omega
    · right; simpa using h2

theorem wn_len (l : List Nat) : (wn l).length ≤ l.length := by
  unfold wn
  have h : (l.dropWhile (· == 48)).length ≤ l.length := by
    have := congrArg List.length (List.takeWhile_append_dropWhile (p := (· == 48)) (l := l))
    rw [List.length_append] at this; omega
  split
  · split
    · simp
    · rename_i h'
      cases l with
      | nil => exact absurd rfl h'
      | cons a r => simp
  · rename_i e
    rw [e] at h; exact h
theorem nought_len (x : Str) : (tx (wn x.cps.toList)).length ≤ x.length := by
  rw [tx_len]
  exact Nat.le_trans (wn_len _) (Nat.le_of_eq (by rw [Array.length_toList]; rfl))

def NgInv (x : Str) (n : Nat) (m : Str → Option Value) (news : List (Addr × Obj)) : Prop :=
  news = [] ∧ (∃ t, m (Str.ofString "digits") = some (.str x t)) ∧ ∃ (i : Int) (t : Tok), m (Str.ofString "begin") = some (.int i t) ∧ 0 ≤ i ∧ (i = 0 ∨ i < (x.length : Int)) ∧ (∀ k : Nat, (k : Int) < i → x.cps.toList[k]? = some 48) ∧ n = ((x.length : Int) - i).toNat

set_option maxHeartbeats 8000000 in
theorem nought_ok (w : World) (x : Str) (tt : Tok) (h2 : x.length ≤ 64) : CtP w 28 [.str x tt] 1 (fun v => ∃ tk, v = .str (tx (wn x.cps.toList)) tk ∧ (tx (wn x.cps.toList)).length ≤ x.length) := by
  w_top off
  intro prog mean mg mb dp un gd cn cs ad ccd cl outer A₀ base h₀ L m s Q E G hdp hun hret
  obtain ⟨B, F, X, T, hk⟩ := G
  have N : News h₀ L s.heap [] := News.nil
  have hxl : x.length = x.cps.toList.length := by rw [Array.length_toList]; rfl
  refine wpAny_call ?_
  walk_at "CT ENTER"
  intro g' L' h' FG' F' N' B' X' T' kG'
  (try dsimp only)
  (try k_fold)
  k_steps
  unfold Hold
  refine While_inv2 (NgInv x) (n₀ := x.length) (by k_asm) (by k_asm) ⟨rfl, ⟨_, rfl⟩, 0, _, rfl, by omega, .inl rfl, fun k hk => by omega, by omega⟩ ?_
  rintro n m₁ news₁ h₁ tk₁ F1 N1 ⟨rfl, ⟨t5, hdig⟩, i, t6, hbeg, hi0, hi1, hi2, rfl⟩
  (try k_fold)
  k_steps
  · rename ((Txt.item x i == Str.ofString "0") = true) => hq
    obtain ⟨c, _, hc, e⟩ := item_at hi0 (x := x) (by omega)
    have h48 : c = 48 := by
      rw [e] at hq
      have := beq_iff_eq.mp hq
      have z : (sg c).cps.toList = [48] := by rw [show sg c = Str.ofString "0" from this]; decide
      simpa using z
    subst h48
    refine ⟨_, _, _, [], _, rfl, by assumption, by assumption, ?_, rfl, ⟨t5, (if_neg (show ¬ Str.ofString "digits" = Str.ofString "begin" by decide)).trans hdig⟩, i + 1, _, if_pos rfl, by omega, .inr (by omega), fun k hk => ?_, rfl⟩
    · omega
    · by_cases hk' : (k : Int) < i
      · exact hi2 k hk'
      · have : k = i.toNat := by omega
        rw [this]; exact hc
  · rename ((Txt.item x i == Str.ofString "0") = false) => hq
    obtain ⟨c, _, hc, e⟩ := item_at hi0 (x := x) (by omega)
    have h48 : x.cps.toList[i.toNat]? ≠ some 48 := by
      rw [hc]
      intro z
      cases Option.some.inj z
      rw [e] at hq
      exact absurd hq (by decide)
    rw [slice_from x hi0 (by omega)]
    have e := wn_drop i.toNat x.cps.toList (by omega) (fun k hk => hi2 k (by omega)) (.inr h48)
    rw [← e]
    exact hret _ _ _ ⟨_, rfl, nought_len x⟩ (by assumption) (keep_of kG' (by assumption))
  · rw [slice_from x hi0 (by omega)]
    have e := wn_drop i.toNat x.cps.toList (by omega) (fun k hk => hi2 k (by omega)) (.inl (by omega))
    rw [← e]
    exact hret _ _ _ ⟨_, rfl, nought_len x⟩ (by assumption) (keep_of kG' (by assumption))

end
local macro_rules | `(tactic| walk_at "call ref") => `(tactic| (k_here; k_dflt (
  refine' nought_ok _ _ _ ?h1 ?G ?hd ?hu ?_
  walk_at "CT PURE"
  (case h1 => first | omega | decide)
  intro v9 h9' tk9' hP9
  (obtain ⟨w9, e9, hL9⟩ := hP9)
  subst e9
  walk_at "CT PBACK")))

section
def idx (l : List Nat) (c : Nat) : Int := (l.idxOf c : Nat)
/-- the number that signs make by their places among those told -/
def num (y : List Nat) (l : List Nat) : Int := l.foldl (fun n c => n * (y.length : Int) + idx y c) 0
def vod (y l : List Nat) : Option Int := if l = [] then none else if l.all (fun c => y.contains c) then some (num y l) else none
def optV (o : Option Int) (t : Tok) : Value := match o with
  | none => .none
  | some i => .int i t

theorem num_snoc (y l : List Nat) (c : Nat) : num y (l ++ [c]) = num y l * (y.length : Int) + idx y c := by simp [num]

theorem idxOf_at {l : List Nat} {c i : Nat} (h : l[i]? = some c) (hn : ∀ k, k < i → l[k]? ≠ some c) : l.idxOf c = i := by
  induction l generalizing i with
  | nil => simp at h
  | cons a r ih =>
    cases i with
    | zero => simp at h; subst h; simp
    | succ i =>
      have ha : a ≠ c := by have := hn 0 (by omega); simpa using this
      have hb : (a == c) = false := by simp [ha]
      rw [List.idxOf_cons, hb]
      simp only [cond_false]
      rw [ih (i := i) (by simpa using h) (fun k hk => by have := hn (k + 1) (by omega); simpa using this)]
theorem find_sg (y : Str) (c : Nat) : (Txt.find y (sg c) = -1 ∧ c ∉ y.cps.toList) ∨ (Txt.find y (sg c) = idx y.cps.toList c ∧ c ∈ y.cps.toList) := by
  rcases find_whole y (sg c) with ⟨h, hn⟩ | ⟨i, h, hi, hn⟩
  · refine .inl ⟨h, fun hm => ?_⟩
    obtain ⟨i, hi⟩ := List.mem_iff_getElem?.mp hm
    exact hn i ((StrLaws.subAt_one y c i).mpr hi)
  · have hi' := (StrLaws.subAt_one y c i).mp hi
    refine .inr ⟨?_, List.mem_of_getElem? hi'⟩
    rw [h]
    unfold idx
    rw [idxOf_at hi' fun k hk e => hn k hk ((StrLaws.subAt_one y c k).mpr e)]
theorem take_snoc {l : List Nat} {i c : Nat} (h : l[i]? = some c) : l.take (i + 1) = l.take i ++ [c] := by
  rw [List.take_add_one, h]; rfl
theorem nil_of {x : Str} (h : (x == Str.ofString "") = true) : x.cps.toList = [] := by rw [beq_iff_eq.mp h]; decide
theorem not_nil_of {x : Str} (h : (x == Str.ofString "") = false) : x.cps.toList ≠ [] := fun e => by
  have : x = Str.ofString "" := by rw [← tx_of x, e]; decide
  rw [this] at h; exact absurd h (by decide)

def VdInv (x y : Str) (i : Nat) (m : Str → Option Value) : Prop :=
  (∃ t, m (Str.ofString "signs") = some (.str y t)) ∧ ∃ (t : Tok), m (Str.ofString "number") = some (.int (num y.cps.toList (x.cps.toList.take i)) t) ∧ (x.cps.toList.take i).all (fun c => y.cps.toList.contains c) = true

set_option maxHeartbeats 8000000 in
theorem vod_ok (w : World) (x y : Str) (tt uu : Tok) (h2 : 1 ≤ y.length) (h3 : y.length ≤ 32) : CtP w 21 [.str x tt, .str y uu] 1 (fun v => ∃ tk, v = optV (vod y.cps.toList x.cps.toList) tk) := by
  w_top off
  intro prog mean mg mb dp un gd cn cs ad ccd cl outer A₀ base h₀ L m s Q E G hdp hun hret
  obtain ⟨B, F, X, T, hk⟩ := G
  have N : News h₀ L s.heap [] := News.nil
  have hxl : x.length = x.cps.toList.length := by rw [Array.length_toList]; rfl
  have hyl : y.length = y.cps.toList.length := by rw [Array.length_toList]; rfl
  refine wpAny_call ?_
  walk_at "CT ENTER"
  intro g' L' h' FG' F' N' B' X' T' kG'
  (try dsimp only)
  (try k_fold)
  k_steps
  · rename ((x == Str.ofString "") = true) => hq
    have e : vod y.cps.toList x.cps.toList = none := by rw [nil_of hq]; rfl
    exact hret _ _ _ ⟨0, by rw [e]; rfl⟩ (by assumption) (keep_of kG' (by assumption))
  · rename ((x == Str.ofString "") = false) => hq
    have hne := not_nil_of hq
    unfold Hold
    refine loop_text (VdInv x y) rfl (by k_asm) ⟨⟨_, rfl⟩, _, rfl, rfl⟩ ?_ ?_
    · rintro i c t9 m₁ h₁ tk₁ own hi hc ⟨⟨t5, hsig⟩, t6, hnum, hall⟩ F1 N1
      (replace F1 : Fr g' L' _ _ := F1)
      (replace N1 : News g' L' _ _ := N1)
      (try k_fold)
      k_steps
      · rename (Txt.find y (sg c) < 0) => hf
        have hm : c ∉ y.cps.toList := by
          rcases find_sg y c with ⟨_, h⟩ | ⟨h, _⟩
          · exact h
          · rw [h] at hf; unfold idx at hf; omega
        have e : vod y.cps.toList x.cps.toList = none := by
          unfold vod
          rw [if_neg hne, if_neg]
          intro ha
          have := List.all_eq_true.mp ha c (List.mem_of_getElem? hc)
          exact hm (by simpa using this)
        exact hret _ _ _ ⟨0, by rw [e]; rfl⟩ (by assumption) (keep_of kG' (by assumption))
      · rename (¬ Txt.find y (sg c) < 0) => hf
        have hm : Txt.find y (sg c) = idx y.cps.toList c ∧ c ∈ y.cps.toList := by
          rcases find_sg y c with ⟨h, _⟩ | h
          · rw [h] at hf; omega
          · exact h
        have hv : num y.cps.toList (x.cps.toList.take i) * (y.length : Int) + Txt.find y (sg c) = num y.cps.toList (x.cps.toList.take (i + 1)) := by rw [take_snoc hc, num_snoc, hm.1, hyl]
        have ha : (x.cps.toList.take (i + 1)).all (fun c => y.cps.toList.contains c) = true := by
          rw [take_snoc hc, List.all_append, hall]
          simpa using hm.2
        exact InvEndN.intro (nx := []) (by k_asm) (by k_asm) ⟨rfl, ⟨t5, by walk_at "CT LOOK"⟩, _, (if_pos rfl).trans (congrArg some (congrArg (fun z => Value.int z _) hv)), ha⟩ rfl (fun _ h => nomatch h) (fun p hp => hp)
    · rintro m₁ h₁ tk₁ ⟨⟨t5, hsig⟩, t6, hnum, hall⟩ F1 N1
      (replace F1 : Fr g' L' _ _ := F1)
      (replace N1 : News g' L' _ _ := N1)
      (try k_fold)
      k_steps
      rw [hxl, List.take_length] at hall ⊢
      have e : vod y.cps.toList x.cps.toList = some (num y.cps.toList x.cps.toList) := by
        unfold vod
        rw [if_neg hne, if_pos hall]
      exact hret _ _ _ ⟨t6, by rw [e]; rfl⟩ (by assumption) (keep_of kG' (by assumption))

end
local macro_rules | `(tactic| walk_at "call ref") => `(tactic| (k_here; k_dflt (
  refine' vod_ok _ _ _ _ _ ?h2 ?h3 ?G ?hd ?hu ?_
  walk_at "CT PURE"
  (case h2 => first | omega | decide)
  (case h3 => first | omega | decide)
  intro v9 h9' tk9' hP9
  (obtain ⟨w9, e9⟩ := hP9)
  subst e9
  walk_at "CT PBACK")))

section
section
variable {prog : Program} {w : World} {A : Around} {E : Value → Shared → Prop} {s : Shared} {h₀ : Heap} {L : Addr} {m : Str → Option Value} {env : Env}
theorem str_st {k : String} {x : Str} {t : Tok} {I : Addr} {S : List (Addr × Obj) → Prop} : ∀ i (h h' : Heap) (o : Obj) (nw : List (Addr × Obj)), h.IsStrIter I k x t i → h.get? I = some o → h'.get? I = some o → (∀ b o, h₀.get? b = some o → h'.get? b = some o) → News h₀ L h' nw → S nw → h'.IsStrIter I k x t i :=
  fun i h h' o nw st e e' _ _ _ => by obtain ⟨o', q, r⟩ := st; rw [e] at q; cases q; exact ⟨o, e', r⟩

def SrcS (prog : Program) (w : World) (A : Around) (h₀ : Heap) (L : Addr) (m : Str → Option Value) (env : Env) (elt : PySem.Expr) (x : Str) (scope : Scope) (cl : List (Str × Addr)) (Fin : Shared → List Value → List (Addr × Obj) → Prop) (xv : Value) (s₁ : Shared) : Prop :=
  ∃ xt tt news, xv = .str xt tt ∧ A.handled = none ∧ Fr h₀ L s₁.heap m ∧ News h₀ L s₁.heap news ∧ xt.cps.size ≤ sizeLine ∧
    ∀ s₂ : Shared, (∃ h, s₂ = { s₁ with heap := h }) → LCg.CompRest prog w A h₀ L m env elt x scope cl s₂ (fun _ => True) (SignAt xt) (Fin s₂) xt.cps.size 0 [] news

theorem block_S {elt iter : PySem.Expr} {x : Str} {px : Pos} {scope : Scope} {cl : List (Str × Addr)} {pos : Pos} {Q : Value → Shared → Prop} {k : String} {o : Obj} {xt : Str} {tt : Tok} {news : List (Addr × Obj)}
    (W : Walks prog w A s.heap.objs.size [s.heap.objs.size] [s.heap.objs.size] xt.cps.size (SignAt xt) (fun i h => h.IsStrIter s.heap.objs.size k xt tt i)) (st : (s.heap.push o).IsStrIter s.heap.objs.size k xt tt 0)
    (hcell : ∀ y ∈ scope.names, y.2 ≠ .cell) (hkind : scope.kind = .function) (hx : scope.names.lookup x = some .local) (F : Fr h₀ L s.heap m) (N : News h₀ L s.heap news) (hsz : xt.cps.size ≤ sizeLine)
    (R : ∀ s₂ : Shared, (∃ h, s₂ = { s with heap := h }) → LCg.CompRest prog w A h₀ L m env elt x scope cl s₂ (fun _ => True) (SignAt xt) (LCg.FinE h₀ L m s₂ Q) xt.cps.size 0 [] news) :
    wpAny (model prog w) A (newList []) (fun acc s₃ => wpAny (model prog w) A (newFunctionEnv scope env.globals cl [] env.qual none .none (some env)) (fun cenv s₄ =>
      codeAny (model prog w) A (.compStart (.ListComp elt [⟨.Name x px, iter, [], 0⟩] scope pos) 0 (.ref s.heap.objs.size) acc { cenv with scope := relabel scope env }) (compPost (model prog w) A E none Q acc cenv.locals) s₄) E s₃) E { s with heap := s.heap.push o } := by
  refine LCg.block_U W hsz (fun i h st => by obtain ⟨o, e, _⟩ := st; exact ⟨o, e⟩) str_st hcell hkind hx st (fun b hb => ?_)
    (F.keeps fun _ _ e => Heap.get?_push_of_some _ e) (N.grown fun _ _ e => Heap.get?_push_of_some _ e) (Nat.ne_of_lt F.ns.lt) (next_is_new F) (fun p hp => Nat.ne_of_lt (Heap.lt_size (N p hp).1)) trivial (R _ ⟨_, rfl⟩) ?_
  · rw [List.mem_singleton.mp hb]
    show s.heap.objs.size < (s.heap.push _).objs.size
    rw [Heap.size_push]; exact Nat.lt_succ_self _
  · intro D C h tk m' ys news' F' N' o1 hn hC₀ hD₀ hCL hDL hCD offC fin
    refine ⟨m', hn, fun h'' hs'' => fin D h'' tk (F'.change hs'' hCL hC₀) (fun p hp => ?_) o1⟩
    refine ⟨hs''.extBut _ _ ?_ (N' p hp).1, (N' p hp).2⟩
    rcases List.mem_cons.mp hp with rfl | hp
    · exact Ne.symm hCD
    · exact offC p hp

theorem ListComp_S {elt iter : PySem.Expr} {x : Str} {px : Pos} {scope : Scope} {cl : List (Str × Addr)} {pos : Pos} {Q : Value → Shared → Prop} (F₀ : Fr h₀ L s.heap m)
    (hclos : closureFor scope env = pure cl) (hcell : ∀ y ∈ scope.names, y.2 ≠ .cell) (hkind : scope.kind = .function)
    (hnames : ∀ y ∈ scope.names, y.2 = .local → scope.names.lookup y.1 = some .local) (hx : scope.names.lookup x = some .local)
    (h : wpAny (model prog w) A (eval iter env) (SrcS prog w A h₀ L m env elt x scope cl (fun s₂ => LCg.FinE h₀ L m s₂ Q)) E s)
    (hs : ∀ x, foldedSetIterable iter env x = pure x := by intro _; rfl) :
    wpAny (model prog w) A (eval (.ListComp elt [⟨.Name x px, iter, [], 0⟩] scope pos) env) Q E s := by
  rw [eval_ListComp]
  refine wpAny_comprehension_free (use := none) rfl hs hclos hkind hnames (wpAny_mono h (fun xv s₁ h₁ => ?_) fun _ _ e => e)
  obtain ⟨xt, tt, news, rfl, hh, F, N, hsz, R⟩ := h₁
  cases ha : xt.cps.all (· < 128)
  · exact wpAny_pyIter_wide ha (block_S (Walks.strWide hh _ xt tt) ⟨_, Heap.get?_push_size _ rfl, rfl, rfl⟩ hcell hkind hx F N hsz R)
  · exact wpAny_pyIter_ascii ha (block_S (Walks.strAscii hh _ xt tt) ⟨_, Heap.get?_push_size _ rfl, rfl, rfl⟩ hcell hkind hx F N hsz R)

/-- a test -/
def SrcST (prog : Program) (w : World) (A : Around) (h₀ : Heap) (L : Addr) (m : Str → Option Value) (env : Env) (ct elt : PySem.Expr) (x : Str) (scope : Scope) (cl : List (Str × Addr)) (Fin : Shared → List Value → List (Addr × Obj) → Prop) (xv : Value) (s₁ : Shared) : Prop :=
  ∃ xt tt news, xv = .str xt tt ∧ A.handled = none ∧ Fr h₀ L s₁.heap m ∧ News h₀ L s₁.heap news ∧ xt.cps.size ≤ sizeLine ∧
    ∀ s₂ : Shared, (∃ h, s₂ = { s₁ with heap := h }) → LCt.CompRestT prog w A h₀ L m env ct elt x scope cl s₂ (fun _ => True) (SignAt xt) (Fin s₂) xt.cps.size 0 [] news

theorem block_ST {ct elt iter : PySem.Expr} {x : Str} {px : Pos} {scope : Scope} {cl : List (Str × Addr)} {pos : Pos} {Q : Value → Shared → Prop} {k : String} {o : Obj} {xt : Str} {tt : Tok} {news : List (Addr × Obj)}
    (W : Walks prog w A s.heap.objs.size [s.heap.objs.size] [s.heap.objs.size] xt.cps.size (SignAt xt) (fun i h => h.IsStrIter s.heap.objs.size k xt tt i)) (st : (s.heap.push o).IsStrIter s.heap.objs.size k xt tt 0)
    (hcell : ∀ y ∈ scope.names, y.2 ≠ .cell) (hkind : scope.kind = .function) (hx : scope.names.lookup x = some .local) (F : Fr h₀ L s.heap m) (N : News h₀ L s.heap news) (hsz : xt.cps.size ≤ sizeLine)
    (R : ∀ s₂ : Shared, (∃ h, s₂ = { s with heap := h }) → LCt.CompRestT prog w A h₀ L m env ct elt x scope cl s₂ (fun _ => True) (SignAt xt) (LCg.FinE h₀ L m s₂ Q) xt.cps.size 0 [] news) :
    wpAny (model prog w) A (newList []) (fun acc s₃ => wpAny (model prog w) A (newFunctionEnv scope env.globals cl [] env.qual none .none (some env)) (fun cenv s₄ =>
      codeAny (model prog w) A (.compStart (.ListComp elt [⟨.Name x px, iter, [ct], 0⟩] scope pos) 0 (.ref s.heap.objs.size) acc { cenv with scope := relabel scope env }) (compPost (model prog w) A E none Q acc cenv.locals) s₄) E s₃) E { s with heap := s.heap.push o } := by
  refine LCt.block_T W hsz (fun i h st => by obtain ⟨o, e, _⟩ := st; exact ⟨o, e⟩) str_st hcell hkind hx st (fun b hb => ?_)
    (F.keeps fun _ _ e => Heap.get?_push_of_some _ e) (N.grown fun _ _ e => Heap.get?_push_of_some _ e) (Nat.ne_of_lt F.ns.lt) (next_is_new F) (fun p hp => Nat.ne_of_lt (Heap.lt_size (N p hp).1)) trivial (R _ ⟨_, rfl⟩) ?_
  · rw [List.mem_singleton.mp hb]
    show s.heap.objs.size < (s.heap.push _).objs.size
    rw [Heap.size_push]; exact Nat.lt_succ_self _
  · intro D C h tk m' ys news' F' N' o1 hn hC₀ hD₀ hCL hDL hCD offC fin
    refine ⟨m', hn, fun h'' hs'' => fin D h'' tk (F'.change hs'' hCL hC₀) (fun p hp => ?_) o1⟩
    refine ⟨hs''.extBut _ _ ?_ (N' p hp).1, (N' p hp).2⟩
    rcases List.mem_cons.mp hp with rfl | hp
    · exact Ne.symm hCD
    · exact offC p hp

theorem ListComp_ST {ct elt iter : PySem.Expr} {x : Str} {px : Pos} {scope : Scope} {cl : List (Str × Addr)} {pos : Pos} {Q : Value → Shared → Prop} (F₀ : Fr h₀ L s.heap m)
    (hclos : closureFor scope env = pure cl) (hcell : ∀ y ∈ scope.names, y.2 ≠ .cell) (hkind : scope.kind = .function)
    (hnames : ∀ y ∈ scope.names, y.2 = .local → scope.names.lookup y.1 = some .local) (hx : scope.names.lookup x = some .local)
    (h : wpAny (model prog w) A (eval iter env) (SrcST prog w A h₀ L m env ct elt x scope cl (fun s₂ => LCg.FinE h₀ L m s₂ Q)) E s)
    (hs : ∀ x, foldedSetIterable iter env x = pure x := by intro _; rfl) :
    wpAny (model prog w) A (eval (.ListComp elt [⟨.Name x px, iter, [ct], 0⟩] scope pos) env) Q E s := by
  rw [eval_ListComp]
  refine wpAny_comprehension_free (use := none) rfl hs hclos hkind hnames (wpAny_mono h (fun xv s₁ h₁ => ?_) fun _ _ e => e)
  obtain ⟨xt, tt, news, rfl, hh, F, N, hsz, R⟩ := h₁
  cases ha : xt.cps.all (· < 128)
  · exact wpAny_pyIter_wide ha (block_ST (Walks.strWide hh _ xt tt) ⟨_, Heap.get?_push_size _ rfl, rfl, rfl⟩ hcell hkind hx F N hsz R)
  · exact wpAny_pyIter_ascii ha (block_ST (Walks.strAscii hh _ xt tt) ⟨_, Heap.get?_push_size _ rfl, rfl, rfl⟩ hcell hkind hx F N hsz R)
end

section
variable {prog : Program} {w : World} {A : Around} {h₀ : Heap} {L : Addr} {m : Str → Option Value} {env : Env} {ct elt : PySem.Expr} {x : Str} {scope : Scope} {cl : List (Str × Addr)} {s : Shared} {S : List (Addr × Obj) → Prop} {P : Nat → Value → Prop} {Fin : List Value → List (Addr × Obj) → Prop} {news : List (Addr × Obj)}
theorem rest_invT {n : Nat} (Inv : Nat → List Value → List (Addr × Obj) → Prop) (h0 : Inv 0 [] news)
    (turn : ∀ i ys news v I oI C oC D m₂ h tk (E' : Value → Shared → Prop), i < n → Inv i ys news → P i v → LCg.NsObj oC m₂ → m₂ x = some v → Fr h₀ L h m → News h₀ L h ((I, oI) :: (C, oC) :: (D, LCg.lst ys) :: news) → LCg.Off3 I C D news → ((@Ne Nat I C) ∧ (@Ne Nat I D) ∧ (@Ne Nat C D)) →
      wpAny (model prog w) A (isTrue ct (compEnvC scope cl C env) (eval ct (compEnvC scope cl C env))) (fun ok s' => if ok = true then
        wpAny (model prog w) A (eval elt (compEnvC scope cl C env)) (LCg.CompEnd h₀ L m { s with heap := h, toks := tk } I oI C oC D (LCg.lst ys) S (fun y news' => Inv (i + 1) (ys ++ [y]) news')) E' s'
        else LCg.CompEnd h₀ L m { s with heap := h, toks := tk } I oI C oC D (LCg.lst ys) S (fun _ news' => Inv (i + 1) ys news') Value.none s') E' { s with heap := h, toks := tk })
    (fin : ∀ ys news, Inv n ys news → Fin ys news) : LCt.CompRestT prog w A h₀ L m env ct elt x scope cl s S P Fin n 0 [] news := by
  have key : ∀ (j i : Nat) (ys : List Value) (news : List (Addr × Obj)), i + j = n → Inv i ys news → LCt.CompRestT prog w A h₀ L m env ct elt x scope cl s S P Fin j i ys news := by
    intro j
    induction j with
    | zero => intro i ys news hi hy; exact LCt.CompRestT.zero (fin ys news (by rw [← hi]; exact hy))
    | succ j ih =>
      intro i ys news hi hy
      refine LCt.CompRestT.succ fun v I oI C oC D m₂ h tk E' hv hC hx F N off ne => ?_
      refine wpAny_mono (turn i ys news v I oI C oC D m₂ h tk E' (by omega) hy hv hC hx F N off ne) (fun ok s₂ hq => ?_) fun _ _ e => e
      cases ok with
      | true =>
        simp only [if_true] at hq ⊢
        refine wpAny_mono hq (fun y s₃ hr => ?_) fun _ _ e => e
        obtain ⟨h', tk', nw, e, F', N', off', hS, hI⟩ := hr
        exact ⟨h', tk', nw, e, F', N', off', hS, ih (i + 1) _ _ (by omega) hI⟩
      | false =>
        simp only [Bool.false_eq_true, if_false] at hq ⊢
        obtain ⟨h', tk', nw, e, F', N', off', hS, hI⟩ := hq
        exact ⟨h', tk', nw, e, F', N', off', hS, ih (i + 1) _ _ (by omega) hI⟩
  exact key n 0 [] news (by omega) h0
end

end

section
def low (c : Nat) : Nat := if 65 ≤ c ∧ c ≤ 70 then c + 32 else c
def decS : List Nat := [48, 49, 50, 51, 52, 53, 54, 55, 56, 57]
def hexS : List Nat := [48, 49, 50, 51, 52, 53, 54, 55, 56, 57, 97, 98, 99, 100, 101, 102]
/-- the number told -/
def code (l : List Nat) : Option Int :=
  if l.take 1 = [120] then (if ((wn (l.drop 1)).map low).length > 12 then none else vod hexS ((wn (l.drop 1)).map low))
  else if (wn l).length > 12 then none else vod decS (wn l)

def CdInv (d : List Nat) (p : Addr × Obj) (i : Nat) (ys : List Value) (news : List (Addr × Obj)) : Prop :=
  news = [p] ∧ StrsAre ys (((d.take i).map low).map sg)

theorem sg_ltA {c : Nat} : (sg c).cps.toList < (Str.ofString "A").cps.toList ↔ c < 65 := by
  rw [show (Str.ofString "A").cps.toList = [65] by decide]
  show [c] < [65] ↔ _
  rw [List.cons_lt_cons_iff]; simp
theorem sg_gtF {c : Nat} : (Str.ofString "F").cps.toList < (sg c).cps.toList ↔ 70 < c := by
  rw [show (Str.ofString "F").cps.toList = [70] by decide]
  show [70] < [c] ↔ _
  rw [List.cons_lt_cons_iff]; simp
theorem sg_leF {c : Nat} (h : ¬ (Str.ofString "F").cps.toList < (sg c).cps.toList) : c ≤ 70 := by
  rw [sg_gtF] at h; omega
theorem strs_snoc' {c d : Nat} {t : Tok} {vs : List Value} {l : List Nat} (h : StrsAre vs (l.map sg)) (e : c = d) : StrsAre (vs ++ [.str (sg c) t]) ((l ++ [d]).map sg) := by subst e; exact strs_snoc h

local macro_rules | `(tactic| walk_at "call builtin:chr") => `(tactic| (k_here; (refine chr_of_range (by omega) (by (have h9 := sg_leF (by assumption)); omega) ?_)))
local macro_rules | `(tactic| walk_at "eval ListComp") => `(tactic| (k_here; refine Hold.out ?_))
set_option maxHeartbeats 8000000 in
theorem code_ok (w : World) (x : Str) (tt : Tok) (h2 : x.length ≤ 64) : CtP w 33 [.str x tt] 2 (fun v => ∃ tk, v = optV (code x.cps.toList) tk) := by
  w_top off
  intro prog mean mg mb dp un gd cn cs ad ccd cl outer A₀ base h₀ L m s Q E G hdp hun hret
  obtain ⟨B, F, X, T, hk⟩ := G
  have N : News h₀ L s.heap [] := News.nil
  have hxl : x.length = x.cps.toList.length := by rw [Array.length_toList]; rfl
  refine wpAny_call ?_
  walk_at "CT ENTER"
  intro g' L' h' FG' F' N' B' X' T' kG'
  (try dsimp only)
  (try k_fold)
  k_steps
  · rename ((Txt.slice x none (some 1) == Str.ofString "x") = true) => hq
    unfold Hold
    refine ListComp_S (F₀ := by k_asm) (by with_unfolding_all rfl) (by decide) (by rfl) (by decide) (by rfl) ?_
    k_steps
    refine ⟨_, _, _, rfl, rfl, by k_asm, by k_asm, ?_, ?_⟩
    · rw [PySem.sizeLine_eq]; show (tx _).length ≤ _; omega
    · rintro s₂ ⟨g9, rfl⟩
      have hd : (Txt.slice x (some 1) none).cps.toList = x.cps.toList.drop 1 := by rw [slice_tail, tx_list]
      refine rest_inv (CdInv (wn (Txt.slice x (some 1) none).cps.toList) _) ⟨rfl, .nil⟩ ?_ ?_
      · rintro i ys news v I oI C oC D m₂ h tk E' hi ⟨rfl, hy⟩ ⟨c, t6, hc, rfl⟩ hC hx F5 N5 off ne
        simp only [LCg.Off3, and_true] at off
        obtain ⟨ne1, ne2, ne3⟩ := ne
        obtain ⟨of1, of2, of3⟩ := off
        have hc' : (wn (Txt.slice x (some 1) none).cps.toList)[i]? = some c := by rw [← tx_list (wn _), Array.getElem?_toList]; exact hc
        have ht : ((wn (Txt.slice x (some 1) none).cps.toList).take (i + 1)).map low = ((wn (Txt.slice x (some 1) none).cps.toList).take i).map low ++ [low c] := by rw [take_snoc hc', List.map_append]; rfl
        k_steps
        · rename ((sg c).cps.toList < (Str.ofString "A").cps.toList) => h1
          rw [sg_ltA] at h1
          refine ⟨rfl, ?_⟩
          rw [ht]
          exact strs_snoc' hy (by unfold low; rw [if_neg (by omega)])
        · rename ((Str.ofString "F").cps.toList < (sg c).cps.toList) => h1
          rw [sg_gtF] at h1
          refine ⟨rfl, ?_⟩
          rw [ht]
          exact strs_snoc' hy (by unfold low; rw [if_neg (by omega)])
        · rename (¬ (sg c).cps.toList < (Str.ofString "A").cps.toList) => h1
          rename (¬ (Str.ofString "F").cps.toList < (sg c).cps.toList) => h2
          rw [sg_ltA] at h1
          rw [sg_gtF] at h2
          refine ⟨rfl, ?_⟩
          rw [ht]
          exact strs_snoc' hy (by unfold low; rw [if_pos (by omega)]; omega)
      · rintro ys news ⟨rfl, hy⟩
        have hw : (wn (x.cps.toList.drop 1)).length ≤ 64 := Nat.le_trans (wn_len _) (by rw [List.length_drop]; omega)
        have hE : (wn (Txt.slice x (some 1) none).cps.toList).take (tx (wn (Txt.slice x (some 1) none).cps.toList)).cps.size = wn (x.cps.toList.drop 1) := by
          rw [hd]; exact List.take_of_length_le (Nat.le_of_eq (by simp))
        rw [hE] at hy
        have hl : ((wn (x.cps.toList.drop 1)).map low).length ≤ 64 := by rw [List.length_map]; exact hw
        have hq' : x.cps.toList.take 1 = [120] := by
          rw [slice_head] at hq
          have := congrArg (fun z => z.cps.toList) (beq_iff_eq.mp hq)
          dsimp only at this
          rw [tx_list] at this
          rw [this]; decide
        have hcode : code x.cps.toList = if ((wn (x.cps.toList.drop 1)).map low).length > 12 then none else vod hexS ((wn (x.cps.toList.drop 1)).map low) := by unfold code; rw [if_pos hq']
        generalize (wn (x.cps.toList.drop 1)).map low = e at hy hl hcode
        have hl' := tx_len e
        k_steps
        · have e9 : code x.cps.toList = none := by rw [hcode, if_pos (by omega)]
          exact hret _ _ _ ⟨0, by rw [e9]; rfl⟩ (by assumption) (keep_of kG' (by assumption))
        · have e9 : code x.cps.toList = vod (Str.ofString "0123456789abcdef").cps.toList (tx e).cps.toList := by rw [hcode, if_neg (by omega), tx_list]; rfl
          rw [← e9]
          exact hret _ _ _ ⟨_, rfl⟩ (by assumption) (keep_of kG' (by assumption))
  · rename ((Txt.slice x none (some 1) == Str.ofString "x") = false) => hq
    have hq' : ¬ x.cps.toList.take 1 = [120] := fun e => by
      rw [slice_head, e] at hq
      exact absurd hq (by decide)
    have hcode : code x.cps.toList = if (wn x.cps.toList).length > 12 then none else vod decS (wn x.cps.toList) := by unfold code; rw [if_neg hq']
    have e9 : code x.cps.toList = none := by rw [hcode, if_pos]; rw [tx_len] at *; omega
    exact hret _ _ _ ⟨0, by rw [e9]; rfl⟩ (by assumption) (keep_of kG' (by assumption))
  · rename ((Txt.slice x none (some 1) == Str.ofString "x") = false) => hq
    have hq' : ¬ x.cps.toList.take 1 = [120] := fun e => by
      rw [slice_head, e] at hq
      exact absurd hq (by decide)
    have hcode : code x.cps.toList = if (wn x.cps.toList).length > 12 then none else vod decS (wn x.cps.toList) := by unfold code; rw [if_neg hq']
    have e9 : code x.cps.toList = vod (Str.ofString "0123456789").cps.toList (wn x.cps.toList) := by
      rw [hcode, if_neg]
      · rfl
      · rename (¬ (12 : Int) < _) => h12
        rw [tx_len] at h12; omega
    rw [← e9]
    exact hret _ _ _ ⟨_, rfl⟩ (by assumption) (keep_of kG' (by assumption))

end
local macro_rules | `(tactic| walk_at "call ref") => `(tactic| (k_here; k_dflt (
  refine' code_ok _ _ _ ?h2 ?G ?hd ?hu ?_
  walk_at "CT PURE"
  (case h2 => first | omega | decide)
  intro v9 h9' tk9' hP9
  (obtain ⟨w9, e9⟩ := hP9)
  subst e9
  walk_at "CT PBACK")))

section
section
open PyProof.V PySem.Spec
theorem st_canLayAll0 : ∀ ns : List Str, (∀ n ∈ ns, PyData.strOk n = true) → PyData.canLayAll0 (ns.map PyData.str) = true
  | [], _ => rfl
  | a :: r, h => by simp [PyData.canLayAll0, PyData.canLay0, st_canLayAll0 r fun n hn => h n (.tail _ hn), h a (.head _)]
theorem st_depthAll : ∀ ns : List Str, PyData.depthAll (ns.map PyData.str) = 0
  | [] => rfl
  | _ :: r => by simp [PyData.depthAll, PyData.depth, st_depthAll r]
theorem st_shaped (ns : List Str) (h : ∀ n ∈ ns, PyData.strOk n = true) : SeqAt.shaped (.list (ns.map PyData.str)) = true := by
  simp [SeqAt.shaped, PyData.canLay0, PyData.depth, st_canLayAll0 ns h, st_depthAll]
theorem st_sameAll : ∀ ns ms : List Str, PySem.Spec.sameAll (ns.map PyData.str) (ms.map PyData.str) = decide (ns = ms)
  | [], [] => by simp [PySem.Spec.sameAll]
  | [], _ :: _ => by simp [PySem.Spec.sameAll]
  | _ :: _, [] => by simp [PySem.Spec.sameAll]
  | a :: r, b :: t => by
    simp only [List.map_cons, PySem.Spec.sameAll, PySem.Spec.same, st_sameAll r t]
    by_cases h : a = b <;> by_cases h' : r = t <;> simp [h, h']
theorem st_same (ns ms : List Str) : PySem.Spec.same (.list (ns.map PyData.str)) (.list (ms.map PyData.str)) = decide (ns = ms) := by
  simp only [PySem.Spec.same]; exact st_sameAll ns ms
theorem ok_sgs {l : List Nat} (h : ∀ c ∈ l, c < 1114112) : ∀ n ∈ l.map sg, PyData.strOk n = true := fun n hn => by
  obtain ⟨c, hc, rfl⟩ := List.mem_map.mp hn
  have := h c hc
  unfold PyData.strOk
  simpa using this
variable {prog : Program} {w : World} {A : Around} {E : Value → Shared → Prop} {s : Shared} {a b : Addr} {xs ys : List Value} {ns ms : List Str} {Q : Value → Shared → Prop}
theorem st_eq (ha : s.heap.IsList a xs.toArray) (hb : s.heap.IsList b ys.toArray) (hi : StrsAre xs ns) (hj : StrsAre ys ms) (ka : ∀ n ∈ ns, PyData.strOk n = true) (kb : ∀ n ∈ ms, PyData.strOk n = true) (hu : A.units + 64 < cLine) (h : Q (.bool (decide (ns = ms))) s) :
    wpAny (model prog w) A (compareOp .Eq (.ref a) (.ref b)) Q E s :=
  eq_dataH_same (reads_newData ha hi.carried) (reads_newData hb hj.carried) (st_shaped _ ka) (st_shaped _ kb) hu (SeqAt.noMix_of_shape (.list .str) rfl _ _ (list_map_has fun _ => rfl) (list_map_has fun _ => rfl)) (by rw [st_same]; exact h)
theorem st_ne (ha : s.heap.IsList a xs.toArray) (hb : s.heap.IsList b ys.toArray) (hi : StrsAre xs ns) (hj : StrsAre ys ms) (ka : ∀ n ∈ ns, PyData.strOk n = true) (kb : ∀ n ∈ ms, PyData.strOk n = true) (hu : A.units + 64 < cLine) (h : Q (.bool (!decide (ns = ms))) s) :
    wpAny (model prog w) A (compareOp .NotEq (.ref a) (.ref b)) Q E s :=
  ne_dataH_same (reads_newData ha hi.carried) (reads_newData hb hj.carried) (st_shaped _ ka) (st_shaped _ kb) hu (SeqAt.noMix_of_shape (.list .str) rfl _ _ (list_map_has fun _ => rfl) (list_map_has fun _ => rfl)) (by rw [st_same]; exact h)
end

end

section
theorem fr_keep {h₀ h h' : Heap} {L : Addr} {m : Str → Option Value} {W : List Addr} (F : Fr h₀ L h m) (hk : ∀ b o, b ∉ W → h.get? b = some o → h'.get? b = some o) (hL : L ∉ W) (hW : ∀ b ∈ W, h₀.get? b = none) : Fr h₀ L h' m :=
  ⟨F.ns.at' fun o e => hk L o hL e, fun b o e => hk b o (fun hm => by rw [hW b hm] at e; cases e) (F.keep b o e), F.above⟩
theorem news_keepw {h₀ h h' : Heap} {L : Addr} {news : List (Addr × Obj)} {W : List Addr} (N : News h₀ L h news) (hk : ∀ b o, b ∉ W → h.get? b = some o → h'.get? b = some o) (off : ∀ p ∈ news, p.1 ∉ W) : News h₀ L h' news :=
  fun p hp => ⟨hk _ _ (off p hp) (N p hp).1, (N p hp).2⟩

section
variable {prog : Program} {w : World} {A : Around} {E : Value → Shared → Prop} {s : Shared} {h₀ : Heap} {L : Addr} {m : Str → Option Value} {env : Env}

/-- one turn of a comprehension over pairs whose element touches no heap -/
def PairTurn (prog : Program) (w : World) (A : Around) (h₀ : Heap) (L : Addr) (m : Str → Option Value) (env : Env) (elt : PySem.Expr) (a b : Str) (scope : Scope) (cl : List (Str × Addr)) (news : List (Addr × Obj)) (n : Nat) (Pt : Nat → Array Value → Prop) (Inv : Nat → List Value → Prop) (s : Shared) : Prop :=
  ∀ i ys v₁ v₂ C oC m₂ h tk (E' : Value → Shared → Prop), i < n → Inv i ys → Pt i #[v₁, v₂] → LCg.NsObj oC m₂ → m₂ a = some v₁ → m₂ b = some v₂ → Fr h₀ L h m → News h₀ L h ((C, oC) :: news) →
    wpAny (model prog w) A (eval elt (compEnvC scope cl C env)) (fun y s' => (∃ tk', s' = { s with heap := h, toks := tk' }) ∧ Inv (i + 1) (ys ++ [y])) E' { s with heap := h, toks := tk }

theorem pair_block {elt iter : PySem.Expr} {a b : Str} {pa pb tp : Pos} {kk : Nat} {scope : Scope} {cl : List (Str × Addr)} {pos : Pos} {s₂ : Shared} {I : Addr} {fp wr : List Addr} {n : Nat} {Pt : Nat → Array Value → Prop} {St : Nat → Heap → Prop} {Mid : Nat → Addr → Heap → Prop} {news : List (Addr × Obj)}
    {Inv : Nat → List Value → Prop} {Q : Value → Shared → Prop}
    (hh : A.handled = none) (W : WalksT prog w A I fp wr n Pt St Mid) (hpt : ∀ i vals, Pt i vals → ∃ v₁ v₂, vals = #[v₁, v₂]) (hsz : n ≤ sizeLine)
    (hcell : ∀ y ∈ scope.names, y.2 ≠ .cell) (hkind : scope.kind = .function) (hxa : scope.names.lookup a = some .local) (hxb : scope.names.lookup b = some .local) (hab : ¬ a = b) (hst : St 0 s₂.heap) (hfp : ∀ b ∈ fp, b < s₂.heap.objs.size)
    (F : Fr h₀ L s₂.heap m) (N : News h₀ L s₂.heap news) (hL : L ∉ wr) (hW₀ : ∀ b ∈ wr, h₀.get? b = none) (off : ∀ p ∈ news, p.1 ∉ wr) (h0 : Inv 0 [])
    (turn : PairTurn prog w A h₀ L m env elt a b scope cl news n Pt Inv s₂)
    (fin : ∀ ys D h tk, Inv n ys → Fr h₀ L h m → News h₀ L h ((D, LCg.lst ys) :: news) → Q (.ref D) { s₂ with heap := h, toks := tk }) :
    wpAny (model prog w) A (newList []) (fun acc s₃ => wpAny (model prog w) A (newFunctionEnv scope env.globals cl [] env.qual none .none (some env)) (fun cenv s₄ =>
      codeAny (model prog w) A (.compStart (.ListComp elt [⟨.Tuple [.Name a pa, .Name b pb] kk tp, iter, [], 0⟩] scope pos) 0 (.ref I) acc { cenv with scope := relabel scope env }) (compPost (model prog w) A E none Q acc cenv.locals) s₄) E s₃) E s₂ := by
  refine wpAny_newObj_type (wpAny_newFunctionEnv hcell (by intro y hy; simp at hy) (fun h₁ hns₁ hsb₁ => ?_) hkind)
  dsimp only at hns₁ hsb₁ ⊢
  generalize hH2 : s₂.heap.push { cls := .type "list", dict := none, data := .seq ([] : List Value).toArray } = H2 at hns₁ hsb₁ ⊢
  have hC : H2.objs.size = s₂.heap.objs.size + 1 := by rw [← hH2, Heap.size_push]
  have low : ∀ x, x < s₂.heap.objs.size → x ≠ H2.objs.size ∧ x ≠ s₂.heap.objs.size := fun x hx => ⟨by rw [hC]; exact Nat.ne_of_lt (Nat.lt_succ_of_lt hx), Nat.ne_of_lt hx⟩
  have hDC : s₂.heap.objs.size ≠ H2.objs.size := by rw [hC]; exact Nat.ne_of_lt (Nat.lt_succ_self _)
  have hDf : s₂.heap.objs.size ∉ fp := fun hm => Nat.lt_irrefl _ (hfp _ hm)
  have hCf : H2.objs.size ∉ fp := fun hm => (low _ (hfp _ hm)).1 rfl
  have hDw : s₂.heap.objs.size ∉ wr := fun hm => hDf (W.sub _ hm)
  have hCw : H2.objs.size ∉ wr := fun hm => hCf (W.sub _ hm)
  have hnew : ∀ x, s₂.heap.objs.size ≤ x → h₀.get? x = none := fun x hx => by
    cases e : h₀.get? x with
    | none => rfl
    | some o' => exact absurd (Heap.lt_size (F.keep x o' e)) (Nat.not_lt.mpr hx)
  have hD₀ : h₀.get? s₂.heap.objs.size = none := hnew _ (Nat.le_refl _)
  have hC₀ : h₀.get? H2.objs.size = none := hnew _ (by rw [hC]; exact Nat.le_succ _)
  have hLlt : L < s₂.heap.objs.size := F.ns.lt
  have hLD : L ≠ s₂.heap.objs.size := (low L hLlt).2
  have hLC : L ≠ H2.objs.size := (low L hLlt).1
  have old : ∀ x o, s₂.heap.get? x = some o → h₁.get? x = some o := fun x o e => hsb₁.extBut x o (low x (Heap.lt_size e)).1 (Heap.get?_push_of_some _ (hH2 ▸ Heap.get?_push_of_some _ e))
  have hacc : h₁.get? s₂.heap.objs.size = some (LCg.lst []) := hsb₁.extBut _ _ hDC (Heap.get?_push_of_some _ (hH2 ▸ Heap.get?_push_size _ rfl))
  have nlow : ∀ p ∈ news, p.1 ≠ H2.objs.size ∧ p.1 ≠ s₂.heap.objs.size := fun p hp => low _ (Heap.lt_size (N p hp).1)
  have hst₁ : St 0 h₁ := W.frame _ _ _ hst fun x _ o e => old x o e
  have post : ∀ ys m' h tk, Inv n ys → Fr h₀ L h m → h.Ns H2.objs.size m' → News h₀ L h ((s₂.heap.objs.size, LCg.lst ys) :: news) →
      compPost (model prog w) A E none Q (.ref s₂.heap.objs.size) H2.objs.size (.ok .next) { s₂ with heap := h, toks := tk } := by
    intro ys m' h tk hi F' hn N'
    refine ⟨m', hn, fun h'' hs'' => fin ys _ h'' tk hi (F'.change hs'' (Ne.symm hLC) hC₀) fun p hp => ?_⟩
    refine ⟨hs''.extBut _ _ ?_ (N' p hp).1, (N' p hp).2⟩
    rcases List.mem_cons.mp hp with rfl | hp
    · exact hDC
    · exact (nlow p hp).1
  have loop : ∀ s₃ : Shared, s₃ = { s₂ with heap := h₁, toks := s₂.toks + ([] : List (Str × Value)).length } →
      codeAny (model prog w) A (.compLoop (.ListComp elt [⟨.Tuple [.Name a pa, .Name b pb] kk tp, iter, [], 0⟩] scope pos) 0 (.ref I) (.ref s₂.heap.objs.size) (compEnvC scope cl H2.objs.size env))
        (compPost (model prog w) A E none Q (.ref s₂.heap.objs.size) H2.objs.size) s₃ := by
    rintro s₃ rfl
    refine kcp_loop
      (fun k s' => ∃ h' tk i ys m', s' = { s₂ with heap := h', toks := tk } ∧ i ≤ n ∧ k = n + 1 - i ∧ ys.length = i ∧ St i h' ∧ Fr h₀ L h' m ∧ h'.Ns H2.objs.size m' ∧ News h₀ L h' ((s₂.heap.objs.size, LCg.lst ys) :: news) ∧ Inv i ys) ?_ (n + 1)
      ⟨h₁, _, 0, [], _, rfl, Nat.zero_le _, rfl, rfl, hst₁, F.keeps old, hns₁, fun p hp => ?_, h0⟩
    · rintro k s' ⟨h', tk, i, ys, m', rfl, hi, rfl, hyl, hst', F', hn', N', hI⟩
      have offN : ∀ p ∈ ((s₂.heap.objs.size, LCg.lst ys) :: news), p.1 ∉ wr := fun p hp => by
        rcases List.mem_cons.mp hp with rfl | hp
        · exact hDw
        · exact off p hp
      by_cases hlt : i < n
      · refine W.item i _ _ _ hlt hst' fun T vals h₂ tk₂ hP hT0 hT hM hk₂ => ?_
        obtain ⟨v₁, v₂, rfl⟩ := hpt i vals hP
        refine W.go _ _ _ i T _ _ _ hM fun h₃ hst₃ hk₃ => ?_
        have hTw := W.apart i T _ hM
        have hT₃ : h₃.IsTuple T #[v₁, v₂] := by obtain ⟨o, e, r⟩ := hT; exact ⟨o, hk₃ _ o hTw e, r⟩
        have up : ∀ x o, x ∉ wr → h'.get? x = some o → h₃.get? x = some o := fun x o hx e => hk₃ x o hx (hk₂ x o hx e)
        have F₃ : Fr h₀ L h₃ m := fr_keep F' up hL hW₀
        have N₃ : News h₀ L h₃ ((s₂.heap.objs.size, LCg.lst ys) :: news) := news_keepw N' up offN
        have hn₃ : h₃.Ns H2.objs.size m' := hn'.at' fun o e => up _ o hCw e
        refine kcp_assign (m := m') hh hT₃ (lookup_relabel_local hxa) (lookup_relabel_local hxb) (by simp [compEnvC, relabel, hkind]) hn₃ fun h₄ tk₄ hn₄ hk₄ => ?_
        replace hk₄ : ∀ c o, c ≠ H2.objs.size → h₃.get? c = some o → h₄.get? c = some o := hk₄
        have hst₄ : St (i + 1) h₄ := W.frame _ _ _ hst₃ fun x hx o e => hk₄ x o (fun q => hCf (q ▸ hx)) e
        have F₄ : Fr h₀ L h₄ m := fr_keep (W := [H2.objs.size]) F₃ (fun x o hx e => hk₄ x o (by simpa using hx) e) (by simpa using hLC) (fun x hx => by rw [List.mem_singleton.mp hx]; exact hC₀)
        have N₄ : News h₀ L h₄ ((s₂.heap.objs.size, LCg.lst ys) :: news) := news_keepw (W := [H2.objs.size]) N₃ (fun x o hx e => hk₄ x o (by simpa using hx) e) (fun p hp => by
          rcases List.mem_cons.mp hp with rfl | hp
          · simpa using hDC
          · simpa using (nlow p hp).1)
        obtain ⟨oC, heC, hoC⟩ := LCg.ns_obj hn₄
        have N₄' : News h₀ L h₄ ((H2.objs.size, oC) :: news) := fun p hp => by
          rcases List.mem_cons.mp hp with rfl | hp
          · exact ⟨heC, Ne.symm hLC, hC₀⟩
          · exact N₄ p (.tail _ hp)
        refine wpAny_mono (turn i ys v₁ v₂ H2.objs.size oC _ h₄ tk₄ _ hlt hI hP hoC ?_ ?_ F₄ N₄') (fun y s₅ h₅ => ?_) fun _ _ e => e
        · rw [if_neg hab, if_pos rfl]
        · rw [if_pos rfl]
        · obtain ⟨⟨tk₅, rfl⟩, hI'⟩ := h₅
          have zD := (N₄ (s₂.heap.objs.size, LCg.lst ys) (.head _)).1
          refine append_at (hsz := by show ys.toArray.size ≤ sizeLine; rw [List.size_toArray, hyl]; exact Nat.le_trans hi hsz) zD fun h₆ hs₆ hD₆ => ?_
          refine ⟨n + 1 - (i + 1), by omega, h₆, tk₅, i + 1, ys ++ [y], _, rfl, hlt, rfl, by rw [List.length_append, List.length_singleton, hyl], W.frame _ _ _ hst₄ fun x hx o e => hs₆.extBut x o (fun q => hDf (q ▸ hx)) e, F₄.change hs₆ (Ne.symm hLD) hD₀,
            hn₄.sameBut hs₆ (Ne.symm hDC), fun p hp => ?_, hI'⟩
          rcases List.mem_cons.mp hp with rfl | hp
          · exact ⟨hD₆.trans (congrArg some (LCg.lst_snoc ys y)), Ne.symm hLD, hD₀⟩
          · exact ⟨hs₆.extBut _ _ (nlow p hp).2 (N₄ p (.tail _ hp)).1, (N₄ p (.tail _ hp)).2⟩
      · obtain rfl : i = n := Nat.le_antisymm hi (Nat.not_lt.mp hlt)
        refine W.done _ _ _ hst' fun h₂ tk₂ hk₂ => ?_
        exact post ys m' h₂ tk₂ hI (fr_keep F' hk₂ hL hW₀) (hn'.at' fun o e => hk₂ _ o hCw e) (news_keepw N' hk₂ offN)
    · rcases List.mem_cons.mp hp with rfl | hp
      · exact ⟨hacc, Ne.symm hLD, hD₀⟩
      · exact ⟨old _ _ (N p hp).1, (N p hp).2⟩
  exact codeAny_compStart_list (loop _ rfl) (W.self 0 _ _ _ hst₁ (loop _ rfl))

/-- the pairs of enumerate over a text -/
def EnumPt (xt : Str) (i : Nat) (vals : Array Value) : Prop := ∃ (t : Tok) (x : Value), (∃ c u, xt.cps[i]? = some c ∧ x = .str ⟨#[c]⟩ u) ∧ vals = #[.int i t, x]

def SrcE (prog : Program) (w : World) (A : Around) (h₀ : Heap) (L : Addr) (m : Str → Option Value) (env : Env) (elt : PySem.Expr) (a b : Str) (scope : Scope) (cl : List (Str × Addr)) (Q : Value → Shared → Prop) (xv : Value) (s₁ : Shared) : Prop :=
  ∃ (e it : Addr) (k : String) (xt : Str) (tt : Tok) (news : List (Addr × Obj)) (Inv : Nat → List Value → Prop), xv = .ref e ∧ A.handled = none ∧ Fr h₀ L s₁.heap m ∧ News h₀ L s₁.heap news ∧ IsEnum s₁.heap e it 0 .none ∧ s₁.heap.IsStrIter it k xt tt 0 ∧ (k = strIterType xt) ∧ @Ne Nat e it ∧ L ∉ [e, it] ∧ (∀ b ∈ [e, it], h₀.get? b = none) ∧ (∀ p ∈ news, p.1 ∉ [e, it]) ∧ xt.cps.size ≤ sizeLine ∧ Inv 0 [] ∧
    PairTurn prog w A h₀ L m env elt a b scope cl news xt.cps.size (EnumPt xt) Inv s₁ ∧
    ∀ ys D h tk, Inv xt.cps.size ys → Fr h₀ L h m → News h₀ L h ((D, LCg.lst ys) :: news) → Q (.ref D) { s₁ with heap := h, toks := tk }

theorem ListComp_E {elt iter : PySem.Expr} {a b : Str} {pa pb tp : Pos} {kk : Nat} {scope : Scope} {cl : List (Str × Addr)} {pos : Pos} {Q : Value → Shared → Prop} (F₀ : Fr h₀ L s.heap m)
    (hclos : closureFor scope env = pure cl) (hcell : ∀ y ∈ scope.names, y.2 ≠ .cell) (hkind : scope.kind = .function)
    (hnames : ∀ y ∈ scope.names, y.2 = .local → scope.names.lookup y.1 = some .local) (hxa : scope.names.lookup a = some .local) (hxb : scope.names.lookup b = some .local) (hab : ¬ a = b)
    (h : wpAny (model prog w) A (eval iter env) (SrcE prog w A h₀ L m env elt a b scope cl Q) E s)
    (hs : ∀ x, foldedSetIterable iter env x = pure x := by intro _; rfl) :
    wpAny (model prog w) A (eval (.ListComp elt [⟨.Tuple [.Name a pa, .Name b pb] kk tp, iter, [], 0⟩] scope pos) env) Q E s := by
  rw [eval_ListComp]
  refine wpAny_comprehension_free (use := none) rfl hs hclos hkind hnames (wpAny_mono h (fun xv s₁ h₁ => ?_) fun _ _ e => e)
  obtain ⟨e, it, k, xt, tt, news, Inv, rfl, hh, F, N, he, hit, rfl, hne, hL, hW, off, hsz, h0, turn, fin⟩ := h₁
  refine wpAny_pyIter_enum he ?_
  have hel : e < s₁.heap.objs.size := Heap.lt_size he
  have hil : it < s₁.heap.objs.size := by obtain ⟨o, ho, _⟩ := hit; exact Heap.lt_size ho
  have hpt : ∀ i vals, EnumPt xt i vals → ∃ v₁ v₂, vals = #[v₁, v₂] := fun i vals ⟨t, x, _, q⟩ => ⟨_, _, q⟩
  have side : e ∉ [it] := fun hm => hne (List.mem_singleton.mp hm)
  have hfp : ∀ b ∈ e :: [it], b < s₁.heap.objs.size := fun b hb => by
    rcases List.mem_cons.mp hb with rfl | hb
    · exact hel
    · rw [List.mem_singleton.mp hb]; exact hil
  cases ha : xt.cps.all (· < 128)
  · have hit' : s₁.heap.IsStrIter it "str_iterator" xt tt 0 := by simpa [strIterType, ha] using hit
    exact pair_block hh (WalksT.enumerateD (Draws.strWide (A := A.in1) hh it xt tt) e hne side (by simp)) hpt hsz hcell hkind hxa hxb hab ⟨⟨_, by simpa using he⟩, hit'⟩ hfp F N hL hW off h0 turn fin
  · have hit' : s₁.heap.IsStrIter it "str_ascii_iterator" xt tt 0 := by simpa [strIterType, ha] using hit
    exact pair_block hh (WalksT.enumerateD (Draws.strAscii (A := A.in1) hh it xt tt) e hne side (by simp)) hpt hsz hcell hkind hxa hxb hab ⟨⟨_, by simpa using he⟩, hit'⟩ hfp F N hL hW off h0 turn fin
end

end

section
theorem index_call {prog : Program} {w : World} {A : Around} {E : Value → Shared → Prop} {s : Shared} {y : Str} {c : Nat} {t u : Tok} {Q : Value → Shared → Prop} (hm : c ∈ y.cps.toList)
    (h : 0 ≤ idx y.cps.toList c → idx y.cps.toList c < (y.length : Int) → Q (.int (idx y.cps.toList c) s.toks) { s with toks := s.toks + 1 }) :
    wpAny (model prog w) A (call (.builtin "str.index") [.str y t, .str (sg c) u]) Q E s := by
  rcases find_sg y c with ⟨_, hn⟩ | ⟨hf, _⟩
  · exact absurd hm hn
  · have hlt : idx y.cps.toList c < (y.length : Int) := by
      unfold idx
      have h1 := List.idxOf_lt_length_of_mem hm
      have h2 : y.cps.toList.length = y.length := by rw [Array.length_toList]; rfl
      omega
    have h0 : 0 ≤ idx y.cps.toList c := by unfold idx; omega
    unfold Txt.find at hf
    split at hf
    · rename_i i rest ho
      refine SC.index ho ?_
      rw [hf]
      exact h h0 hlt
    · omega

/-- one term -/
def trm (y l : List Nat) (k : Nat) : Int := idx y (l.getD k 0) * (y.length : Int) ^ (l.length - 1 - k)
def trms (y l : List Nat) (i : Nat) : List Int := (List.range i).map (trm y l)
theorem trms_succ (y l : List Nat) (i : Nat) : trms y l (i + 1) = trms y l i ++ [trm y l i] := by simp [trms, List.range_succ]
theorem trms_sum (y l : List Nat) : ∀ i, i ≤ l.length → (trms y l i).sum = num y (l.take i) * (y.length : Int) ^ (l.length - i) := by
  intro i
  induction i with
  | zero => intro _; simp [trms, num]
  | succ i ih =>
    intro h
    have hc : l[i]? = some (l.getD i 0) := by rw [List.getElem?_eq_getElem (by omega)]; simp [List.getD, List.getElem?_eq_getElem (show i < l.length by omega)]
    rw [trms_succ, List.sum_append, ih (by omega), take_snoc hc, num_snoc, trm]
    have e : l.length - i = (l.length - (i + 1)) + 1 := by omega
    have e' : l.length - 1 - i = l.length - (i + 1) := by omega
    rw [e, e', Int.pow_succ]
    simp only [List.sum_cons, List.sum_nil, Int.add_zero]
    rw [Int.add_mul, Int.mul_assoc, Int.mul_comm ((y.length : Int) ^ _) (y.length : Int)]
theorem trms_all (y l : List Nat) : (trms y l l.length).sum = num y l := by
  rw [trms_sum y l l.length (Nat.le_refl _), List.take_length, Nat.sub_self, Int.pow_zero, Int.mul_one]

def LvInv (nw : List (Addr × Obj)) (y : List Nat) (l : List Nat) (i : Nat) (ys : List Value) (news : List (Addr × Obj)) : Prop :=
  news = nw ∧ StrsAre ys (((l.take i).filter (fun c => !y.contains c)).map sg)

local macro_rules | `(tactic| k_all) => `(tactic| assumption)
local macro_rules | `(tactic| walk_at "binaryOp Pow int int") => `(tactic| (k_here; refine pow_int_small (by omega) (by omega) (by omega) ?_))
local macro_rules | `(tactic| walk_at "eval ListComp") => `(tactic| (k_here; refine Hold.out ?_))
local macro_rules | `(tactic| walk_at "call type:enumerate") => `(tactic| (k_here; refine Hold.out ?_))
local macro_rules | `(tactic| walk_at "compareOp NotEq ref ref") => `(tactic| (k_here; refine Hold.out ?_))
local macro_rules | `(tactic| walk_at "call builtin:str.index") => `(tactic| (k_here; (with_reducible show wpAny _ _ (call _ [Value.str _ _, Value.str _ _]) _ _ _); refine' index_call ?h9 ?_; (case h9 => assumption); intro hix0 hix1))
set_option maxHeartbeats 8000000 in
theorem lval_ok (w : World) (x y : Str) (tt uu : Tok) (h1 : x.length ≤ 16) (h2 : 1 ≤ y.length) (h3 : y.length ≤ 32) (hA : ∀ c ∈ x.cps.toList, c < 1114112) : CtN w 78 [.str x tt, .str y uu] 12 (fun v => ∃ tk, v = optV (vod y.cps.toList x.cps.toList) tk) := by
  w_top off
  intro prog mean mg mb dp un gd cn cs ad ccd cl outer A₀ base h₀ L m s Q E news G hdp hun N hret
  obtain ⟨B, F, X, T, hk⟩ := G
  have hxl : x.length = x.cps.toList.length := by rw [Array.length_toList]; rfl
  have hyl : y.length = y.cps.toList.length := by rw [Array.length_toList]; rfl
  refine wpAny_call ?_
  refine' code_defC ?k1 ?k2 ?k3 ?k4 ?k5 ?kA ?kF ?kK ?k6 ?k7 ?k8 ?k9 ?kB ?kD ?_ ?c2 ?c3 ?c4; (case kA => exact rfl); (case kF => exact rfl); (case kK => assumption); (case k1 => k_asm); (case k2 => k_asm); (case k3 => k_asm); (case k4 => k_asm); (case k5 => k_asm); (case k6 => k_is); (case k7 => k_is); (case k8 => ktr_room); (case k9 => exact BindsTo.of_eq rfl); (case kB => exact rfl); (case kD => decide +kernel); (case c2 => exact rfl); (case c3 => exact rfl); (case c4 => exact rfl); k_whole; intro g' L' h' tk' cells' FG' F' N' Y' B' X' T' l1
  obtain ⟨o1, o2, hE, d1, d2⟩ := CellsAre.two Y'; subst hE; clear Y'; (try simp only [List.cons_append, List.nil_append] at N')
  have ln1 : ∀ p ∈ news, p.1 ≠ L' + 1 := fun p hp => Nat.ne_of_lt (Nat.lt_succ_of_lt (l1 p hp))
  have ln2 : ∀ p ∈ news, p.1 ≠ L' + 1 + 1 := fun p hp => Nat.ne_of_lt (Nat.lt_succ_of_lt (Nat.lt_succ_of_lt (l1 p hp)))
  (try dsimp only); (try k_fold)
  k_steps
  · rename ((x == Str.ofString "") = true) => hq
    have e : vod y.cps.toList x.cps.toList = none := by rw [nil_of hq]; rfl
    rename News h₀ L _ _ => kN
    exact hret _ _ _ ⟨0, by rw [e]; rfl⟩ (by assumption) (news_sub kN fun p hp => .tail _ (.tail _ hp))
  · rename ((x == Str.ofString "") = false) => hq
    have hne := not_nil_of hq
    unfold Hold
    refine ListComp_ST (F₀ := by k_asm) (by with_unfolding_all rfl) (by decide) (by rfl) (by decide) (by rfl) ?_
    k_steps
    refine ⟨_, _, _, rfl, rfl, by k_asm, by k_asm, ?_, ?_⟩
    · rw [PySem.sizeLine_eq]; show x.length ≤ _; omega
    · rintro s₂ ⟨g9, rfl⟩
      refine rest_invT (LvInv _ y.cps.toList x.cps.toList) ⟨rfl, .nil⟩ ?_ ?_
      · rintro i ys news5 v I oI C oC D m₂ h tk E' hi ⟨rfl, hy⟩ ⟨c, t6, hc, rfl⟩ hC hx F5 N5 off ne
        simp only [LCg.Off3] at off
        obtain ⟨ne1, ne2, ne3⟩ := ne
        obtain ⟨⟨of1, of2, of3⟩, ⟨of4, of5, of6⟩, off⟩ := off
        have hc' : x.cps.toList[i]? = some c := by rw [Array.getElem?_toList]; exact hc
        k_steps
        · rename ((Builtin.Str.occurrences y _ 0 y.length 1).isEmpty = true) => ho
          have hm : c ∉ y.cps.toList := fun hm => by
            have := StrLaws.found_one y c
            rw [ho, decide_eq_true hm] at this; cases this
          refine LCg.CompEnd.intro (by k_asm) (by k_asm) ((L' + 1 + 1, o1) :: (L' + 1, o2) :: news) (fun p hp => hp) ⟨⟨of1, of2, of3⟩, ⟨of4, of5, of6⟩, off⟩ trivial ⟨rfl, ?_⟩
          rw [take_snoc hc', List.filter_append]
          have : List.filter (fun c => !y.cps.toList.contains c) [c] = [c] := by
            rw [List.filter_cons, if_pos (by simpa using hm)]; rfl
          rw [this]
          exact strs_snoc hy
        · rename ((Builtin.Str.occurrences y _ 0 y.length 1).isEmpty = false) => ho
          have hm : c ∈ y.cps.toList := by
            have := StrLaws.found_one y c
            rw [ho] at this
            exact of_decide_eq_true this.symm
          refine LCg.CompEnd.intro (by k_asm) (by k_asm) ((L' + 1 + 1, o1) :: (L' + 1, o2) :: news) (fun p hp => hp) ⟨⟨of1, of2, of3⟩, ⟨of4, of5, of6⟩, off⟩ trivial ⟨rfl, ?_⟩
          rw [take_snoc hc', List.filter_append]
          have : List.filter (fun c => !y.cps.toList.contains c) [c] = [] := by
            rw [List.filter_cons, if_neg (by simpa using hm)]; rfl
          rw [this, List.append_nil]
          exact hy
      · rintro ys news5 ⟨rfl, hy⟩
        k_steps
        unfold Hold
        have hE : x.cps.toList.take x.cps.size = x.cps.toList := List.take_of_length_le (Nat.le_of_eq (by simp))
        rw [hE] at hy
        k_dflt (refine st_ne (ms := []) (News.isList (by k_asm) (by k_mem)) (News.isList (by k_asm) (by k_mem)) hy .nil (ok_sgs fun c hc => hA c (List.mem_filter.mp hc).1) (fun _ h => nomatch h) (by ktr_units) ?_)
        k_steps
        · rename (decide (_ = []) = true) => hde
          have hfil := List.map_eq_nil_iff.mp (of_decide_eq_true hde)
          have hall : ∀ c ∈ x.cps.toList, c ∈ y.cps.toList := fun c hc => by
            cases hb : y.cps.toList.contains c with
            | true => simpa using hb
            | false =>
              have : c ∈ x.cps.toList.filter (fun c => !y.cps.toList.contains c) := List.mem_filter.mpr ⟨hc, by rw [hb]; rfl⟩
              rw [hfil] at this; cases this
          unfold Hold
          refine ListComp_E (F₀ := by k_asm) (by with_unfolding_all rfl) (by decide) (by rfl) (by decide) (by rfl) (by rfl) (by decide) ?_
          k_steps
          unfold Hold
          refine call_enumerate_str fun h5 he5 hit5 hsz5 hk5 => ?_
          rename Fr g' L' _ _ => F8
          rename News g' L' _ _ => N8
          have F9 := Fr.keeps F8 hk5
          have N9 := News.grown N8 hk5
          have hLs := F8.ns.lt
          refine ⟨_, _, _, x, _, _, (fun i ys => IntsAre ys (trms y.cps.toList x.cps.toList i)), rfl, rfl, F9, N9, he5, hit5, rfl, Nat.succ_ne_self _, ?_, ?_, ?_, ?_, .nil, ?_, ?_⟩
          · intro hm
            rcases List.mem_cons.mp hm with e | hm
            · exact Nat.ne_of_lt (Nat.lt_succ_of_lt hLs) e
            · exact Nat.ne_of_lt hLs (List.mem_singleton.mp hm)
          · intro b hb
            rcases List.mem_cons.mp hb with rfl | hb
            · exact Heap.get?_none_of_le (Nat.le_trans F8.above (Nat.le_of_lt (Nat.lt_succ_of_lt hLs)))
            · rw [List.mem_singleton.mp hb]; exact Heap.get?_none_of_le (Nat.le_trans F8.above (Nat.le_of_lt hLs))
          · intro p hp hm
            have hq1 := Heap.lt_size (N8 p hp).1
            rcases List.mem_cons.mp hm with e | hm
            · exact Nat.ne_of_lt (Nat.lt_succ_of_lt hq1) e
            · exact Nat.ne_of_lt hq1 (List.mem_singleton.mp hm)
          · rw [PySem.sizeLine_eq]; show x.length ≤ _; omega
          · rintro i ys v₁ v₂ C oC m₂ h tk E' hi hI ⟨t, v, ⟨c, u, hc, rfl⟩, hv⟩ hC ha hb F5 N5
            cases hv
            have hc' : x.cps.toList[i]? = some c := by rw [Array.getElem?_toList]; exact hc
            have hm := hall c (List.mem_of_getElem? hc')
            have hi' : i < x.length := hi
            have e : idx y.cps.toList c * (y.length : Int) ^ ((x.length : Int) - 1 - (i : Int)).toNat = trm y.cps.toList x.cps.toList i := by
              have e1 : x.cps.toList.getD i 0 = c := by rw [List.getD, hc']; rfl
              have e2 : ((x.length : Int) - 1 - (i : Int)).toNat = x.cps.toList.length - 1 - i := by omega
              rw [trm, e1, e2, ← hyl]
            k_steps
            rw [trms_succ, ← e]
            exact IntsAre.append hI (.cons _ _ .nil)
          · intro ys D h tk hI F5 N5
            have hs : (trms y.cps.toList x.cps.toList x.cps.size).sum = num y.cps.toList x.cps.toList := by
              have := trms_all y.cps.toList x.cps.toList
              rwa [Array.length_toList] at this
            k_steps
            rw [hs]
            have e : vod y.cps.toList x.cps.toList = some (num y.cps.toList x.cps.toList) := by
              unfold vod
              rw [if_neg hne, if_pos (List.all_eq_true.mpr fun c hc => by simpa using hall c hc)]
            rename News h₀ L _ _ => kN
            exact hret _ _ _ ⟨_, by rw [e]; rfl⟩ (by assumption) (news_sub kN fun p hp => .tail _ (.tail _ (.tail _ (.tail _ (.tail _ hp)))))
        · rename (decide (_ = []) = false) => hde
          have hfil : ¬ x.cps.toList.all (fun c => y.cps.toList.contains c) = true := fun ha => by
            refine absurd (of_decide_eq_false hde) (fun hn => hn (List.map_eq_nil_iff.mpr (List.filter_eq_nil_iff.mpr fun c hc => ?_)))
            have := List.all_eq_true.mp ha c hc
            rw [this]; decide
          have e : vod y.cps.toList x.cps.toList = none := by
            unfold vod
            rw [if_neg hne, if_neg hfil]
          rename News h₀ L _ _ => kN
          exact hret _ _ _ ⟨0, by rw [e]; rfl⟩ (by assumption) (news_sub kN fun p hp => .tail _ (.tail _ (.tail _ (.tail _ hp))))

end
local macro_rules | `(tactic| walk_at "call ref") => `(tactic| (k_here; k_dflt (
  refine' lval_ok _ _ _ _ _ ?h1 ?h2 ?h3 ?hA ?G ?hd ?hu ?N ?_
  walk_at "CT PURE"
  (case N => k_asm)
  (case h1 => first | omega | decide)
  (case h2 => first | omega | decide)
  (case h3 => first | omega | decide)
  (case hA => first | with_reducible assumption | walk_at "CT ASCII")
  intro v9 h9' tk9' hP9 F9' N9'
  (obtain ⟨w9, e9⟩ := hP9)
  subst e9
  (try k_sweep)
  (try dsimp only)
  (try k_fold))))
local macro_rules | `(tactic| walk_at "call builtin:str.index") => `(tactic| (k_here; (with_reducible show wpAny _ _ (call _ [Value.str _ _, Value.str _ _]) _ _ _); refine' index_call ?h9 ?_; (case h9 => assumption); intro hix0 hix1))

section
theorem mem_of_found {y : Str} {c : Nat} (h : (Builtin.Str.occurrences y (sg c) 0 y.length 1).isEmpty = false) : c ∈ y.cps.toList := by
  have := StrLaws.found_one y c
  rw [h] at this
  exact of_decide_eq_true this.symm
theorem no_mem_of {y : Str} {c : Nat} (h : (Builtin.Str.occurrences y (sg c) 0 y.length 1).isEmpty = true) : c ∉ y.cps.toList := fun hm => by
  have := StrLaws.found_one y c
  rw [h, decide_eq_true hm] at this; cases this
theorem drop_tw (p : Nat → Bool) (l : List Nat) : l.drop (l.takeWhile p).length = l.dropWhile p := by
  have h := List.takeWhile_append_dropWhile (p := p) (l := l)
  calc l.drop (l.takeWhile p).length = (l.takeWhile p ++ l.dropWhile p).drop (l.takeWhile p).length := by rw [h]
    _ = l.dropWhile p := List.drop_left
theorem lstrip0 (x : Str) : Txt.lstripChars x (Str.ofString "0") = tx (x.cps.toList.dropWhile (· == 48)) := by
  have hf : (Str.ofString "0").cps.contains = fun c => c == 48 := by
    funext c
    show (#[48] : Array Nat).contains c = _
    rw [Bool.eq_iff_iff]; simp
  unfold Txt.lstripChars Txt.stripBy
  rw [hf]
  split
  · rename_i h
    have h1 : (x.cps.toList.takeWhile (fun c => c == 48)).length = 0 := by
      have := (Bool.and_eq_true_iff.mp h).1
      exact beq_iff_eq.mp this
    rw [← drop_tw, h1, List.drop_zero, tx_of]
  · show Builtin.Str.strSub x (x.cps.toList.takeWhile (fun c => c == 48)).length x.length = _
    unfold Builtin.Str.strSub
    rw [← drop_tw]
    apply congrArg Str.mk
    apply Array.toList_inj.mp
    have : x.length = x.cps.toList.length := by rw [Array.length_toList]; rfl
    rw [this, Array.toList_extract]
    simp only [List.extract_eq_take_drop, Array.length_toList]
    apply List.take_of_length_le
    simp

theorem wn_of {d : List Nat} (h : d.dropWhile (· == 48) ≠ []) : wn d = d.dropWhile (· == 48) := by
  unfold wn
  cases e : d.dropWhile (· == 48) with
  | nil => exact absurd e h
  | cons a r => rfl
theorem wn_all {d : List Nat} (h : d.dropWhile (· == 48) = []) (hd : d ≠ []) : wn d = [48] := by
  unfold wn
  rw [h]; exact if_neg hd

theorem code_hex {l : List Nat} (h : l.take 1 = [120]) : (12 < ((l.drop 1).dropWhile (· == 48)).length → code l = none) ∧ (l.drop 1 = [] → code l = none) ∧ ((l.drop 1).dropWhile (· == 48) = [] → l.drop 1 ≠ [] → code l = some 0) ∧
    ((l.drop 1).dropWhile (· == 48) ≠ [] → ¬ 12 < ((l.drop 1).dropWhile (· == 48)).length → code l = vod hexS (((l.drop 1).dropWhile (· == 48)).map low)) := by
  have e : code l = if ((wn (l.drop 1)).map low).length > 12 then none else vod hexS ((wn (l.drop 1)).map low) := by unfold code; rw [if_pos h]
  refine ⟨fun h1 => ?_, fun h1 => ?_, fun h1 h2 => ?_, fun h1 h2 => ?_⟩
  · rw [e, wn_of (by intro z; rw [z] at h1; simp at h1), if_pos (by rw [List.length_map]; exact h1)]
  · rw [e, h1]; rfl
  · rw [e, wn_all h1 h2]; decide
  · rw [e, wn_of h1, if_neg (by rw [List.length_map]; exact h2)]
theorem code_dec {l : List Nat} (h : ¬ l.take 1 = [120]) : (12 < (l.dropWhile (· == 48)).length → code l = none) ∧ (l = [] → code l = none) ∧ (l.dropWhile (· == 48) = [] → l ≠ [] → code l = some 0) ∧
    (l.dropWhile (· == 48) ≠ [] → ¬ 12 < (l.dropWhile (· == 48)).length → code l = vod decS (l.dropWhile (· == 48))) := by
  have e : code l = if (wn l).length > 12 then none else vod decS (wn l) := by unfold code; rw [if_neg h]
  refine ⟨fun h1 => ?_, fun h1 => ?_, fun h1 h2 => ?_, fun h1 h2 => ?_⟩
  · rw [e, wn_of (by intro z; rw [z] at h1; simp at h1), if_pos h1]
  · rw [e, h1]; rfl
  · rw [e, wn_all h1 h2]; decide
  · rw [e, wn_of h1, if_neg h2]

theorem sgn_in {c : Nat} : c ∈ (Str.ofString "ABCDEF").cps.toList ↔ 65 ≤ c ∧ c ≤ 70 := by
  rw [show (Str.ofString "ABCDEF").cps.toList = [65, 66, 67, 68, 69, 70] by decide]
  simp only [List.mem_cons, List.not_mem_nil, or_false]
  omega
theorem sgn_low {c : Nat} (h : c ∈ (Str.ofString "ABCDEF").cps.toList) : Txt.item (Str.ofString "abcdef") (idx (Str.ofString "ABCDEF").cps.toList c) = sg (low c) := by
  rw [sgn_in] at h
  have : c = 65 ∨ c = 66 ∨ c = 67 ∨ c = 68 ∨ c = 69 ∨ c = 70 := by omega
  rcases this with rfl | rfl | rfl | rfl | rfl | rfl <;> decide
theorem strs_snoc2 {c : Nat} {y : Str} {t : Tok} {vs : List Value} {l : List Nat} (h : StrsAre vs (l.map sg)) (e : y = sg c) : StrsAre (vs ++ [.str y t]) ((l ++ [c]).map sg) := by subst e; exact strs_snoc h
def LcInv (b : List Nat) (i : Nat) (ys : List Value) (news : List (Addr × Obj)) : Prop :=
  news = [] ∧ StrsAre ys (((b.take i).map low).map sg)

theorem hx_of {x : Str} (h : (Txt.slice x none (some 1) == Str.ofString "x") = true) : x.cps.toList.take 1 = [120] := by
  rw [slice_head] at h
  have := congrArg (fun z => z.cps.toList) (beq_iff_eq.mp h)
  dsimp only at this
  rw [tx_list] at this
  rw [this]; decide
theorem nhx_of {x : Str} (h : (Txt.slice x none (some 1) == Str.ofString "x") = false) : ¬ x.cps.toList.take 1 = [120] := fun e => by
  rw [slice_head, e] at h
  exact absurd h (by decide)
theorem bare_hex (x : Str) : Txt.lstripChars (Txt.slice x (some 1) none) (Str.ofString "0") = tx ((x.cps.toList.drop 1).dropWhile (· == 48)) := by rw [lstrip0, slice_tail, tx_list]

local macro_rules | `(tactic| walk_at "eval ListComp") => `(tactic| (k_here; refine Hold.out ?_))
local macro_rules | `(tactic| walk_at "call builtin:str.index") => `(tactic| (k_here; (with_reducible show wpAny _ _ (call _ [Value.str _ _, Value.str _ _]) _ _ _); refine' index_call ?h9 ?_; (case h9 => first | assumption | exact mem_of_found (by assumption)); intro hix0 hix1; (have hixL : PySem.Str.length (PySem.Str.ofString "ABCDEF") = 6 := by decide)))
set_option maxHeartbeats 8000000 in
theorem lcode_ok (w : World) (x : Str) (tt : Tok) (h2 : x.length ≤ 64) (hA : ∀ c ∈ x.cps.toList, c < 1114000) : CtP w 83 [.str x tt] 14 (fun v => ∃ tk, v = optV (code x.cps.toList) tk) := by
  w_top off
  intro prog mean mg mb dp un gd cn cs ad ccd cl outer A₀ base h₀ L m s Q E G hdp hun hret
  obtain ⟨B, F, X, T, hk⟩ := G
  have N : News h₀ L s.heap [] := News.nil
  have hxl : x.length = x.cps.toList.length := by rw [Array.length_toList]; rfl
  refine wpAny_call ?_
  walk_at "CT ENTER"
  intro g' L' h' FG' F' N' B' X' T' kG'
  (try dsimp only)
  (try k_fold)
  have hA2 : ∀ c ∈ (Txt.lstripChars x (Str.ofString "0")).cps.toList, c < 1114112 := by
    rw [lstrip0, tx_list]
    exact fun c hc => Nat.lt_trans (hA c (List.dropWhile_suffix _ |>.subset hc)) (by decide)
  k_steps
  · rename ((Txt.slice x none (some 1) == Str.ofString "x") = true) => hq
    rename ((12 : Int) < _) => h12
    rw [bare_hex, tx_len] at h12
    have e := (code_hex (hx_of hq)).1 (by omega)
    exact hret _ _ _ ⟨0, by rw [e]; rfl⟩ (by assumption) (keep_of kG' (by assumption))
  · rename ((Txt.slice x none (some 1) == Str.ofString "x") = true) => hq
    rename ((Txt.slice x (some 1) none == Str.ofString "") = true) => h0
    have h1 := nil_of h0
    rw [slice_tail, tx_list] at h1
    have e := (code_hex (hx_of hq)).2.1 h1
    exact hret _ _ _ ⟨0, by rw [e]; rfl⟩ (by assumption) (keep_of kG' (by assumption))
  · rename ((Txt.slice x none (some 1) == Str.ofString "x") = true) => hq
    rename ((Txt.slice x (some 1) none == Str.ofString "") = false) => h0
    rename ((Txt.lstripChars (Txt.slice x (some 1) none) (Str.ofString "0") == Str.ofString "") = true) => h2
    have h1 := not_nil_of h0
    have h3 := nil_of h2
    rw [slice_tail, tx_list] at h1
    rw [bare_hex, tx_list] at h3
    have e := (code_hex (hx_of hq)).2.2.1 h3 h1
    exact hret _ _ _ ⟨_, by rw [e]; rfl⟩ (by assumption) (keep_of kG' (by assumption))
  · rename ((Txt.slice x none (some 1) == Str.ofString "x") = true) => hq
    rename (¬ (12 : Int) < _) => h12
    rename ((Txt.lstripChars (Txt.slice x (some 1) none) (Str.ofString "0") == Str.ofString "") = false) => h2
    have h3 := not_nil_of h2
    rw [bare_hex, tx_list] at h3
    rw [bare_hex, tx_len] at h12
    have ec := (code_hex (hx_of hq)).2.2.2 h3 (by omega)
    have hAb : ∀ c ∈ (x.cps.toList.drop 1).dropWhile (· == 48), c < 1114000 := fun c hc => hA c (List.mem_of_mem_drop (List.dropWhile_suffix _ |>.subset hc))
    rw [bare_hex] at *
    generalize (x.cps.toList.drop 1).dropWhile (· == 48) = b at *
    unfold Hold
    refine ListComp_S (F₀ := by k_asm) (by with_unfolding_all rfl) (by decide) (by rfl) (by decide) (by rfl) ?_
    have hbl : (tx b).length ≤ 12 := by rw [tx_len]; omega
    k_steps
    refine ⟨_, _, _, rfl, rfl, by k_asm, by k_asm, ?_, ?_⟩
    · rw [PySem.sizeLine_eq]; show (tx b).length ≤ _; omega
    · rintro s₂ ⟨g9, rfl⟩
      refine rest_inv (LcInv b) ⟨rfl, .nil⟩ ?_ ?_
      · rintro i ys news v I oI C oC D m₂ h tk E' hi ⟨rfl, hy⟩ ⟨c, t6, hc, rfl⟩ hC hx F5 N5 off ne
        clear off
        obtain ⟨ne1, ne2, ne3⟩ := ne
        have hc' : b[i]? = some c := by rw [← tx_list b, Array.getElem?_toList]; exact hc
        have ht : (b.take (i + 1)).map low = (b.take i).map low ++ [low c] := by rw [take_snoc hc', List.map_append]; rfl
        k_steps
        · rename ((Builtin.Str.occurrences _ _ 0 _ 1).isEmpty = true) => ho
          have hn := no_mem_of ho
          rw [sgn_in] at hn
          refine ⟨rfl, ?_⟩
          rw [ht]
          exact strs_snoc' hy (by unfold low; rw [if_neg hn])
        · rename ((Builtin.Str.occurrences _ _ 0 _ 1).isEmpty = false) => ho
          refine ⟨rfl, ?_⟩
          rw [ht]
          exact strs_snoc2 hy (sgn_low (mem_of_found ho))
      · rintro ys news ⟨rfl, hy⟩
        have hE : b.take (tx b).cps.size = b := List.take_of_length_le (Nat.le_of_eq (by simp))
        rw [hE] at hy
        have hl : (b.map low).length ≤ 12 := by rw [List.length_map]; omega
        have hl' := tx_len (b.map low)
        have hA3 : ∀ c ∈ (tx (b.map low)).cps.toList, c < 1114112 := by
          rw [tx_list]
          intro c hc
          obtain ⟨d, hd, rfl⟩ := List.mem_map.mp hc
          have := hAb d hd
          unfold low; split <;> omega
        k_steps
        have e : vod (Str.ofString "0123456789abcdef").cps.toList (tx (b.map low)).cps.toList = code x.cps.toList := by rw [ec, tx_list]; rfl
        rw [e]
        exact hret _ _ _ ⟨_, rfl⟩ (by assumption) (keep_of kG' (by assumption))
  · rename ((Txt.slice x none (some 1) == Str.ofString "x") = false) => hq
    rename ((12 : Int) < _) => h12
    rw [lstrip0, tx_len] at h12
    have e := (code_dec (nhx_of hq)).1 (by omega)
    exact hret _ _ _ ⟨0, by rw [e]; rfl⟩ (by assumption) (keep_of kG' (by assumption))
  · rename ((Txt.slice x none (some 1) == Str.ofString "x") = false) => hq
    rename ((x == Str.ofString "") = true) => h0
    have e := (code_dec (nhx_of hq)).2.1 (nil_of h0)
    exact hret _ _ _ ⟨0, by rw [e]; rfl⟩ (by assumption) (keep_of kG' (by assumption))
  · rename ((Txt.slice x none (some 1) == Str.ofString "x") = false) => hq
    rename ((x == Str.ofString "") = false) => h0
    rename ((Txt.lstripChars x (Str.ofString "0") == Str.ofString "") = true) => h2
    have h3 := nil_of h2
    rw [lstrip0, tx_list] at h3
    have e := (code_dec (nhx_of hq)).2.2.1 h3 (not_nil_of h0)
    exact hret _ _ _ ⟨_, by rw [e]; rfl⟩ (by assumption) (keep_of kG' (by assumption))
  · rename ((Txt.slice x none (some 1) == Str.ofString "x") = false) => hq
    rename (¬ (12 : Int) < _) => h12
    rename ((Txt.lstripChars x (Str.ofString "0") == Str.ofString "") = false) => h2
    have h3 := not_nil_of h2
    rw [lstrip0, tx_list] at h3
    rw [lstrip0, tx_len] at h12
    have ec := (code_dec (nhx_of hq)).2.2.2 h3 (by omega)
    have e : vod (Str.ofString "0123456789").cps.toList (Txt.lstripChars x (Str.ofString "0")).cps.toList = code x.cps.toList := by rw [ec, lstrip0, tx_list]; rfl
    rw [e]
    exact hret _ _ _ ⟨_, rfl⟩ (by assumption) (keep_of kG' (by assumption))

end
local macro_rules | `(tactic| walk_at "call ref") => `(tactic| (k_here; k_dflt (
  refine' lcode_ok _ _ _ ?h1 ?hA ?G ?hd ?hu ?_
  walk_at "CT PURE"
  (case h1 => first | omega | decide)
  (case hA => first | with_reducible assumption | walk_at "CT ASCII")
  intro v9 h9' tk9' hP9
  (obtain ⟨w9, e9⟩ := hP9)
  subst e9
  walk_at "CT PBACK")))

section
theorem sg_eq {c : Nat} (d : Nat) {y : Str} (hy : y = sg d) : (sg c == y) = decide (c = d) := by
  subst hy
  by_cases h : c = d
  · subst h; simp
  · rw [decide_eq_false h]
    cases e : (sg c == sg d) with
    | false => rfl
    | true =>
      have := congrArg (fun z : Str => z.cps.toList) (beq_iff_eq.mp e)
      exact absurd (by simpa using this) h
theorem sg_is {c : Nat} (d : Nat) {y : Str} (h : (sg c == y) = true) (hy : y = sg d) : c = d := by
  rw [sg_eq d hy] at h; exact of_decide_eq_true h
theorem sg_not {c : Nat} (d : Nat) {y : Str} (h : (sg c == y) = false) (hy : y = sg d) : c ≠ d := by
  rw [sg_eq d hy] at h; exact of_decide_eq_false h

def esc1 (c : Nat) : Str := if c = 38 then Str.ofString "&amp;" else if c = 60 then Str.ofString "&lt;" else if c = 62 then Str.ofString "&gt;" else if c = 13 then Str.ofString "&#13;" else sg c
def esc2 (c : Nat) : Str := if c = 38 then Str.ofString "&amp;" else if c = 60 then Str.ofString "&lt;" else if c = 34 then Str.ofString "&quot;" else if c = 9 then Str.ofString "&#9;" else if c = 10 then Str.ofString "&#10;" else if c = 13 then Str.ofString "&#13;" else sg c

set_option maxHeartbeats 8000000 in
theorem tesc_ok (w : World) (c : Nat) (tt : Tok) : CtP w 40 [.str (sg c) tt] 1 (fun v => ∃ tk, v = .str (esc1 c) tk) := by
  w_top off
  intro prog mean mg mb dp un gd cn cs ad ccd cl outer A₀ base h₀ L m s Q E G hdp hun hret
  obtain ⟨B, F, X, T, hk⟩ := G
  have N : News h₀ L s.heap [] := News.nil
  refine wpAny_call ?_
  walk_at "CT ENTER"
  intro g' L' h' FG' F' N' B' X' T' kG'
  (try dsimp only)
  (try k_fold)
  k_steps
  · rename ((sg c == Str.ofString "&") = true) => a1
    have e := sg_is 38 a1 (by decide)
    subst e
    exact hret _ _ _ ⟨_, rfl⟩ (by assumption) (keep_of kG' (by assumption))
  · rename ((sg c == Str.ofString "<") = true) => a1
    have e := sg_is 60 a1 (by decide)
    subst e
    exact hret _ _ _ ⟨_, rfl⟩ (by assumption) (keep_of kG' (by assumption))
  · rename ((sg c == Str.ofString ">") = true) => a1
    have e := sg_is 62 a1 (by decide)
    subst e
    exact hret _ _ _ ⟨_, rfl⟩ (by assumption) (keep_of kG' (by assumption))
  · rename ((sg c == Str.ofString "\r") = true) => a1
    have e := sg_is 13 a1 (by decide)
    subst e
    exact hret _ _ _ ⟨_, rfl⟩ (by assumption) (keep_of kG' (by assumption))
  · rename ((sg c == Str.ofString "&") = false) => a1
    rename ((sg c == Str.ofString "<") = false) => a2
    rename ((sg c == Str.ofString ">") = false) => a3
    rename ((sg c == Str.ofString "\r") = false) => a4
    have e : esc1 c = sg c := by unfold esc1; rw [if_neg (sg_not 38 a1 (by decide)), if_neg (sg_not 60 a2 (by decide)), if_neg (sg_not 62 a3 (by decide)), if_neg (sg_not 13 a4 (by decide))]
    exact hret _ _ _ ⟨tt, by rw [e]⟩ (by assumption) (keep_of kG' (by assumption))

theorem in_blank {c : Nat} : c ∈ (Str.ofString "\t\n\r").cps.toList ↔ c = 9 ∨ c = 10 ∨ c = 13 := by
  rw [show (Str.ofString "\t\n\r").cps.toList = [9, 10, 13] by decide]
  simp
set_option maxHeartbeats 8000000 in
theorem vesc_ok (w : World) (c : Nat) (tt : Tok) : CtP w 47 [.str (sg c) tt] 1 (fun v => ∃ tk, v = .str (esc2 c) tk) := by
  w_top off
  intro prog mean mg mb dp un gd cn cs ad ccd cl outer A₀ base h₀ L m s Q E G hdp hun hret
  obtain ⟨B, F, X, T, hk⟩ := G
  have N : News h₀ L s.heap [] := News.nil
  refine wpAny_call ?_
  walk_at "CT ENTER"
  intro g' L' h' FG' F' N' B' X' T' kG'
  (try dsimp only)
  (try k_fold)
  k_steps
  · rename ((sg c == Str.ofString "&") = true) => a1
    have e := sg_is 38 a1 (by decide)
    subst e
    exact hret _ _ _ ⟨_, rfl⟩ (by assumption) (keep_of kG' (by assumption))
  · rename ((sg c == Str.ofString "<") = true) => a1
    have e := sg_is 60 a1 (by decide)
    subst e
    exact hret _ _ _ ⟨_, rfl⟩ (by assumption) (keep_of kG' (by assumption))
  · rename ((sg c == Str.ofString "\"") = true) => a1
    have e := sg_is 34 a1 (by decide)
    subst e
    exact hret _ _ _ ⟨_, rfl⟩ (by assumption) (keep_of kG' (by assumption))
  · rename ((sg c == Str.ofString "&") = false) => a1
    rename ((sg c == Str.ofString "<") = false) => a2
    rename ((sg c == Str.ofString "\"") = false) => a3
    rename ((Builtin.Str.occurrences _ _ 0 _ 1).isEmpty = true) => ho
    have hn := no_mem_of ho
    rw [in_blank] at hn
    have e : esc2 c = sg c := by unfold esc2; rw [if_neg (sg_not 38 a1 (by decide)), if_neg (sg_not 60 a2 (by decide)), if_neg (sg_not 34 a3 (by decide)), if_neg (fun h => hn (.inl h)), if_neg (fun h => hn (.inr (.inl h))), if_neg (fun h => hn (.inr (.inr h)))]
    exact hret _ _ _ ⟨tt, by rw [e]⟩ (by assumption) (keep_of kG' (by assumption))
  · rename ((Builtin.Str.occurrences _ _ 0 _ 1).isEmpty = false) => ho
    have hn := mem_of_found ho
    rw [in_blank] at hn
    rcases hn with rfl | rfl | rfl
    all_goals k_steps
    · have e : Str.ofString "&#" ++ Str.ofString (toString ((9 : Nat) : Int)) ++ Str.ofString ";" = esc2 9 := by decide +kernel
      rw [e]
      exact hret _ _ _ ⟨_, rfl⟩ (by assumption) (keep_of kG' (by assumption))
    · have e : Str.ofString "&#" ++ Str.ofString (toString ((10 : Nat) : Int)) ++ Str.ofString ";" = esc2 10 := by decide +kernel
      rw [e]
      exact hret _ _ _ ⟨_, rfl⟩ (by assumption) (keep_of kG' (by assumption))
    · have e : Str.ofString "&#" ++ Str.ofString (toString ((13 : Nat) : Int)) ++ Str.ofString ";" = esc2 13 := by decide +kernel
      rw [e]
      exact hret _ _ _ ⟨_, rfl⟩ (by assumption) (keep_of kG' (by assumption))

theorem same_sg (c d : Nat) (y : Str) (hy : y = sg d) : PySem.Spec.same (.str y) (.str (sg c)) = decide (c = d) := by
  have e : PySem.Spec.same (.str y) (.str (sg c)) = (sg d == sg c) := by subst hy; simp [PySem.Spec.same]
  rw [e, sg_eq c rfl]
  by_cases h : c = d <;> simp [h, eq_comm]
theorem mark1 (c : Nat) : (PySem.Spec.lookup (.str (sg c)) [(.str (Str.ofString "&"), .str (Str.ofString "&amp;")), (.str (Str.ofString "<"), .str (Str.ofString "&lt;")), (.str (Str.ofString ">"), .str (Str.ofString "&gt;")), (.str (Str.ofString "\r"), .str (Str.ofString "&#13;"))]).getD (.str (sg c)) = .str (esc1 c) := by
  simp only [PySem.Spec.lookup, same_sg c 38 (Str.ofString "&") (by decide), same_sg c 60 (Str.ofString "<") (by decide), same_sg c 62 (Str.ofString ">") (by decide), same_sg c 13 (Str.ofString "\r") (by decide), decide_eq_true_eq]
  unfold esc1
  (repeat' split) <;> rfl
theorem mark2 (c : Nat) : (PySem.Spec.lookup (.str (sg c)) [(.str (Str.ofString "&"), .str (Str.ofString "&amp;")), (.str (Str.ofString "<"), .str (Str.ofString "&lt;")), (.str (Str.ofString "\""), .str (Str.ofString "&quot;")), (.str (Str.ofString "\t"), .str (Str.ofString "&#9;")), (.str (Str.ofString "\n"), .str (Str.ofString "&#10;")), (.str (Str.ofString "\r"), .str (Str.ofString "&#13;"))]).getD (.str (sg c)) = .str (esc2 c) := by
  simp only [PySem.Spec.lookup, same_sg c 38 (Str.ofString "&") (by decide), same_sg c 60 (Str.ofString "<") (by decide), same_sg c 34 (Str.ofString "\"") (by decide), same_sg c 9 (Str.ofString "\t") (by decide), same_sg c 10 (Str.ofString "\n") (by decide), same_sg c 13 (Str.ofString "\r") (by decide), decide_eq_true_eq]
  unfold esc2
  (repeat' split) <;> rfl
theorem flat_str {v : Value} {x : Str} (h : PyProof.V.Flat v (.str x)) : ∃ t, v = .str x t := by
  have := h default
  cases this
  exact ⟨_, rfl⟩

set_option maxHeartbeats 8000000 in
theorem marks_ok (w : World) (c : Nat) (tt : Tok)
    {prog : Program} {mean : ExcName → Option Value} {mg mb : Str → Option Value} {dp un : Nat} {gd : Option (List Code)} {cn : Str} {cs : Scope} {ad : Addr} {ccd : Value} {cl : List (Str × Addr)} {outer : List Env} {A₀ : Around} {base h₀ : Heap} {L : Addr} {m : Str → Option Value} {s : Shared} {Q E : Value → Shared → Prop} {news : List (Addr × Obj)}
    (G : Gr w mean mg mb cs outer A₀ base h₀ L m s.heap) (hdp : dp + 1 < recursionLimit) (hun : un + 8 * 1 < cLine) (Nw : News h₀ L s.heap news)
    (hret : ∀ a t1 t2 n h' tk', Fr h₀ L h' m → News h₀ L h' ((a, ({ cls := .type "tuple", data := .seq #[.str (esc1 c) t1, .str (esc2 c) t2] n } : Obj)) :: news) → (∀ p ∈ news, @Ne Nat p.1 a) → Q (.ref a) { s with heap := h', toks := tk' }) :
    wpAny (model prog w) (ktrTop dp un gd cn cs L ad ccd cl outer) (call (.ref 90) [.str (sg c) tt]) Q E s := by
  w_top off
  obtain ⟨B, F, X, T, hk⟩ := G
  have N : News h₀ L s.heap [] := News.nil
  refine wpAny_call ?_
  walk_at "CT ENTER"
  intro g' L' h' FG' F' N' B' X' T' kG'
  (try dsimp only)
  (try k_fold)
  k_steps
  rename_i v1 f1 v2 f2 _ _ _ _ _ _ _ _ _
  obtain ⟨t1, rfl⟩ := flat_str (x := esc1 c) (by rw [← mark1 c]; exact f1)
  obtain ⟨t2, rfl⟩ := flat_str (x := esc2 c) (by rw [← mark2 c]; exact f2)
  rename News h₀ L _ _ => kN
  rename Fr g' L' _ _ => F9
  rename News g' L' _ _ => N9
  have K9 := keep_of kG' F9
  refine hret _ t1 t2 _ _ _ (by assumption) (List.forall_mem_cons.mpr ⟨kN _ (.head _), fun p hp => ⟨K9 _ _ (Nw p hp).1 (by simp), (Nw p hp).2⟩⟩) (fun p hp e => ?_)
  have z := (N9 _ (.head _)).2.2
  dsimp only at z
  have := kG' _ _ (Nw p hp).1 (by simp)
  rw [e, z] at this; cases this

end
local macro_rules | `(tactic| walk_at "call ref") => `(tactic| (k_here; k_dflt (
  refine' tesc_ok _ _ _ ?G ?hd ?hu ?_
  walk_at "CT PURE"
  intro v9 h9' tk9' hP9
  (obtain ⟨w9, e9⟩ := hP9)
  subst e9
  walk_at "CT PBACK")))
local macro_rules | `(tactic| walk_at "call ref") => `(tactic| (k_here; k_dflt (
  refine' vesc_ok _ _ _ ?G ?hd ?hu ?_
  walk_at "CT PURE"
  intro v9 h9' tk9' hP9
  (obtain ⟨w9, e9⟩ := hP9)
  subst e9
  walk_at "CT PBACK")))
local macro_rules | `(tactic| walk_at "call ref") => `(tactic| (k_here; k_dflt (
  refine' marks_ok _ _ _ ?G ?hd ?hu ?N ?_
  walk_at "CT PURE"
  (case N => k_asm)
  intro a9 t19 t29 n9 h9' tk9' F9' N9' l9'
  (try k_sweep)
  (try dsimp only)
  (try k_fold))))

section
def Asc (x : Str) : Prop := ∀ c ∈ x.cps.toList, c < 1000
theorem asc_big {x : Str} (h : Asc x) : ∀ c ∈ x.cps.toList, c < 1114000 := fun c hc => Nat.lt_trans (h c hc) (by decide)
theorem asc_big' {x : Str} (h : Asc x) : ∀ c ∈ x.cps.toList, c < 1114112 := fun c hc => Nat.lt_trans (h c hc) (by decide)
theorem asc_app {x y : Str} (hx : Asc x) (hy : Asc y) : Asc (x ++ y) := fun c hc => by
  rw [Str.cps_append, Array.toList_append] at hc
  rcases List.mem_append.mp hc with h | h
  · exact hx c h
  · exact hy c h
theorem asc_mul0 (i : Int) : Asc (Txt.mul (Str.ofString "0") i) := fun c hc => by
  have e : Str.ofString "0" = sg 48 := by decide
  rw [e, mul_one_list] at hc
  rw [List.eq_of_mem_replicate hc]; decide
theorem asc_row {x y : Str} (h : ∀ c ∈ y.cps.toList, c ∈ x.cps.toList) (hx : Asc x) : Asc y := fun c hc => hx c (h c hc)
theorem asc_lit {x : Str} (h : x.cps.toList.all (fun c => decide (c < 1000)) = true) : Asc x := fun c hc => of_decide_eq_true (List.all_eq_true.mp h c hc)

theorem four_long {x a b c d : Str} (h : x = a ∨ x = b ∨ x = c ∨ x = d) (k : [a, b, c, d].all (fun z => decide (2 ≤ z.length) && decide (z.length ≤ 16) && z.cps.toList.all (fun c => decide (c < 1000))) = true) : 2 ≤ x.length ∧ x.length ≤ 16 ∧ Asc x := by
  have hm : x ∈ [a, b, c, d] := by simpa using h
  have := List.all_eq_true.mp k x hm
  simp only [Bool.and_eq_true, decide_eq_true_eq] at this
  exact ⟨this.1.1, this.1.2, asc_lit this.2⟩
theorem four_short {x a b c d : Str} (h : x = a ∨ x = b ∨ x = c ∨ x = d) (k : [a, b, c, d].all (fun z => decide (0 ≤ z.length) && decide (z.length ≤ 1) && z.cps.toList.all (fun c => decide (c < 1000))) = true) : 0 ≤ x.length ∧ x.length ≤ 1 ∧ Asc x := by
  have hm : x ∈ [a, b, c, d] := by simpa using h
  have := List.all_eq_true.mp k x hm
  simp only [Bool.and_eq_true, decide_eq_true_eq] at this
  exact ⟨this.1.1, this.1.2, asc_lit this.2⟩

section
variable {prog : Program} {w : World} {A : Around} {E : Value → Shared → Prop} {s : Shared} {Q : Value → Shared → Prop}
theorem opt_ne {o : Option Int} {t u : Tok} (h : Q (.bool false) s) : wpAny (model prog w) A (compareOp .NotEq (optV o t) (optV o u)) Q E s := by
  cases o with
  | none => exact EqNone.ne_none_none h
  | some i => exact ne_int (by rw [bne_self_eq_false]; exact h)
end

/-- noughts ahead: the two ways to take them away are one -/
theorem row_end (x : Str) : (Txt.lstripChars x (Str.ofString "0") == Str.ofString "") = false → (tx (wn x.cps.toList) == Txt.lstripChars x (Str.ofString "0")) = true := fun h => by
  have h1 := not_nil_of h
  rw [lstrip0, tx_list] at h1
  rw [lstrip0, wn_of h1]
  exact beq_self_eq_true _
theorem dw_nil : ∀ {l : List Nat}, l.dropWhile (· == 48) = [] → ∀ c ∈ l, c = 48
  | [], _, _, h => nomatch h
  | a :: r, h, c, hc => by
    by_cases ha : a = 48
    · subst ha
      have h' : r.dropWhile (· == 48) = [] := by simpa [List.dropWhile] using h
      rcases List.mem_cons.mp hc with rfl | hc
      · rfl
      · exact dw_nil h' c hc
    · have : (a == 48) = false := by simp [ha]
      simp [List.dropWhile, this] at h
theorem row_end0 (x : Str) : (Txt.lstripChars x (Str.ofString "0") == Str.ofString "") = true → (tx (wn x.cps.toList) == Txt.slice x (some (-1)) none) = true := fun h => by
  have h1 := nil_of h
  rw [lstrip0, tx_list] at h1
  have hl : x.length = x.cps.toList.length := by rw [Array.length_toList]; rfl
  by_cases h0 : x.cps.toList = []
  · have e : x = Str.ofString "" := by rw [← tx_of x, h0]; decide
    subst e
    decide
  · rw [wn_all h1 h0, slice_from_neg (by decide), slice_from x (by omega) (by omega)]
    have h48 : ∀ c ∈ x.cps.toList, c = 48 := fun c hc => by
      exact dw_nil h1 c hc
    have hp : 0 < x.cps.toList.length := by
      cases e : x.cps.toList with
      | nil => exact absurd e h0
      | cons a r => simp
    have e : x.cps.toList.drop (max 0 ((x.length : Int) + -1)).toNat = [48] := by
      have hn : (max 0 ((x.length : Int) + -1)).toNat = x.cps.toList.length - 1 := by omega
      rw [hn]
      have hd : (x.cps.toList.drop (x.cps.toList.length - 1)).length = 1 := by rw [List.length_drop]; omega
      obtain ⟨c, hc⟩ := List.length_eq_one_iff.mp hd
      have : c = 48 := h48 c (List.mem_of_mem_drop (by rw [hc]; exact .head _))
      rw [hc, this]
    rw [e]
    exact beq_self_eq_true _

end
local macro_rules | `(tactic| walk_at "CT ASC") => `(tactic| first | with_reducible assumption | exact asc_mul0 _ | (refine' asc_app ?a9 ?b9; (case a9 => walk_at "CT ASC"); (case b9 => walk_at "CT ASC")) | exact asc_lit (by decide) | (refine' asc_row ?a9 ?b9; (case a9 => assumption); (case b9 => walk_at "CT ASC")))
local macro_rules | `(tactic| walk_at "CT ASCII") => `(tactic| first | exact asc_big (by walk_at "CT ASC") | exact asc_big' (by walk_at "CT ASC"))
local macro_rules | `(tactic| walk_at "compareOp NotEq") => `(tactic| (k_here; k_dflt (refine opt_ne ?_)))
local macro_rules | `(tactic| walk_at "call ref") => `(tactic| (k_here; k_dflt (
  refine' one_four_ok _ _ _ _ _ _ _ _ _ _ _ _ ?h1 ?G ?hd ?hu ?N ?ha ?hb ?hb2 ?_
  (case G => walk_at "CT GR")
  (case N => exact news_two (by k_asm) (by k_mem) (by k_mem))
  walk_at "CT SIDE"
  (case h1 => k_ne)
  intro x9 w9 a' b' t9' u9' n9' h9' tk9' hP9
  (first | (have hF9 := four_short hP9 (by decide)) | (have hF9 := four_long hP9 (by decide)))
  (obtain ⟨hF91, hF92, hF93⟩ := hF9)
  revert a' b' t9' u9' n9' h9' tk9'
  walk_at "CT BACK")))

section
set_option maxHeartbeats 8000000 in
theorem turn_ok (w : World) (l : Addr) : CtS w 97 l [.ref l] 16 (fun v => v = .bool true) := by
  w_top off
  intro prog mean mg mb dp un gd cn cs ad ccd cl outer A₀ base h₀ L m s Q E a b t u n G hdp hun N ha hb hb2 hret
  obtain ⟨B, F, X, T, hk⟩ := G
  refine wpAny_call ?_
  walk_at "CT ENTER"
  intro g' L' h' FG' F' N' B' X' T' kG'
  (try dsimp only)
  (try k_fold)
  k_steps
  · rename ((Txt.lstripChars _ (Str.ofString "0") != Str.ofString "") = true) => hq
    rw [row_end _ (by rw [bne, Bool.not_eq_true'] at hq; exact hq)]
    rename News h₀ L _ _ => kN
    exact hret _ _ _ _ _ _ _ _ rfl (by assumption) (by assumption) (by assumption) (by assumption) (keep_of kG' (by assumption)) (kN _ (.head _)).1
  · rename ((Txt.lstripChars _ (Str.ofString "0") != Str.ofString "") = false) => hq
    rw [row_end0 _ (by rw [bne, Bool.not_eq_false'] at hq; exact hq)]
    rename News h₀ L _ _ => kN
    exact hret _ _ _ _ _ _ _ _ rfl (by assumption) (by assumption) (by assumption) (by assumption) (keep_of kG' (by assumption)) (kN _ (.head _)).1

end
local macro_rules | `(tactic| walk_at "call ref") => `(tactic| (k_here; k_dflt (
  refine' turn_ok _ _ ?G ?hd ?hu ?N ?ha ?hb ?hb2 ?_
  (case G => walk_at "CT GR")
  (case N => exact news_one (by k_asm) (by k_mem))
  walk_at "CT SIDE"
  intro v9 a' b' t9' u9' n9' h9' tk9' e9
  subst e9
  revert a' b' t9' u9' n9' h9' tk9'
  walk_at "CT BACK")))

section
theorem great_pos (c : Int) (p : Bool) : 0 ≤ (if -1 - c > c then -1 - c else c) * (if p = true then (1 : Int) else 0) := by
  have h : 0 ≤ (if -1 - c > c then -1 - c else c) := by split <;> omega
  have h2 : 0 ≤ (if p = true then (1 : Int) else 0) := by split <;> decide
  exact Int.mul_nonneg h h2

set_option maxHeartbeats 8000000 in
theorem pool_ok (w : World) (l0 : Addr) (vs : List Value) (ns : List Int) (tt : Tok)
    {prog : Program} {mean : ExcName → Option Value} {mg mb : Str → Option Value} {dp un : Nat} {gd : Option (List Code)} {cn : Str} {cs : Scope} {ad : Addr} {ccd : Value} {cl : List (Str × Addr)} {outer : List Env} {A₀ : Around} {base h₀ : Heap} {L : Addr} {m : Str → Option Value} {s : Shared} {Q E : Value → Shared → Prop} {news : List (Addr × Obj)}
    (G : Gr w mean mg mb cs outer A₀ base h₀ L m s.heap) (hdp : dp + 1 < recursionLimit) (hun : un + 8 * 1 < cLine) (Nw : News h₀ L s.heap news)
    (hl0 : base.IsList l0 vs.toArray) (hi0 : IntsAre vs ns) (hn0 : ns.length ≤ 63)
    (hret : ∀ l a b t u n h' tk', 0 ≤ a → 0 ≤ b → b < 2147483647 → Fr h₀ L h' m → News h₀ L h' ((l, srcO a b t u n) :: news) → (∀ p ∈ news, @Ne Nat p.1 l) → Q (.ref l) { s with heap := h', toks := tk' }) :
    wpAny (model prog w) (ktrTop dp un gd cn cs L ad ccd cl outer) (call (.ref 54) [.ref l0, .int 0 tt]) Q E s := by
  w_top off
  obtain ⟨B, F, X, T, hk⟩ := G
  have N : News h₀ L s.heap [] := News.nil
  have hnl := hi0.length
  refine wpAny_call ?_
  walk_at "CT ENTER"
  intro g' L' h' FG' F' N' B' X' T' kG'
  (try dsimp only)
  k_lift B'
  (try k_fold)
  k_steps
  all_goals (
    rename News h₀ L _ _ => kN
    rename Fr g' L' _ _ => F9
    rename News g' L' _ _ => N9
    have K9 := keep_of kG' F9
    refine hret _ _ _ _ _ _ _ _ (great_pos _ _) (fmod_lo _ (by decide)) (fmod_hi _ (by decide)) (by assumption) (List.forall_mem_cons.mpr ⟨kN _ (.head _), fun p hp => ⟨K9 _ _ (Nw p hp).1 (by simp), (Nw p hp).2⟩⟩) (fun p hp e => ?_)
    have z := (N9 _ (.head _)).2.2
    dsimp only at z
    have z9 := kG' _ _ (Nw p hp).1 (by simp)
    rw [e, z] at z9; cases z9)

end
local macro_rules | `(tactic| walk_at "call ref") => `(tactic| (k_here; k_dflt (
  refine' pool_ok _ _ _ _ _ ?G ?hd ?hu ?N ?hl ?hi ?hn ?_
  (case G => walk_at "CT GR")
  (case hd => ktr_room)
  (case hu => ktr_units)
  (case N => k_asm)
  (case hl => assumption)
  (case hi => assumption)
  (case hn => omega)
  intro l9 a' b' t9' u9' n9' h9' tk9' ha9' hb9' hb29' F9' N9' l9'
  (try simp only [List.forall_mem_cons, List.not_mem_nil, false_implies, implies_true, and_true] at l9')
  (try k_sweep)
  (try dsimp only)
  (try k_fold))))

section
theorem opt_ne_lit {prog : Program} {w : World} {A : Around} {E : Value → Shared → Prop} {s : Shared} {Q : Value → Shared → Prop} {o : Option Int} {i : Int} {t u : Tok} (ho : o = some i) (h : Q (.bool false) s) : wpAny (model prog w) A (compareOp .NotEq (optV o t) (.int i u)) Q E s := by
  subst ho
  exact ne_int (by rw [bne_self_eq_false]; exact h)
local macro_rules | `(tactic| walk_at "compareOp NotEq") => `(tactic| (k_here; k_dflt (refine opt_ne_lit (by decide +kernel) ?_)))
local macro_rules | `(tactic| walk_at "storeName") => `(tactic| (k_here; k_dflt (refine' storeX_C ?F ?N ?c ?U ?d ?_ ?a ?b; (case a => rfl); (case b => rfl); (case F => k_asm); (case N => k_asm); (case c => rfl); (case U => k_updF); (case d => k_asm); k_whole; intro h' o' F' N' d'; (try dsimp only at N'); (try k_sweep))))
section
open PyProof.V PySem.Spec
theorem st_shapedT (ns : List Str) (h : ∀ n ∈ ns, PyData.strOk n = true) : SeqAt.shaped (.tuple (ns.map PyData.str)) = true := by
  simp [SeqAt.shaped, PyData.canLay0, PyData.depth, st_canLayAll0 ns h, st_depthAll]
theorem st_sameT (ns : List Str) : PySem.Spec.same (.tuple (ns.map PyData.str)) (.tuple (ns.map PyData.str)) = true := by
  simp only [PySem.Spec.same]; rw [st_sameAll]; exact decide_eq_true rfl
theorem tup_ne {prog : Program} {w : World} {A : Around} {E : Value → Shared → Prop} {s : Shared} {a b : Addr} {o1 o2 : Obj} {x y : Str} {t1 t2 t3 t4 : Tok} {n1 n2 : Nat} {Q : Value → Shared → Prop}
    (ha : s.heap.get? a = some o1) (hb : s.heap.get? b = some o2) (c1 : o1.cls = .type "tuple") (c2 : o2.cls = .type "tuple") (d1 : o1.data = .seq #[.str x t1, .str y t2] n1) (d2 : o2.data = .seq #[.str x t3, .str y t4] n2)
    (kx : PyData.strOk x = true) (ky : PyData.strOk y = true) (hu : A.units + 64 < cLine) (h : Q (.bool false) s) :
    wpAny (model prog w) A (compareOp .NotEq (.ref a) (.ref b)) Q E s := by
  have k : ∀ n ∈ [x, y], PyData.strOk n = true := fun n hn => by
    rcases List.mem_cons.mp hn with rfl | hn
    · exact kx
    · rw [List.mem_singleton.mp hn]; exact ky
  refine ne_dataH_same (da := .tuple ([x, y].map PyData.str)) (db := .tuple ([x, y].map PyData.str)) (as := []) (bs := []) (reads_tuple_at ha c1 d1 ?_) (reads_tuple_at hb c2 d2 ?_) (st_shapedT _ k) (st_shapedT _ k) hu
    (SeqAt.noMix_of_shape (.tuple [.str, .str]) rfl _ _ rfl rfl) (by rw [st_sameT]; exact h)
  · exact readsAll_cons_val (.str _ _) (readsAll_cons_val (.str _ _) .nil)
  · exact readsAll_cons_val (.str _ _) (readsAll_cons_val (.str _ _) .nil)
end
theorem esc_ok1 {c : Nat} (h : c < 1114112) : PyData.strOk (esc1 c) = true := by
  unfold esc1
  split; · decide +kernel
  split; · decide +kernel
  split; · decide +kernel
  split; · decide +kernel
  exact ok_sgs (l := [c]) (fun d hd => by rw [List.mem_singleton.mp hd]; exact h) _ (.head _)
theorem esc_ok2 {c : Nat} (h : c < 1114112) : PyData.strOk (esc2 c) = true := by
  unfold esc2
  split; · decide +kernel
  split; · decide +kernel
  split; · decide +kernel
  split; · decide +kernel
  split; · decide +kernel
  split; · decide +kernel
  exact ok_sgs (l := [c]) (fun d hd => by rw [List.mem_singleton.mp hd]; exact h) _ (.head _)
theorem law_lt {c : Nat} (h : c ∈ (Str.ofString "&<>\"'\t\n\r a;é#").cps.toList) : c < 1114112 := by
  have := List.all_eq_true.mp (show (Str.ofString "&<>\"'\t\n\r a;é#").cps.toList.all (fun c => decide (c < 1114112)) = true by decide) c h
  exact of_decide_eq_true this
theorem sg_item {ys : List Value} {l : List Nat} (h : StrsAre ys (l.map sg)) {i : Nat} {v : Value} (e : ys.toArray[i]? = some v) : ∃ c t, c ∈ l ∧ v = .str (sg c) t := by
  rw [List.getElem?_toArray] at e
  obtain ⟨y, t, rfl, hy⟩ := h.item i v e
  rw [List.getElem?_map] at hy
  cases hc : l[i]? with
  | none => rw [hc] at hy; cases hy
  | some c => rw [hc] at hy; cases hy; exact ⟨c, t, List.mem_of_getElem? hc, rfl⟩
abbrev lawText : Str := Str.ofString "&<>\"'\t\n\r a;é#"
def LawInv (l : Addr) (p : Addr × Obj) (i : Nat) (ys : List Value) (news : List (Addr × Obj)) : Prop :=
  ∃ (a b : Int) (t u : Tok) (n : Nat) (cs : List Nat), news = [(l, srcO a b t u n), p] ∧ 0 ≤ a ∧ 0 ≤ b ∧ b < 2147483647 ∧ StrsAre ys (cs.map sg) ∧ cs.length = i ∧ ∀ c ∈ cs, c ∈ lawText.cps.toList
local macro_rules | `(tactic| walk_at "CompEnd") => `(tactic| (k_here; (with_reducible show LCg.CompEnd _ _ _ _ _ _ _ _ _ _ _ _ Value.none _); refine Hold.out ?_))
def LawInv2 (nw : List (Addr × Obj)) (_ : Nat) (zs : List Value) (news : List (Addr × Obj)) : Prop := zs = [] ∧ news = nw
local macro_rules | `(tactic| walk_at "compareOp NotEq ref ref") => `(tactic| (k_here; refine Hold.out ?_))
local macro_rules | `(tactic| walk_at "compareOp Eq ref ref") => `(tactic| (k_here; refine Hold.out ?_))
local macro_rules | `(tactic| walk_at "eval ListComp") => `(tactic| (k_here; refine Hold.out ?_))
local macro_rules | `(tactic| walk_at "CompSrcT") => `(tactic| (k_here; refine Hold.out ?_))
set_option maxHeartbeats 8000000 in
theorem law_holds : PySem.Challenge.rw_xm0630_01.Holds := hd (by
  w_top off
  k_go0
  all_goals try k_fold
  k_steps
  all_goals (
    unfold Hold
    k_dflt (refine LCg.CompSrc.range (by rfl) (by k_asm) (by k_asm) (by assumption) (by decide) (rangeSize_nat _ _) (by rw [PySem.sizeLine_eq]; decide) ?_)
    intro g9
    refine rest_inv (LawInv _ _) ⟨_, _, _, _, _, [], rfl, by assumption, by assumption, by assumption, .nil, rfl, fun _ h => nomatch h⟩ ?_ ?_)
  · rintro i ys news v I oI C oC D m₂ h tk E' hi ⟨a5, b5, t5, u5, n5, cs5, rfl, ha5, hb5, hc5, hy5, hl5, hs5⟩ ⟨t6, rfl⟩ hC hx F5 N5 off ne
    simp only [LCg.Off3, and_true] at off
    obtain ⟨ne1, ne2, ne3⟩ := ne
    obtain ⟨⟨of1, of2, of3⟩, ⟨of4, of5, of6⟩⟩ := off
    k_steps
    with_reducible rename (_ ∈ (Str.ofString _).cps.toList) => hr
    refine ⟨_, _, _, _, _, _, rfl, by assumption, by assumption, by assumption, strs_snoc hy5, by rw [List.length_append, hl5]; rfl, fun c hc => ?_⟩
    rcases List.mem_append.mp hc with hc | hc
    · exact hs5 c hc
    · rw [List.mem_singleton.mp hc]; exact hr
  · rintro ys news ⟨a5, b5, t5, u5, n5, cs5, rfl, ha5, hb5, hc5, hy5, hl5, hs5⟩
    k_steps
    unfold Hold
    k_dflt (refine LCt.ListComp_T (F₀ := by k_asm) (by with_unfolding_all rfl) (by decide) (by rfl) (by decide) (by rfl) ?_)
    k_steps
    unfold Hold
    have hyl := hy5.length
    have hsz : ys.length ≤ 3 := by rw [hyl, List.length_map, hl5]; decide
    k_dflt (refine LCt.CompSrcT.ledger (by rfl) (by k_asm) (by k_asm) (by k_mem) (by rw [PySem.sizeLine_eq, List.size_toArray]; omega) ?_)
    intro g8
    refine rest_invT (LawInv2 _) ⟨rfl, rfl⟩ ?_ ?_
    · rintro i zs news v I oI C oC D m₂ h tk E' hi ⟨rfl, rfl⟩ hv hC hx F5 N5 off ne
      obtain ⟨c, t6, hc, rfl⟩ := sg_item hy5 hv
      have hOff := off
      simp only [LCg.Off3, and_true] at off
      obtain ⟨ne1, ne2, ne3⟩ := ne
      obtain ⟨⟨of1, of2, of3⟩, ⟨of4, of5, of6⟩, ⟨of7, of8, of9⟩⟩ := off
      k_steps
      unfold Hold
      k_dflt (refine tup_ne (News.get (by k_asm) (by k_mem)) (News.get (by k_asm) (by k_mem)) rfl rfl rfl rfl (esc_ok1 (law_lt (hs5 c hc))) (esc_ok2 (law_lt (hs5 c hc))) (by ktr_units) ?_)
      k_steps
      unfold Hold
      exact LCg.CompEnd.intro (by k_asm) (by k_asm) _ (fun p hp => .tail _ (.tail _ hp)) hOff (.inr ⟨_, .head _, rfl, _, rfl⟩) ⟨rfl, rfl⟩
    · rintro zs news ⟨rfl, rfl⟩
      k_steps
      unfold Hold
      k_dflt (refine st_eq (ns := []) (ms := []) (News.isList (by k_asm) (by k_mem)) (News.isList (by k_asm) (by k_mem)) .nil .nil (fun _ h => nomatch h) (fun _ h => nomatch h) (by ktr_units) ?_)
      k_steps
  · rintro i ys news v I oI C oC D m₂ h tk E' hi ⟨a5, b5, t5, u5, n5, cs5, rfl, ha5, hb5, hc5, hy5, hl5, hs5⟩ ⟨t6, rfl⟩ hC hx F5 N5 off ne
    simp only [LCg.Off3, and_true] at off
    obtain ⟨ne1, ne2, ne3⟩ := ne
    obtain ⟨⟨of1, of2, of3⟩, ⟨of4, of5, of6⟩⟩ := off
    k_steps
    with_reducible rename (_ ∈ (Str.ofString _).cps.toList) => hr
    refine ⟨_, _, _, _, _, _, rfl, by assumption, by assumption, by assumption, strs_snoc hy5, by rw [List.length_append, hl5]; rfl, fun c hc => ?_⟩
    rcases List.mem_append.mp hc with hc | hc
    · exact hs5 c hc
    · rw [List.mem_singleton.mp hc]; exact hr
  · rintro ys news ⟨a5, b5, t5, u5, n5, cs5, rfl, ha5, hb5, hc5, hy5, hl5, hs5⟩
    k_steps
    unfold Hold
    k_dflt (refine LCt.ListComp_T (F₀ := by k_asm) (by with_unfolding_all rfl) (by decide) (by rfl) (by decide) (by rfl) ?_)
    k_steps
    unfold Hold
    have hyl := hy5.length
    have hsz : ys.length ≤ 3 := by rw [hyl, List.length_map, hl5]; decide
    k_dflt (refine LCt.CompSrcT.ledger (by rfl) (by k_asm) (by k_asm) (by k_mem) (by rw [PySem.sizeLine_eq, List.size_toArray]; omega) ?_)
    intro g8
    refine rest_invT (LawInv2 _) ⟨rfl, rfl⟩ ?_ ?_
    · rintro i zs news v I oI C oC D m₂ h tk E' hi ⟨rfl, rfl⟩ hv hC hx F5 N5 off ne
      obtain ⟨c, t6, hc, rfl⟩ := sg_item hy5 hv
      have hOff := off
      simp only [LCg.Off3, and_true] at off
      obtain ⟨ne1, ne2, ne3⟩ := ne
      obtain ⟨⟨of1, of2, of3⟩, ⟨of4, of5, of6⟩, ⟨of7, of8, of9⟩⟩ := off
      k_steps
      unfold Hold
      k_dflt (refine tup_ne (News.get (by k_asm) (by k_mem)) (News.get (by k_asm) (by k_mem)) rfl rfl rfl rfl (esc_ok1 (law_lt (hs5 c hc))) (esc_ok2 (law_lt (hs5 c hc))) (by ktr_units) ?_)
      k_steps
      unfold Hold
      exact LCg.CompEnd.intro (by k_asm) (by k_asm) _ (fun p hp => .tail _ (.tail _ hp)) hOff (.inr ⟨_, .head _, rfl, _, rfl⟩) ⟨rfl, rfl⟩
    · rintro zs news ⟨rfl, rfl⟩
      k_steps
      unfold Hold
      k_dflt (refine st_eq (ns := []) (ms := []) (News.isList (by k_asm) (by k_mem)) (News.isList (by k_asm) (by k_mem)) .nil .nil (fun _ h => nomatch h) (fun _ h => nomatch h) (by ktr_units) ?_)
      k_steps
  · rintro i ys news v I oI C oC D m₂ h tk E' hi ⟨a5, b5, t5, u5, n5, cs5, rfl, ha5, hb5, hc5, hy5, hl5, hs5⟩ ⟨t6, rfl⟩ hC hx F5 N5 off ne
    simp only [LCg.Off3, and_true] at off
    obtain ⟨ne1, ne2, ne3⟩ := ne
    obtain ⟨⟨of1, of2, of3⟩, ⟨of4, of5, of6⟩⟩ := off
    k_steps
    with_reducible rename (_ ∈ (Str.ofString _).cps.toList) => hr
    refine ⟨_, _, _, _, _, _, rfl, by assumption, by assumption, by assumption, strs_snoc hy5, by rw [List.length_append, hl5]; rfl, fun c hc => ?_⟩
    rcases List.mem_append.mp hc with hc | hc
    · exact hs5 c hc
    · rw [List.mem_singleton.mp hc]; exact hr
  · rintro ys news ⟨a5, b5, t5, u5, n5, cs5, rfl, ha5, hb5, hc5, hy5, hl5, hs5⟩
    k_steps
    unfold Hold
    k_dflt (refine LCt.ListComp_T (F₀ := by k_asm) (by with_unfolding_all rfl) (by decide) (by rfl) (by decide) (by rfl) ?_)
    k_steps
    unfold Hold
    have hyl := hy5.length
    have hsz : ys.length ≤ 3 := by rw [hyl, List.length_map, hl5]; decide
    k_dflt (refine LCt.CompSrcT.ledger (by rfl) (by k_asm) (by k_asm) (by k_mem) (by rw [PySem.sizeLine_eq, List.size_toArray]; omega) ?_)
    intro g8
    refine rest_invT (LawInv2 _) ⟨rfl, rfl⟩ ?_ ?_
    · rintro i zs news v I oI C oC D m₂ h tk E' hi ⟨rfl, rfl⟩ hv hC hx F5 N5 off ne
      obtain ⟨c, t6, hc, rfl⟩ := sg_item hy5 hv
      have hOff := off
      simp only [LCg.Off3, and_true] at off
      obtain ⟨ne1, ne2, ne3⟩ := ne
      obtain ⟨⟨of1, of2, of3⟩, ⟨of4, of5, of6⟩, ⟨of7, of8, of9⟩⟩ := off
      k_steps
      unfold Hold
      k_dflt (refine tup_ne (News.get (by k_asm) (by k_mem)) (News.get (by k_asm) (by k_mem)) rfl rfl rfl rfl (esc_ok1 (law_lt (hs5 c hc))) (esc_ok2 (law_lt (hs5 c hc))) (by ktr_units) ?_)
      k_steps
      unfold Hold
      exact LCg.CompEnd.intro (by k_asm) (by k_asm) _ (fun p hp => .tail _ (.tail _ hp)) hOff (.inr ⟨_, .head _, rfl, _, rfl⟩) ⟨rfl, rfl⟩
    · rintro zs news ⟨rfl, rfl⟩
      k_steps
      unfold Hold
      k_dflt (refine st_eq (ns := []) (ms := []) (News.isList (by k_asm) (by k_mem)) (News.isList (by k_asm) (by k_mem)) .nil .nil (fun _ h => nomatch h) (fun _ h => nomatch h) (by ktr_units) ?_)
      k_steps
  · rintro i ys news v I oI C oC D m₂ h tk E' hi ⟨a5, b5, t5, u5, n5, cs5, rfl, ha5, hb5, hc5, hy5, hl5, hs5⟩ ⟨t6, rfl⟩ hC hx F5 N5 off ne
    simp only [LCg.Off3, and_true] at off
    obtain ⟨ne1, ne2, ne3⟩ := ne
    obtain ⟨⟨of1, of2, of3⟩, ⟨of4, of5, of6⟩⟩ := off
    k_steps
    with_reducible rename (_ ∈ (Str.ofString _).cps.toList) => hr
    refine ⟨_, _, _, _, _, _, rfl, by assumption, by assumption, by assumption, strs_snoc hy5, by rw [List.length_append, hl5]; rfl, fun c hc => ?_⟩
    rcases List.mem_append.mp hc with hc | hc
    · exact hs5 c hc
    · rw [List.mem_singleton.mp hc]; exact hr
  · rintro ys news ⟨a5, b5, t5, u5, n5, cs5, rfl, ha5, hb5, hc5, hy5, hl5, hs5⟩
    k_steps
    unfold Hold
    k_dflt (refine LCt.ListComp_T (F₀ := by k_asm) (by with_unfolding_all rfl) (by decide) (by rfl) (by decide) (by rfl) ?_)
    k_steps
    unfold Hold
    have hyl := hy5.length
    have hsz : ys.length ≤ 3 := by rw [hyl, List.length_map, hl5]; decide
    k_dflt (refine LCt.CompSrcT.ledger (by rfl) (by k_asm) (by k_asm) (by k_mem) (by rw [PySem.sizeLine_eq, List.size_toArray]; omega) ?_)
    intro g8
    refine rest_invT (LawInv2 _) ⟨rfl, rfl⟩ ?_ ?_
    · rintro i zs news v I oI C oC D m₂ h tk E' hi ⟨rfl, rfl⟩ hv hC hx F5 N5 off ne
      obtain ⟨c, t6, hc, rfl⟩ := sg_item hy5 hv
      have hOff := off
      simp only [LCg.Off3, and_true] at off
      obtain ⟨ne1, ne2, ne3⟩ := ne
      obtain ⟨⟨of1, of2, of3⟩, ⟨of4, of5, of6⟩, ⟨of7, of8, of9⟩⟩ := off
      k_steps
      unfold Hold
      k_dflt (refine tup_ne (News.get (by k_asm) (by k_mem)) (News.get (by k_asm) (by k_mem)) rfl rfl rfl rfl (esc_ok1 (law_lt (hs5 c hc))) (esc_ok2 (law_lt (hs5 c hc))) (by ktr_units) ?_)
      k_steps
      unfold Hold
      exact LCg.CompEnd.intro (by k_asm) (by k_asm) _ (fun p hp => .tail _ (.tail _ hp)) hOff (.inr ⟨_, .head _, rfl, _, rfl⟩) ⟨rfl, rfl⟩
    · rintro zs news ⟨rfl, rfl⟩
      k_steps
      unfold Hold
      k_dflt (refine st_eq (ns := []) (ms := []) (News.isList (by k_asm) (by k_mem)) (News.isList (by k_asm) (by k_mem)) .nil .nil (fun _ h => nomatch h) (fun _ h => nomatch h) (by ktr_units) ?_)
      k_steps)

end

end Mine
set_option maxRecDepth 100000 in
set_option maxHeartbeats 8000000 in
theorem PySem.Challenge.cw_xm0630_01_holds : PySem.Challenge.rw_xm0630_01.Holds := by
  exact Mine.law_holds
