import PyProof.Rows.All
import Wide.All
import OpenK.AllK
import Wide.FinOn
import Lean
import PySem.Challenge.RW_xm0728_01
open PySem PySem.W PyProof.Rows
set_option Elab.async false
set_option maxRecDepth 100000
namespace Mine

section
section
local macro_rules | `(tactic| o_head $H) => `(tactic| (have _h9 : Hook := $H; exact (by assumption : ∀ r : OpenRow, r.Holds) _))
set_option maxHeartbeats 8000000 in
theorem kdef : (∀ r : OpenRow, r.Holds) → PySem.Challenge.rw_xm0728_01.row.Holds := by
  intro _
  k_head
end
end

local macro_rules | `(tactic| k_ne) => `(tactic| k_extra "ne")
local macro_rules | `(tactic| walk_at $s:str) => `(tactic| k_extra $s)
local macro_rules | `(tactic| k_mem) => `(tactic| (show (_ : Addr × Obj) ∈ (_ : List (Addr × Obj)); first | ktr_member | (ktn_app; first | (refine List.mem_append.mpr (Or.inl ?_); k_mem) | (refine List.mem_append.mpr (Or.inr ?_); k_mem))))
local macro_rules | `(tactic| k_all) => `(tactic| assumption)
local macro_rules | `(tactic| k_room) => `(tactic| ktr_room)
local macro_rules | `(tactic| k_units) => `(tactic| ktr_units)

section
theorem fill : PySem.Challenge.rw_xm0728_01.name = PySem.Challenge.rw_xm0728_01.name ∧ kdef.heap_1 = kdef.heap_1 := by
  k_fill
  exact ⟨rfl, rfl⟩
theorem item_src {prog : Program} {w : World} {A : Around} {E : Value → Shared → Prop} {s : Shared} {value slice : PySem.Expr} {l L : Addr} {h₀ : Heap} {news : List (Addr × Obj)} {vs : List Value} {n : Nat} {k : Int} {u : Tok} {v : Value} {Q : Value → Shared → Prop}
    (N : News h₀ L s.heap news) (hm : (l, PySem.W.listOf vs.toArray n) ∈ news) (h0 : 0 ≤ k) (hhi : k < 2 ^ 63) (hx : vs[k.toNat]? = some v) (h : Q v s)
    (hs : subscripted slice false (.ref l) (.int k u) = operate [.ref l, .int k u] (getItem (.ref l) (.int k u)) := by with_unfolding_all rfl) :
    wpAny (model prog w) A (subscriptTail value slice (.ref l) (.int k u)) Q E s :=
  have hl : s.heap.IsList l vs.toArray := N.isList hm
  tail_any hl.typeIs slot_list_getitem.lookup (wpAny_getItem_list hl h0 hhi (by simpa using hx) h) hs
set_option maxHeartbeats 4000000 in
theorem take_c {prog : Program} {w : World} {p : Program} {loose : List Str} {mean : ExcName → Option Value} {mg mb : Str → Option Value}
    {dp un : Nat} {gd : Option (List Code)} {cn : Str} {cs : Scope} {a : Addr} {ccd : Value} {cl : List (Str × Addr)} {outer : List Env} {A₀ : Around} {base h₀ : Heap} {L : Addr} {m : Str → Option Value} {s : Shared} {Q E : Value → Shared → Prop}
    {src : Addr} {P q top : Int} {t1 t2 t3 : Tok} {n : Nat} {own : List (Addr × Obj)}
    (B : Below A₀ base outer h₀) (F : Fr h₀ L s.heap m) (X : (kdef.heap_1 w.params).In h₀) (N : News h₀ L s.heap ((src, PySem.W.listOf #[.int P t1, .int q t2] n) :: own)) (T : Top p loose mean mg mb h₀) (hk : cs.kind = .function) (hroom : dp + 1 < recursionLimit) (hu : un + 8 < cLine)
    (hne : ∀ p ∈ own, p.1 ≠ src) (hP : 0 ≤ P) (hq : 0 ≤ q ∧ q < 2147483647) (ht : 1 ≤ top ∧ top ≤ 65536)
    (ret : ∀ (r : Int) (t : Tok) (P' q' : Int) (t1' t2' : Tok) (h' : Heap) (tk' : Nat), Fr h₀ L h' m → News h₀ L h' ((src, PySem.W.listOf #[.int P' t1', .int q' t2'] n) :: own) → 0 ≤ r → r < top → 0 ≤ P' → 0 ≤ q' ∧ q' < 2147483647 → Q (.int r t) { s with heap := h', toks := tk' }) :
    wpAny (model prog w) (ktrTop dp un gd cn cs L a ccd cl outer) (call (.ref 254) [.ref src, .int top t3]) Q E s := by
  k_with_none
  k_with "ne" => (refine neN ?_; (try dsimp only); first | with_reducible assumption | with_reducible exact Ne.symm (by assumption) | with_reducible exact And.left (by assumption) | with_reducible exact Ne.symm (And.left (by assumption)) | with_reducible exact And.left (And.right (by assumption)) | with_reducible exact Ne.symm (And.left (And.right (by assumption))) | with_reducible exact And.right (by assumption) | with_reducible exact Ne.symm (And.right (by assumption)) | with_reducible exact And.left (And.right (And.right (by assumption))) | with_reducible exact Ne.symm (And.left (And.right (And.right (by assumption)))) | with_reducible exact And.right (And.right (by assumption)) | with_reducible exact Ne.symm (And.right (And.right (by assumption))) | with_reducible exact And.left (And.right (And.right (And.right (by assumption)))) | with_reducible exact Ne.symm (And.left (And.right (And.right (And.right (by assumption))))) | with_reducible exact And.right (And.right (And.right (by assumption))) | with_reducible exact Ne.symm (And.right (And.right (And.right (by assumption)))) | with_reducible exact Nat.ne_of_gt (And.left (by assumption)) | with_reducible exact Nat.ne_of_lt (And.left (by assumption)) | with_reducible exact Nat.ne_of_gt (And.left (And.right (by assumption))) | with_reducible exact Nat.ne_of_lt (And.left (And.right (by assumption))) | with_reducible exact Nat.ne_of_gt (And.left (And.right (And.right (by assumption)))) | with_reducible exact Nat.ne_of_lt (And.left (And.right (And.right (by assumption)))) | with_reducible exact Nat.ne_of_gt (And.left (And.right (And.right (And.right (by assumption))))) | with_reducible exact Nat.ne_of_lt (And.left (And.right (And.right (And.right (by assumption))))) | with_reducible exact Nat.ne_of_gt (And.left (And.right (And.right (And.right (And.right (by assumption)))))) | with_reducible exact Nat.ne_of_lt (And.left (And.right (And.right (And.right (And.right (by assumption)))))) | with_reducible exact Nat.ne_of_gt (And.left (And.right (And.right (And.right (And.right (And.right (by assumption))))))) | with_reducible exact Nat.ne_of_lt (And.left (And.right (And.right (And.right (And.right (And.right (by assumption))))))) | with_reducible exact Nat.ne_of_gt (And.left (And.right (And.right (And.right (And.right (And.right (And.right (by assumption)))))))) | with_reducible exact Nat.ne_of_lt (And.left (And.right (And.right (And.right (And.right (And.right (And.right (by assumption)))))))) | with_reducible exact Nat.ne_of_gt (And.left (And.right (And.right (And.right (And.right (And.right (And.right (And.right (by assumption))))))))) | with_reducible exact Nat.ne_of_lt (And.left (And.right (And.right (And.right (And.right (And.right (And.right (And.right (by assumption))))))))) | with_reducible exact Nat.ne_of_gt (And.left (And.right (And.right (And.right (And.right (And.right (And.right (And.right (And.right (by assumption)))))))))) | with_reducible exact Nat.ne_of_lt (And.left (And.right (And.right (And.right (And.right (And.right (And.right (And.right (And.right (by assumption)))))))))) | omega)
  k_with "subscriptTail Name Constant ref int" => (k_here; (with_unfolding_all refine' item_src ?zzqk0 ?zzqk1 ?zzqk2 ?zzqk3 ?zzqk4 ?_ ?zzqk6; (case zzqk0 => k_asm); (case zzqk1 => k_mem); (case zzqk2 => decide); (case zzqk3 => decide); (case zzqk4 => rfl); (case zzqk6 => with_unfolding_all rfl); k_whole))
  refine wpAny_call ?_
  k_dflt cell_enter
  k_steps
  all_goals (
    apply ret
    k_asm
    k_asm
    exact Int.fmod_nonneg_of_pos _ (by omega)
    exact Int.fmod_lt_of_pos _ (by omega)
    first | assumption | exact Int.fdiv_nonneg hP (by omega)
    first | assumption | exact ⟨Int.fmod_nonneg_of_pos _ (by omega), Int.fmod_lt_of_pos _ (by omega)⟩)
end

section
/-- a goal that the walk shall leave alone -/
def Held (P : Prop) : Prop := P
theorem held {P : Prop} (h : Held P) : P := h
theorem Held.go {P : Prop} (h : P) : Held P := h

theorem upd_norm {src : Addr} {o : Obj} {news : List (Addr × Obj)} {upd : Obj → List (Addr × Obj)} (hU : ∀ o', Upd src o o' news (upd o')) :
    ∃ own : List (Addr × Obj), (∀ p ∈ own, p.1 ≠ src) ∧ (∀ p ∈ (src, o) :: own, p ∈ news) ∧ (∀ o', ∀ p ∈ upd o', p ∈ (src, o') :: own) ∧ ∀ p ∈ news, p.1 = src ∨ p ∈ own := by
  suffices H : ∀ (news : List (Addr × Obj)) (o' : Obj) (l' : List (Addr × Obj)), Upd src o o' news l' → (∀ p ∈ news.filter (fun p => p.1 != src), p.1 ≠ src) ∧ (∀ p ∈ (src, o) :: news.filter (fun p => p.1 != src), p ∈ news) ∧ (∀ p ∈ l', p ∈ (src, o') :: news.filter (fun p => p.1 != src)) by
    refine ⟨news.filter (fun p => p.1 != src), (H _ _ _ (hU o)).1, (H _ _ _ (hU o)).2.1, fun o' => (H _ _ _ (hU o')).2.2, fun p hp => ?_⟩
    by_cases e : p.1 = src
    · exact .inl e
    · exact .inr (List.mem_filter.mpr ⟨hp, by simpa using e⟩)
  intro news o' l' U
  refine ⟨fun p hp => by simpa using (List.mem_filter.mp hp).2, ?_, ?_⟩
  · intro p hp
    rcases List.mem_cons.mp hp with rfl | hp
    · obtain ⟨pre, post, rfl, _, _, _⟩ := U.split
      exact List.mem_append.mpr (.inr (.head _))
    · exact (List.mem_filter.mp hp).1
  · intro p hp
    obtain ⟨pre, post, rfl, rfl, h1, h2⟩ := U.split
    rcases List.mem_append.mp hp with hp | hp
    · exact .tail _ (List.mem_filter.mpr ⟨List.mem_append.mpr (.inl hp), by simpa using h1 p hp⟩)
    · rcases List.mem_cons.mp hp with rfl | hp
      · exact .head _
      · exact .tail _ (List.mem_filter.mpr ⟨List.mem_append.mpr (.inr (.tail _ hp)), by simpa using h2 p hp⟩)

section
variable {prog : Program} {w : World} {A : Around} {s : Shared} {h₀ : Heap} {L : Addr} {m : Str → Option Value} {env : Env} {elt : Expr} {x : Str} {scope : Scope} {cl : List (Str × Addr)} {S : List (Addr × Obj) → Prop} {P : Nat → Value → Prop} {Fin : List Value → List (Addr × Obj) → Prop}

/-- a comprehension's turns by a word J over what is built and the ledger -/
theorem rest_inv {n : Nat} {news : List (Addr × Obj)} (J : Nat → List Value → List (Addr × Obj) → Prop) (h0 : J 0 [] news)
    (turn : ∀ i ys nw v I oI C oC D m₂ h tk (E' : Value → Shared → Prop), i < n → ys.length = i → J i ys nw → P i v → LCg.NsObj oC m₂ → m₂ x = some v → Fr h₀ L h m → News h₀ L h ((I, oI) :: (C, oC) :: (D, LCg.lst ys) :: nw) → LCg.Off3 I C D nw → ((@Ne Nat I C) ∧ (@Ne Nat I D) ∧ (@Ne Nat C D)) →
      wpAny (model prog w) A (eval elt (compEnvC scope cl C env)) (LCg.CompEnd h₀ L m { s with heap := h, toks := tk } I oI C oC D (LCg.lst ys) S (fun y nw' => J (i + 1) (ys ++ [y]) nw')) E' { s with heap := h, toks := tk })
    (done : ∀ ys nw, ys.length = n → J n ys nw → Fin ys nw) :
    LCg.CompRest prog w A h₀ L m env elt x scope cl s S P Fin n 0 [] news := by
  suffices H : ∀ k i ys nw, i + k = n → ys.length = i → J i ys nw → LCg.CompRest prog w A h₀ L m env elt x scope cl s S P Fin k i ys nw from H n 0 [] news (by omega) rfl h0
  intro k
  induction k with
  | zero =>
    intro i ys nw hi hl hJ
    obtain rfl : i = n := by omega
    exact LCg.CompRest.zero (done _ _ hl hJ)
  | succ k ih =>
    intro i ys nw hi hl hJ
    refine LCg.CompRest.succ fun v I oI C oC D m₂ h tk E' hP hC hx F N off ne => ?_
    refine wpAny_mono (turn i ys nw v I oI C oC D m₂ h tk E' (by omega) hl hJ hP hC hx F N off ne) (fun y s₂ hq => ?_) fun _ _ e => e
    obtain ⟨h', tk', nw', e, F', N', off', hS, hJ'⟩ := hq
    exact ⟨h', tk', nw', e, F', N', off', hS, ih (i + 1) (ys ++ [y]) nw' (by omega) (by simp [hl]) hJ'⟩

abbrev SrcO (P q : Int) (t1 t2 : Tok) (n : Nat) : Obj := PySem.W.listOf #[.int P t1, .int q t2] n

def SrcEnd (h₀ : Heap) (L : Addr) (m : Str → Option Value) (s₁ : Shared) (I : Addr) (oI : Obj) (C : Addr) (oC : Obj) (D : Addr) (ys : List Value) (c : Addr × Obj) (src : Addr) (n : Nat) (own : List (Addr × Obj)) (J : Value → List (Addr × Obj) → Prop) (y : Value) (s₂ : Shared) : Prop :=
  ∃ h' tk P' q' t1 t2 tl', s₂ = { s₁ with heap := h', toks := tk } ∧ Fr h₀ L h' m ∧ News h₀ L h' ((I, oI) :: (C, oC) :: (D, LCg.lst ys) :: c :: (src, SrcO P' q' t1 t2 n) :: (tl' ++ own)) ∧ (∀ p ∈ tl', (p.1 ≠ I ∧ p.1 ≠ C ∧ p.1 ≠ D) ∧ p.1 ≠ src) ∧ 0 ≤ P' ∧ (0 ≤ q' ∧ q' < 2147483647) ∧ J y tl'

theorem SrcEnd.intro {s₁ : Shared} {I : Addr} {oI : Obj} {C : Addr} {oC : Obj} {D : Addr} {ys : List Value} {c : Addr × Obj} {src : Addr} {n : Nat} {own all : List (Addr × Obj)} {J : Value → List (Addr × Obj) → Prop} {y : Value} {h' : Heap} {tk : Nat} {P' q' : Int} {t1 t2 : Tok}
    (tl' : List (Addr × Obj)) (F : Fr h₀ L h' m) (N : News h₀ L h' all) (sub : ∀ p ∈ (I, oI) :: (C, oC) :: (D, LCg.lst ys) :: c :: (src, SrcO P' q' t1 t2 n) :: (tl' ++ own), p ∈ all)
    (off : ∀ p ∈ tl', (p.1 ≠ I ∧ p.1 ≠ C ∧ p.1 ≠ D) ∧ p.1 ≠ src) (hP : 0 ≤ P') (hq : 0 ≤ q' ∧ q' < 2147483647) (hJ : J y tl') :
    SrcEnd h₀ L m s₁ I oI C oC D ys c src n own J y { s₁ with heap := h', toks := tk } := ⟨h', tk, P', q', t1, t2, tl', rfl, F, fun p hp => N p (sub p hp), off, hP, hq, hJ⟩

theorem SrcEnd.one {s₁ : Shared} {I : Addr} {oI : Obj} {C : Addr} {oC : Obj} {D : Addr} {ys : List Value} {c : Addr × Obj} {src : Addr} {n : Nat} {own tl : List (Addr × Obj)} {J : Value → List (Addr × Obj) → Prop} {y : Value} {h' : Heap} {tk : Nat} {P' q' : Int} {t1 t2 : Tok} {d : Addr} {o : Obj}
    (F : Fr h₀ L h' m) (N : News h₀ L h' ((d, o) :: (I, oI) :: (C, oC) :: (D, LCg.lst ys) :: c :: (src, SrcO P' q' t1 t2 n) :: (tl ++ own)))
    (l1 : @LT.lt Nat _ I d ∧ @LT.lt Nat _ C d ∧ @LT.lt Nat _ D d ∧ @LT.lt Nat _ c.1 d ∧ @LT.lt Nat _ src d ∧ AllLt d (tl ++ own)) (offt : ∀ p ∈ tl, (p.1 ≠ I ∧ p.1 ≠ C ∧ p.1 ≠ D) ∧ p.1 ≠ src) (hP : 0 ≤ P') (hq : 0 ≤ q' ∧ q' < 2147483647) (hJ : J y ((d, o) :: tl)) :
    SrcEnd h₀ L m s₁ I oI C oC D ys c src n own J y { s₁ with heap := h', toks := tk } := by
  refine .intro (t1 := t1) (t2 := t2) ((d, o) :: tl) F N (fun p hp => ?_) (fun p hp => ?_) hP hq hJ
  · simp only [List.mem_cons, List.cons_append] at hp ⊢
    rcases hp with h|h|h|h|h|h|h <;> simp only [h, true_or, or_true]
  · rcases List.mem_cons.mp hp with rfl | hp
    · exact ⟨⟨Nat.ne_of_gt l1.1, Nat.ne_of_gt l1.2.1, Nat.ne_of_gt l1.2.2.1⟩, Nat.ne_of_gt l1.2.2.2.2.1⟩
    · exact offt p hp

theorem off_one {d : Addr} {o : Obj} {tl own : List (Addr × Obj)} (l : AllLt d (tl ++ own)) (h : ∀ p ∈ tl, ∀ q ∈ own, p.1 ≠ q.1) : ∀ p ∈ (d, o) :: tl, ∀ q ∈ own, p.1 ≠ q.1 := by
  intro p hp q hq
  rcases List.mem_cons.mp hp with rfl | hp
  · exact Nat.ne_of_gt (tb_ltOf l q (List.mem_append.mpr (.inr hq)))
  · exact h p hp q hq
theorem off_list {D : Addr} {o : Obj} {tl own : List (Addr × Obj)} (l : LCg.Off1 D (tl ++ own)) (h : ∀ p ∈ tl, ∀ q ∈ own, p.1 ≠ q.1) : ∀ p ∈ (D, o) :: tl, ∀ q ∈ own, p.1 ≠ q.1 := by
  have off1 : ∀ {l : List (Addr × Obj)}, LCg.Off1 D l → ∀ p ∈ l, p.1 ≠ D := by
    intro l
    induction l with
    | nil => intro _ p hp; cases hp
    | cons a r ih =>
      intro h p hp
      rcases List.mem_cons.mp hp with rfl | hp
      · exact h.1
      · exact ih h.2 p hp
  intro p hp q hq
  rcases List.mem_cons.mp hp with rfl | hp
  · exact fun e => off1 l q (List.mem_append.mpr (.inr hq)) e.symm
  · exact h p hp q hq

/-- a comprehension over a range that draws from the source -/
theorem rest_src {k : Nat} {c : Addr × Obj} {src : Addr} {n : Nat} {own : List (Addr × Obj)} {P₀ q₀ : Int} {t1 t2 : Tok} (J : Nat → List Value → List (Addr × Obj) → Prop) (h0 : J 0 [] []) (hc : c.1 ≠ src) (hne : ∀ p ∈ own, p.1 ≠ src) (hP : 0 ≤ P₀) (hq : 0 ≤ q₀ ∧ q₀ < 2147483647) (hS : ∀ l, S l)
    (turn : ∀ i ys tl I oI C oC D m₂ h tk (E' : Value → Shared → Prop) P' q' t1 t2, i < k → ys.length = i → J i ys tl → LCg.NsObj oC m₂ → Fr h₀ L h m →
      News h₀ L h ((I, oI) :: (C, oC) :: (D, LCg.lst ys) :: c :: (src, SrcO P' q' t1 t2 n) :: (tl ++ own)) → (@Ne Nat c.1 I ∧ @Ne Nat c.1 C ∧ @Ne Nat c.1 D) → (@Ne Nat src I ∧ @Ne Nat src C ∧ @Ne Nat src D) → (∀ p ∈ tl, (p.1 ≠ I ∧ p.1 ≠ C ∧ p.1 ≠ D) ∧ p.1 ≠ src) → ((@Ne Nat I C) ∧ (@Ne Nat I D) ∧ (@Ne Nat C D)) → (∀ p ∈ tl ++ own, p.1 ≠ src) → 0 ≤ P' → (0 ≤ q' ∧ q' < 2147483647) →
      wpAny (model prog w) A (eval elt (compEnvC scope cl C env)) (SrcEnd h₀ L m { s with heap := h, toks := tk } I oI C oC D ys c src n own (fun y tl' => J (i + 1) (ys ++ [y]) tl')) E' { s with heap := h, toks := tk })
    (done : ∀ ys tl P' q' t1 t2, ys.length = k → J k ys tl → (∀ p ∈ tl, p.1 ≠ src) → 0 ≤ P' → (0 ≤ q' ∧ q' < 2147483647) → Fin ys (c :: (src, SrcO P' q' t1 t2 n) :: (tl ++ own))) :
    LCg.CompRest prog w A h₀ L m env elt x scope cl s S P Fin k 0 [] (c :: (src, SrcO P₀ q₀ t1 t2 n) :: own) := by
  refine rest_inv (fun i ys nw => ∃ P' q' t1 t2 tl, nw = c :: (src, SrcO P' q' t1 t2 n) :: (tl ++ own) ∧ (∀ p ∈ tl, p.1 ≠ src) ∧ 0 ≤ P' ∧ (0 ≤ q' ∧ q' < 2147483647) ∧ J i ys tl) ⟨P₀, q₀, t1, t2, [], rfl, (fun _ h => nomatch h), hP, hq, h0⟩ ?_ ?_
  · rintro i ys nw v I oI C oC D m₂ h tk E' hi hl ⟨P', q', t1, t2, tl, rfl, hs, hP', hq', hJ⟩ _ hC _ F N off ne
    have offm := off.mem
    have hsrc : src ≠ I ∧ src ≠ C ∧ src ≠ D := offm _ (.tail _ (.head _))
    have hall : ∀ p ∈ tl ++ own, p.1 ≠ src := fun p hp => (List.mem_append.mp hp).elim (hs p) (hne p)
    refine wpAny_mono (turn i ys tl I oI C oC D m₂ h tk E' P' q' t1 t2 hi hl hJ hC F N (offm _ (.head _)) (offm _ (.tail _ (.head _))) (fun p hp => ⟨offm _ (.tail _ (.tail _ (List.mem_append.mpr (.inl hp)))), hs p hp⟩) ne hall hP' hq') (fun y s₂ hq => ?_) fun _ _ e => e
    obtain ⟨h', tk', P'', q'', t1', t2', tl', e, F', N', off', hP'', hq'', hJ'⟩ := hq
    refine ⟨h', tk', _, e, F', N', LCg.Off3.of fun p hp => ?_, hS _, P'', q'', t1', t2', tl', rfl, fun p hp => (off' p hp).2, hP'', hq'', hJ'⟩
    rcases List.mem_cons.mp hp with rfl | hp
    · exact offm _ (.head _)
    · rcases List.mem_cons.mp hp with rfl | hp
      · exact hsrc
      · rcases List.mem_append.mp hp with hp | hp
        · exact (off' p hp).1
        · exact offm _ (.tail _ (.tail _ (List.mem_append.mpr (.inr hp))))
  · rintro ys nw hl ⟨P', q', t1, t2, tl, rfl, hs, hP', hq', hJ⟩
    exact done ys tl P' q' t1 t2 hl hJ hs hP' hq'

theorem SrcEnd.many {s₁ : Shared} {I : Addr} {oI : Obj} {C : Addr} {oC : Obj} {D : Addr} {ys : List Value} {c : Addr × Obj} {src : Addr} {n : Nat} {own tl new : List (Addr × Obj)} {J : Value → List (Addr × Obj) → Prop} {y : Value} {h' : Heap} {tk : Nat} {P' q' : Int} {t1 t2 : Tok} {o₀ : Obj}
    (F : Fr h₀ L h' m) (N : News h₀ L h' (new ++ ((I, oI) :: (C, oC) :: (D, LCg.lst ys) :: c :: (src, SrcO P' q' t1 t2 n) :: (tl ++ own))))
    (hfr : ∀ p ∈ new, ∀ q ∈ (I, oI) :: (C, oC) :: (D, LCg.lst ys) :: c :: (src, o₀) :: (tl ++ own), p.1 ≠ q.1) (offt : ∀ p ∈ tl, (p.1 ≠ I ∧ p.1 ≠ C ∧ p.1 ≠ D) ∧ p.1 ≠ src) (hP : 0 ≤ P') (hq : 0 ≤ q' ∧ q' < 2147483647) (hJ : J y (new ++ tl)) :
    SrcEnd h₀ L m s₁ I oI C oC D ys c src n own J y { s₁ with heap := h', toks := tk } := by
  refine .intro (t1 := t1) (t2 := t2) (new ++ tl) F N (fun p hp => ?_) (fun p hp => ?_) hP hq hJ
  · simp only [List.mem_cons, List.mem_append] at hp ⊢
    rcases hp with h|h|h|h|h|(h|h)|h <;> simp only [h, true_or, or_true]
  · rcases List.mem_append.mp hp with hp | hp
    · exact ⟨⟨hfr p hp _ (.head _), hfr p hp _ (.tail _ (.head _)), hfr p hp _ (.tail _ (.tail _ (.head _)))⟩, hfr p hp _ (.tail _ (.tail _ (.tail _ (.tail _ (.head _)))))⟩
    · exact offt p hp

/-- a ledger cut at the source -/
inductive Cut (c s₀ : Addr × Obj) (ρ own : List (Addr × Obj)) : List (Addr × Obj) → List (Addr × Obj) → Prop
  | base : Cut c s₀ ρ own (c :: s₀ :: (ρ ++ own)) ρ
  | cons {x : Addr × Obj} {all tl : List (Addr × Obj)} : Cut c s₀ ρ own all tl → Cut c s₀ ρ own (x :: all) (x :: tl)
theorem Cut.mem {c s₀ : Addr × Obj} {ρ own all tl : List (Addr × Obj)} (h : Cut c s₀ ρ own all tl) : ∀ p ∈ s₀ :: (tl ++ own), p ∈ all := by
  induction h with
  | base => exact fun p hp => .tail _ hp
  | cons _ ih =>
    intro p hp
    rcases List.mem_cons.mp hp with rfl | hp
    · exact .tail _ (ih _ (.head _))
    · rcases List.mem_cons.mp hp with rfl | hp
      · exact .head _
      · exact .tail _ (ih p (.tail _ hp))
def Fresh (src : Addr) (own tl : List (Addr × Obj)) : Prop := ∀ p ∈ tl, p.1 ≠ src ∧ ∀ q ∈ own, p.1 ≠ q.1
theorem Fresh.cons {src B : Addr} {own tl : List (Addr × Obj)} {x : Addr × Obj} (lc : @LT.lt Nat _ src B ∧ AllLt B own) (h : @LT.lt Nat _ B x.1) (k : Fresh src own tl) : Fresh src own (x :: tl) := by
  intro p hp
  rcases List.mem_cons.mp hp with rfl | hp
  · exact ⟨Nat.ne_of_gt (Nat.lt_trans lc.1 h), fun q hq => Nat.ne_of_gt (Nat.lt_trans (tb_ltOf lc.2 q hq) h)⟩
  · exact k p hp

def MidE (Mid : Shared → Prop) (f : Flow) (s' : Shared) : Prop := f = .next ∧ Mid s'
theorem execs_app (b2 : List Stmt) (env : Env) : ∀ b1 : List Stmt, execs (b1 ++ b2) env = (execs b1 env >>= fun f => match f with | .next => execs b2 env | f => pure f)
  | [] => by rw [List.nil_append, execs_nil, pure_bind]
  | st :: r => by
    rw [List.cons_append, execs_cons, execs_cons, bind_assoc]
    congr 1
    funext f
    cases f <;> simp [execs_app b2 env r]
/-- a body walked in two parts: what stands between them -/
theorem execs_cut {M : Model} {E : Value → Shared → Prop} {Q : Flow → Shared → Prop} {body b1 b2 : List Stmt} (Mid : Shared → Prop) (e : body = b1 ++ b2) (h1 : wpAny M A (execs b1 env) (MidE Mid) E s) (h2 : ∀ s', Mid s' → wpAny M A (execs b2 env) Q E s') : wpAny M A (execs body env) Q E s := by
  rw [e, execs_app]
  refine wpAny_bind (wpAny_mono h1 (fun f s' h => ?_) fun _ _ e => e)
  obtain ⟨rfl, h⟩ := h
  exact h2 s' h
end
end

section
theorem take_u {prog : Program} {w : World} {p : Program} {loose : List Str} {mean : ExcName → Option Value} {mg mb : Str → Option Value}
    {dp un : Nat} {gd : Option (List Code)} {cn : Str} {cs : Scope} {a : Addr} {ccd : Value} {cl : List (Str × Addr)} {outer : List Env} {A₀ : Around} {base h₀ : Heap} {L : Addr} {m : Str → Option Value} {s : Shared} {Q E : Value → Shared → Prop}
    {src : Addr} {P q top : Int} {t1 t2 t3 : Tok} {n : Nat} {news : List (Addr × Obj)} {upd : Obj → List (Addr × Obj)}
    (B : Below A₀ base outer h₀) (F : Fr h₀ L s.heap m) (X : (kdef.heap_1 w.params).In h₀) (N : News h₀ L s.heap (news)) (T : Top p loose mean mg mb h₀) (hk : cs.kind = .function) (hroom : dp + 1 < recursionLimit) (hu : un + 8 < cLine)
    (hU : ∀ o', Upd src (PySem.W.listOf #[.int P t1, .int q t2] n) o' news (upd o')) (hP : 0 ≤ P) (hq : 0 ≤ q ∧ q < 2147483647) (ht : 1 ≤ top ∧ top ≤ 65536)
    (ret : ∀ (r : Int) (t : Tok) (P' q' : Int) (t1' t2' : Tok) (h' : Heap) (tk' : Nat), Fr h₀ L h' m → News h₀ L h' (upd (PySem.W.listOf #[.int P' t1', .int q' t2'] n)) → 0 ≤ r → r < top → 0 ≤ P' → 0 ≤ q' ∧ q' < 2147483647 → Q (.int r t) { s with heap := h', toks := tk' }) :
    wpAny (model prog w) (ktrTop dp un gd cn cs L a ccd cl outer) (call (.ref 254) [.ref src, .int top t3]) Q E s := by
  obtain ⟨own, h1, h2, h3, _⟩ := upd_norm hU
  exact take_c B F X (fun p hp => N p (h2 p hp)) T hk hroom hu h1 hP hq ht fun r t P' q' t1' t2' h' tk' F' N' => ret r t P' q' t1' t2' h' tk' F' fun p hp => N' p (h3 _ p hp)

section

set_option maxHeartbeats 4000000 in
theorem num_c {prog : Program} {w : World} {p : Program} {loose : List Str} {mean : ExcName → Option Value} {mg mb : Str → Option Value}
    {dp un : Nat} {gd : Option (List Code)} {cn : Str} {cs : Scope} {a : Addr} {ccd : Value} {cl : List (Str × Addr)} {outer : List Env} {A₀ : Around} {base h₀ : Heap} {L : Addr} {m : Str → Option Value} {s : Shared} {Q E : Value → Shared → Prop}
    {src : Addr} {P q : Int} {t1 t2 : Tok} {n : Nat} {own : List (Addr × Obj)}
    (B : Below A₀ base outer h₀) (F : Fr h₀ L s.heap m) (X : (kdef.heap_1 w.params).In h₀) (N : News h₀ L s.heap ((src, PySem.W.listOf #[.int P t1, .int q t2] n) :: own)) (T : Top p loose mean mg mb h₀) (hk : cs.kind = .function) (hroom : dp + 3 < recursionLimit) (hu : un + 32 < cLine) (hne : ∀ p ∈ own, p.1 ≠ src) (hP : 0 ≤ P) (hq : 0 ≤ q ∧ q < 2147483647)
    (ret : ∀ (r : Int) (t : Tok) (P' q' : Int) (t1' t2' : Tok) (h' : Heap) (tk' : Nat), Fr h₀ L h' m → News h₀ L h' ((src, PySem.W.listOf #[.int P' t1', .int q' t2'] n) :: own) → 0 ≤ P' → 0 ≤ q' ∧ q' < 2147483647 → Q (.int r t) { s with heap := h', toks := tk' }) :
    wpAny (model prog w) (ktrTop dp un gd cn cs L a ccd cl outer) (call (.ref 268) [.ref src]) Q E s := by
  k_with_none
  k_with "ne" => (refine neN ?_; (try dsimp only); first | with_reducible assumption | with_reducible exact Ne.symm (by assumption) | with_reducible exact And.left (by assumption) | with_reducible exact Ne.symm (And.left (by assumption)) | with_reducible exact And.left (And.right (by assumption)) | with_reducible exact Ne.symm (And.left (And.right (by assumption))) | with_reducible exact And.right (by assumption) | with_reducible exact Ne.symm (And.right (by assumption)) | with_reducible exact And.left (And.right (And.right (by assumption))) | with_reducible exact Ne.symm (And.left (And.right (And.right (by assumption)))) | with_reducible exact And.right (And.right (by assumption)) | with_reducible exact Ne.symm (And.right (And.right (by assumption))) | with_reducible exact And.left (And.right (And.right (And.right (by assumption)))) | with_reducible exact Ne.symm (And.left (And.right (And.right (And.right (by assumption))))) | with_reducible exact And.right (And.right (And.right (by assumption))) | with_reducible exact Ne.symm (And.right (And.right (And.right (by assumption)))) | with_reducible exact Nat.ne_of_gt (And.left (by assumption)) | with_reducible exact Nat.ne_of_lt (And.left (by assumption)) | with_reducible exact Nat.ne_of_gt (And.left (And.right (by assumption))) | with_reducible exact Nat.ne_of_lt (And.left (And.right (by assumption))) | with_reducible exact Nat.ne_of_gt (And.left (And.right (And.right (by assumption)))) | with_reducible exact Nat.ne_of_lt (And.left (And.right (And.right (by assumption)))) | with_reducible exact Nat.ne_of_gt (And.left (And.right (And.right (And.right (by assumption))))) | with_reducible exact Nat.ne_of_lt (And.left (And.right (And.right (And.right (by assumption))))) | with_reducible exact Nat.ne_of_gt (And.left (And.right (And.right (And.right (And.right (by assumption)))))) | with_reducible exact Nat.ne_of_lt (And.left (And.right (And.right (And.right (And.right (by assumption)))))) | with_reducible exact Nat.ne_of_gt (And.left (And.right (And.right (And.right (And.right (And.right (by assumption))))))) | with_reducible exact Nat.ne_of_lt (And.left (And.right (And.right (And.right (And.right (And.right (by assumption))))))) | with_reducible exact Nat.ne_of_gt (And.left (And.right (And.right (And.right (And.right (And.right (And.right (by assumption)))))))) | with_reducible exact Nat.ne_of_lt (And.left (And.right (And.right (And.right (And.right (And.right (And.right (by assumption)))))))) | with_reducible exact Nat.ne_of_gt (And.left (And.right (And.right (And.right (And.right (And.right (And.right (And.right (by assumption))))))))) | with_reducible exact Nat.ne_of_lt (And.left (And.right (And.right (And.right (And.right (And.right (And.right (And.right (by assumption))))))))) | with_reducible exact Nat.ne_of_gt (And.left (And.right (And.right (And.right (And.right (And.right (And.right (And.right (And.right (by assumption)))))))))) | with_reducible exact Nat.ne_of_lt (And.left (And.right (And.right (And.right (And.right (And.right (And.right (And.right (And.right (by assumption)))))))))) | omega)
  k_with "call ref" => ( k_here; k_dflt (show wpAny _ _ (call (Value.ref 254) [Value.ref _, Value.int _ _]) _ _ _); k_dflt (refine' take_u ?zzqk1 ?zzqk2 ?zzqk3 ?zzqk4 ?zzqk5 ?zzqk6 ?zzqk7 ?zzqk8 ?zzqe1 ?zzqe2 ?zzqe3 ?zzqe4 ?_; (case zzqk1 => k_asm); (case zzqk2 => k_asm); (case zzqk3 => k_asm); (case zzqk4 => k_asm); (case zzqk5 => k_asm); (case zzqk6 => first | exact rfl | assumption); (case zzqk7 => ktr_room); (case zzqk8 => ktr_units); (case zzqe1 => intro o'; k_upd); (case zzqe2 => assumption); (case zzqe3 => assumption); (case zzqe4 => first | decide | omega); k_whole); intros; (try dsimp only); (try k_sweep); (try k_fold); walk_say "TAKE")
  refine wpAny_call ?_
  k_dflt cell_enter
  k_steps
  all_goals (
    apply ret
    k_asm
    exact cb_drop (by with_reducible assumption) (fun _ h => List.mem_cons_of_mem _ h)
    assumption
    assumption)
end

theorem num_u {prog : Program} {w : World} {p : Program} {loose : List Str} {mean : ExcName → Option Value} {mg mb : Str → Option Value}
    {dp un : Nat} {gd : Option (List Code)} {cn : Str} {cs : Scope} {a : Addr} {ccd : Value} {cl : List (Str × Addr)} {outer : List Env} {A₀ : Around} {base h₀ : Heap} {L : Addr} {m : Str → Option Value} {s : Shared} {Q E : Value → Shared → Prop}
    {src : Addr} {P q : Int} {t1 t2 : Tok} {n : Nat} {news : List (Addr × Obj)} {upd : Obj → List (Addr × Obj)}
    (B : Below A₀ base outer h₀) (F : Fr h₀ L s.heap m) (X : (kdef.heap_1 w.params).In h₀) (N : News h₀ L s.heap (news)) (T : Top p loose mean mg mb h₀) (hk : cs.kind = .function) (hroom : dp + 3 < recursionLimit) (hu : un + 32 < cLine) (hU : ∀ o', Upd src (PySem.W.listOf #[.int P t1, .int q t2] n) o' news (upd o')) (hP : 0 ≤ P) (hq : 0 ≤ q ∧ q < 2147483647)
    (ret : ∀ (r : Int) (t : Tok) (P' q' : Int) (t1' t2' : Tok) (h' : Heap) (tk' : Nat), Fr h₀ L h' m → News h₀ L h' (upd (PySem.W.listOf #[.int P' t1', .int q' t2'] n)) → 0 ≤ P' → 0 ≤ q' ∧ q' < 2147483647 → Q (.int r t) { s with heap := h', toks := tk' }) :
    wpAny (model prog w) (ktrTop dp un gd cn cs L a ccd cl outer) (call (.ref 268) [.ref src]) Q E s := by
  obtain ⟨own, h1, h2, h3, _⟩ := upd_norm hU
  exact num_c B F X (fun p hp => N p (h2 p hp)) T hk hroom hu h1 hP hq fun r t P' q' t1' t2' h' tk' F' N' => ret r t P' q' t1' t2' h' tk' F' fun p hp => N' p (h3 _ p hp)
end

section
abbrev tupO (vs : Array Value) (k : Nat) : Obj := { cls := .type "tuple", data := .seq vs k }

/-- a list of points: (x, y, on) -/
inductive PtsAt (ν : List (Addr × Obj)) : List Value → List (Int × Int) → Prop
  | nil : PtsAt ν [] []
  | cons {a : Addr} {x y : Int} {t1 t2 : Tok} {b : Bool} {k : Nat} {vs : List Value} {ps : List (Int × Int)} : (a, tupO #[.int x t1, .int y t2, .bool b] k) ∈ ν → PtsAt ν vs ps → PtsAt ν (.ref a :: vs) ((x, y) :: ps)
theorem PtsAt.mono {ν ν' : List (Addr × Obj)} (hs : ∀ p ∈ ν, p ∈ ν') {vs : List Value} {ps : List (Int × Int)} (h : PtsAt ν vs ps) : PtsAt ν' vs ps := by
  induction h with
  | nil => exact .nil
  | cons hm _ ih => exact .cons (hs _ hm) ih
theorem PtsAt.append {ν : List (Addr × Obj)} {vs ws : List Value} {ps qs : List (Int × Int)} (h : PtsAt ν vs ps) (k : PtsAt ν ws qs) : PtsAt ν (vs ++ ws) (ps ++ qs) := by
  induction h with
  | nil => exact k
  | cons hm _ ih => exact .cons hm ih
theorem PtsAt.length {ν : List (Addr × Obj)} {vs : List Value} {ps : List (Int × Int)} (h : PtsAt ν vs ps) : vs.length = ps.length := by
  induction h with
  | nil => rfl
  | cons _ _ ih => simp [ih]
theorem PtsAt.get {ν : List (Addr × Obj)} {vs : List Value} {ps : List (Int × Int)} (h : PtsAt ν vs ps) : ∀ {i : Nat} {v : Value}, vs[i]? = some v → ∃ a x y t1 t2 b k, v = .ref a ∧ ps[i]? = some (x, y) ∧ (a, tupO #[.int x t1, .int y t2, .bool b] k) ∈ ν := by
  induction h with
  | nil => intro i v e; simp at e
  | @cons a x y t1 t2 b k vs ps hm _ ih =>
    intro i v e
    cases i with
    | zero => simp at e; exact ⟨a, x, y, t1, t2, b, k, e.symm, by simp, hm⟩
    | succ i => simpa using ih (by simpa using e)
end

section
section
local macro_rules | `(tactic| ktn_open) => `(tactic| (
  (refine' code_defC ?k1 ?k2 ?k3 ?k4 ?k5 ?kA ?kF ?kK ?k6 ?k7 ?k8 ?k9 ?kB ?kD ?_ ?c2 ?c3 ?c4; (case kA => exact rfl); (case kF => exact rfl); (case kK => assumption); (case k1 => k_asm); (case k2 => k_asm); (case k3 => k_asm); (case k4 => k_asm); (case k5 => k_asm); (case k6 => k_is); (case k7 => k_is); (case k8 => ktr_room); (case k9 => exact BindsTo.of_eq rfl); (case kB => exact rfl); (case kD => decide +kernel); (case c2 => exact rfl); (case c3 => exact rfl); (case c4 => exact rfl); k_whole)
  intro g' L' h' tk' cells' FG' F' N' Y' B' X' T' l1
  (try k_lt l1)
  k_cells Y'
  (try simp only [List.cons_append, List.nil_append] at N')
  (try dsimp only)
  (try k_lift B')
  (try k_fold)))
set_option maxHeartbeats 1000000 in
theorem con_c {prog : Program} {w : World} {p : Program} {loose : List Str} {mean : ExcName → Option Value} {mg mb : Str → Option Value}
    {dp un : Nat} {gd : Option (List Code)} {cn : Str} {cs : Scope} {a : Addr} {ccd : Value} {cl : List (Str × Addr)} {outer : List Env} {A₀ : Around} {base h₀ : Heap} {L : Addr} {m : Str → Option Value} {s : Shared} {Q E : Value → Shared → Prop}
    {src : Addr} {P q : Int} {t1 t2 : Tok} {n : Nat} {own : List (Addr × Obj)}
    (B : Below A₀ base outer h₀) (F : Fr h₀ L s.heap m) (X : (kdef.heap_1 w.params).In h₀) (N : News h₀ L s.heap ((src, PySem.W.listOf #[.int P t1, .int q t2] n) :: own)) (T : Top p loose mean mg mb h₀) (hk : cs.kind = .function) (hroom : dp + 5 < recursionLimit) (hu : un + 64 < cLine) (hne : ∀ p ∈ own, p.1 ≠ src) (hP : 0 ≤ P) (hq : 0 ≤ q ∧ q < 2147483647)
    (ret : ∀ (c : Addr) (vs : List Value) (ps : List (Int × Int)) (tl : List (Addr × Obj)) (P' q' : Int) (t1' t2' : Tok) (h' : Heap) (tk' : Nat), Fr h₀ L h' m → News h₀ L h' ((src, PySem.W.listOf #[.int P' t1', .int q' t2'] n) :: (((c, LCg.lst vs) :: tl) ++ own)) → (∀ p ∈ (c, LCg.lst vs) :: tl, p.1 ≠ src) → (∀ p ∈ (c, LCg.lst vs) :: tl, ∀ q ∈ own, p.1 ≠ q.1) → 0 ≤ P' → (0 ≤ q' ∧ q' < 2147483647) → PtsAt tl vs ps → ps ≠ [] → ps.length ≤ 3 → Q (.ref c) { s with heap := h', toks := tk' }) :
    wpAny (model prog w) (ktrTop dp un gd cn cs L a ccd cl outer) (call (.ref 273) [.ref src]) Q E s := by
  k_with_none
  k_with "ne" => (refine neN ?_; (try dsimp only); first | with_reducible assumption | with_reducible exact Ne.symm (by assumption) | with_reducible exact And.left (by assumption) | with_reducible exact Ne.symm (And.left (by assumption)) | with_reducible exact And.left (And.right (by assumption)) | with_reducible exact Ne.symm (And.left (And.right (by assumption))) | with_reducible exact And.right (by assumption) | with_reducible exact Ne.symm (And.right (by assumption)) | with_reducible exact And.left (And.right (And.right (by assumption))) | with_reducible exact Ne.symm (And.left (And.right (And.right (by assumption)))) | with_reducible exact And.right (And.right (by assumption)) | with_reducible exact Ne.symm (And.right (And.right (by assumption))) | with_reducible exact And.left (And.right (And.right (And.right (by assumption)))) | with_reducible exact Ne.symm (And.left (And.right (And.right (And.right (by assumption))))) | with_reducible exact And.right (And.right (And.right (by assumption))) | with_reducible exact Ne.symm (And.right (And.right (And.right (by assumption)))) | with_reducible exact Nat.ne_of_gt (And.left (by assumption)) | with_reducible exact Nat.ne_of_lt (And.left (by assumption)) | with_reducible exact Nat.ne_of_gt (And.left (And.right (by assumption))) | with_reducible exact Nat.ne_of_lt (And.left (And.right (by assumption))) | with_reducible exact Nat.ne_of_gt (And.left (And.right (And.right (by assumption)))) | with_reducible exact Nat.ne_of_lt (And.left (And.right (And.right (by assumption)))) | with_reducible exact Nat.ne_of_gt (And.left (And.right (And.right (And.right (by assumption))))) | with_reducible exact Nat.ne_of_lt (And.left (And.right (And.right (And.right (by assumption))))) | with_reducible exact Nat.ne_of_gt (And.left (And.right (And.right (And.right (And.right (by assumption)))))) | with_reducible exact Nat.ne_of_lt (And.left (And.right (And.right (And.right (And.right (by assumption)))))) | with_reducible exact Nat.ne_of_gt (And.left (And.right (And.right (And.right (And.right (And.right (by assumption))))))) | with_reducible exact Nat.ne_of_lt (And.left (And.right (And.right (And.right (And.right (And.right (by assumption))))))) | with_reducible exact Nat.ne_of_gt (And.left (And.right (And.right (And.right (And.right (And.right (And.right (by assumption)))))))) | with_reducible exact Nat.ne_of_lt (And.left (And.right (And.right (And.right (And.right (And.right (And.right (by assumption)))))))) | with_reducible exact Nat.ne_of_gt (And.left (And.right (And.right (And.right (And.right (And.right (And.right (And.right (by assumption))))))))) | with_reducible exact Nat.ne_of_lt (And.left (And.right (And.right (And.right (And.right (And.right (And.right (And.right (by assumption))))))))) | with_reducible exact Nat.ne_of_gt (And.left (And.right (And.right (And.right (And.right (And.right (And.right (And.right (And.right (by assumption)))))))))) | with_reducible exact Nat.ne_of_lt (And.left (And.right (And.right (And.right (And.right (And.right (And.right (And.right (And.right (by assumption)))))))))) | omega)
  k_with "call ref" => ( k_here; k_dflt (show wpAny _ _ (call (Value.ref 254) [Value.ref _, Value.int _ _]) _ _ _); k_dflt (refine' take_u ?zzqk1 ?zzqk2 ?zzqk3 ?zzqk4 ?zzqk5 ?zzqk6 ?zzqk7 ?zzqk8 ?zzqe1 ?zzqe2 ?zzqe3 ?zzqe4 ?_; (case zzqk1 => k_asm); (case zzqk2 => k_asm); (case zzqk3 => k_asm); (case zzqk4 => k_asm); (case zzqk5 => k_asm); (case zzqk6 => first | exact rfl | assumption); (case zzqk7 => ktr_room); (case zzqk8 => ktr_units); (case zzqe1 => intro o'; k_upd); (case zzqe2 => assumption); (case zzqe3 => assumption); (case zzqe4 => first | decide | omega); k_whole); intros; (try dsimp only); (try k_sweep); (try k_fold); walk_say "TAKE")
  k_with "call ref" => ( k_here; k_dflt (show wpAny _ _ (call (Value.ref 268) [Value.ref _]) _ _ _); k_dflt (refine' num_u ?zzqk1 ?zzqk2 ?zzqk3 ?zzqk4 ?zzqk5 ?zzqk6 ?zzqk7 ?zzqk8 ?zzqe1 ?zzqe2 ?zzqe3 ?_; (case zzqk1 => k_asm); (case zzqk2 => k_asm); (case zzqk3 => k_asm); (case zzqk4 => k_asm); (case zzqk5 => k_asm); (case zzqk6 => first | exact rfl | assumption); (case zzqk7 => ktr_room); (case zzqk8 => ktr_units); (case zzqe1 => intro o'; k_upd); (case zzqe2 => assumption); (case zzqe3 => assumption); k_whole); intros; (try dsimp only); (try k_sweep); (try k_fold); walk_say "NUM")
  k_with "eval ListComp" => (k_here; k_dflt (refine LCg.ListComp_U (F₀ := by k_asm) (by rfl) (by decide) (by rfl) (by decide) (by rfl) ?_))
  k_with "CompSrc" => (k_dflt (refine held ?_))
  refine wpAny_call ?_
  k_dflt ktn_open
  k_steps
  rename_i r _ _ _ _ _ _ _ _ hr0 hr1 hP' hq' _ _ _ _ _ _ _ _ _
  refine Held.go ?_
  refine LCg.CompSrc.range (by rfl) (by k_asm) (by k_asm) (by assumption) (small_one (by omega) (by omega) (by omega) (by omega)) (rangeSize_nat _ _) (by rw [sizeLine_eq]; omega) ?_
  intro g9
  refine rest_src (fun i ys tl => (∀ p ∈ tl, ∀ q ∈ own, p.1 ≠ q.1) ∧ ∃ ps, PtsAt tl ys ps) ⟨(fun _ h => nomatch h), [], .nil⟩ ?_ hne (by assumption) (by assumption) (fun _ => trivial) ?_ ?_
  · exact fun e => absurd e (Nat.ne_of_gt (by omega))
  · intro i ys tl I oI C oC D m₂ h tk E' P'' q'' t1'' t2'' hi hl hJ hC F9 N9 offc offs offt ne hall hP9 hq9
    dsimp only at offc
    k_fold
    k_steps
    obtain ⟨hoo, ps, hps⟩ := hJ
    refine SrcEnd.one (by k_asm) (by with_reducible assumption) (by with_reducible assumption) offt (by with_reducible assumption) (by with_reducible assumption) ?_
    rename_i l10
    exact ⟨off_one l10.2.2.2.2.2 hoo, _, (hps.mono fun _ h => .tail _ h).append (.cons (.head _) .nil)⟩
  · intro ys tl P'' q'' t1'' t2'' hl hJ hs hP9 hq9
    obtain ⟨hoo, ps, hps⟩ := hJ
    k_steps
    have hlen := hps.length
    rename_i D9 _ _ _ _ o1 _ kN _ _
    refine ret D9 ys ps tl P'' q'' t1'' t2'' _ _ (by k_asm) (fun p hp => kN p ?_) (fun p hp => ?_) ?_ hP9 hq9 hps ?_ ?_
    · simp only [List.mem_cons, List.cons_append] at hp ⊢
      rcases hp with h|h|h <;> simp only [h, true_or, or_true]
    · rcases List.mem_cons.mp hp with rfl | hp
      · exact fun e => o1.2.1 e.symm
      · exact hs p hp
    · exact off_list o1.2.2 hoo
    · intro e
      rw [e, List.length_nil] at hlen
      omega
    · omega
end

theorem con_u {prog : Program} {w : World} {p : Program} {loose : List Str} {mean : ExcName → Option Value} {mg mb : Str → Option Value}
    {dp un : Nat} {gd : Option (List Code)} {cn : Str} {cs : Scope} {a : Addr} {ccd : Value} {cl : List (Str × Addr)} {outer : List Env} {A₀ : Around} {base h₀ : Heap} {L : Addr} {m : Str → Option Value} {s : Shared} {Q E : Value → Shared → Prop}
    {src : Addr} {P q : Int} {t1 t2 : Tok} {n : Nat} {news : List (Addr × Obj)} {upd : Obj → List (Addr × Obj)}
    (B : Below A₀ base outer h₀) (F : Fr h₀ L s.heap m) (X : (kdef.heap_1 w.params).In h₀) (N : News h₀ L s.heap (news)) (T : Top p loose mean mg mb h₀) (hk : cs.kind = .function) (hroom : dp + 5 < recursionLimit) (hu : un + 64 < cLine) (hU : ∀ o', Upd src (PySem.W.listOf #[.int P t1, .int q t2] n) o' news (upd o')) (hP : 0 ≤ P) (hq : 0 ≤ q ∧ q < 2147483647)
    (ret : ∀ (c : Addr) (vs : List Value) (ps : List (Int × Int)) (tl : List (Addr × Obj)) (P' q' : Int) (t1' t2' : Tok) (h' : Heap) (tk' : Nat), Fr h₀ L h' m → News h₀ L h' (((c, LCg.lst vs) :: tl) ++ upd (PySem.W.listOf #[.int P' t1', .int q' t2'] n)) → (∀ p ∈ (c, LCg.lst vs) :: tl, ∀ q ∈ news, p.1 ≠ q.1) → 0 ≤ P' → (0 ≤ q' ∧ q' < 2147483647) → PtsAt tl vs ps → ps ≠ [] → ps.length ≤ 3 → Q (.ref c) { s with heap := h', toks := tk' }) :
    wpAny (model prog w) (ktrTop dp un gd cn cs L a ccd cl outer) (call (.ref 273) [.ref src]) Q E s := by
  obtain ⟨own, h1, h2, h3, h4⟩ := upd_norm hU
  refine con_c B F X (fun p hp => N p (h2 p hp)) T hk hroom hu h1 hP hq fun c vs ps tl P' q' t1' t2' h' tk' F' N' hs ho hP' hq' hps hne hlen => ret c vs ps tl P' q' t1' t2' h' tk' F' (fun p hp => N' p ?_) (fun p hp r hr => ?_) hP' hq' hps hne hlen
  · rcases List.mem_append.mp hp with hp | hp
    · exact .tail _ (List.mem_append.mpr (.inl hp))
    · rcases List.mem_cons.mp (h3 _ p hp) with rfl | hp
      · exact .head _
      · exact .tail _ (List.mem_append.mpr (.inr hp))
  · rcases h4 r hr with e | hr
    · rw [e]; exact hs p hp
    · exact ho p hp r hr
end

section
section
variable {prog : Program} {w : World} {A : Around} {E : Value → Shared → Prop} {s : Shared} {env : Env} {h₀ : Heap} {target : Expr} {body : List Stmt} {Q : Flow → Shared → Prop}

def ForEnd (h₀ : Heap) (L I : Addr) (oI : Obj) (r : Addr × Obj) (J : (Str → Option Value) → List (Addr × Obj) → Prop) (s₁ : Shared) (f : Flow) (s₂ : Shared) : Prop :=
  f = .next ∧ ∃ h' tk m' nw', s₂ = { s₁ with heap := h', toks := tk } ∧ Fr h₀ L h' m' ∧ News h₀ L h' ((I, oI) :: nw') ∧ (∀ p ∈ nw', p.1 ≠ I) ∧ r ∈ nw' ∧ J m' nw'

theorem ForEnd.intro {L I : Addr} {oI : Obj} {r : Addr × Obj} {J : (Str → Option Value) → List (Addr × Obj) → Prop} {s₁ : Shared} {h' : Heap} {tk : Nat} {m' : Str → Option Value} {all : List (Addr × Obj)} (nw' : List (Addr × Obj))
    (F : Fr h₀ L h' m') (N : News h₀ L h' all) (sub : ∀ p ∈ (I, oI) :: nw', p ∈ all) (off : ∀ p ∈ nw', p.1 ≠ I) (hr : r ∈ nw') (hJ : J m' nw') : ForEnd h₀ L I oI r J s₁ .next { s₁ with heap := h', toks := tk } :=
  ⟨rfl, h', tk, m', nw', rfl, F, fun p hp => N p (sub p hp), off, hr, hJ⟩

theorem ForEnd.k1 {L I : Addr} {oI : Obj} {r x1 : Addr × Obj} {J : (Str → Option Value) → List (Addr × Obj) → Prop} {s₁ : Shared} {h' : Heap} {tk : Nat} {m' : Str → Option Value} {nw : List (Addr × Obj)}
    (F : Fr h₀ L h' m') (N : News h₀ L h' (x1 :: (I, oI) :: nw)) (l1 : @LT.lt Nat _ I x1.1 ∧ AllLt x1.1 nw) (off : ∀ p ∈ nw, p.1 ≠ I) (hr : r ∈ nw) (hJ : J m' (x1 :: nw)) : ForEnd h₀ L I oI r J s₁ .next { s₁ with heap := h', toks := tk } := by
  refine ForEnd.intro (x1 :: nw) F N (fun p hp => ?_) (fun p hp => ?_) (.tail _ hr) hJ
  · simp only [List.mem_cons] at hp ⊢
    rcases hp with h|h|h <;> simp only [h, true_or, or_true]
  · rcases List.mem_cons.mp hp with rfl | hp
    · exact Nat.ne_of_gt l1.1
    · exact off p hp
theorem ForEnd.k2 {L I : Addr} {oI : Obj} {r x1 x2 : Addr × Obj} {J : (Str → Option Value) → List (Addr × Obj) → Prop} {s₁ : Shared} {h' : Heap} {tk : Nat} {m' : Str → Option Value} {nw : List (Addr × Obj)}
    (F : Fr h₀ L h' m') (N : News h₀ L h' (x1 :: x2 :: (I, oI) :: nw)) (l1 : @LT.lt Nat _ x2.1 x1.1 ∧ @LT.lt Nat _ I x1.1 ∧ AllLt x1.1 nw) (l2 : @LT.lt Nat _ I x2.1 ∧ AllLt x2.1 nw) (off : ∀ p ∈ nw, p.1 ≠ I) (hr : r ∈ nw) (hJ : J m' (x1 :: x2 :: nw)) : ForEnd h₀ L I oI r J s₁ .next { s₁ with heap := h', toks := tk } := by
  refine ForEnd.intro (x1 :: x2 :: nw) F N (fun p hp => ?_) (fun p hp => ?_) (.tail _ (.tail _ hr)) hJ
  · simp only [List.mem_cons] at hp ⊢
    rcases hp with h|h|h|h <;> simp only [h, true_or, or_true]
  · simp only [List.mem_cons] at hp
    rcases hp with rfl | rfl | hp
    · exact Nat.ne_of_gt l1.2.1
    · exact Nat.ne_of_gt l2.1
    · exact off p hp
theorem ForEnd.k3 {L I : Addr} {oI : Obj} {r x1 x2 x3 : Addr × Obj} {J : (Str → Option Value) → List (Addr × Obj) → Prop} {s₁ : Shared} {h' : Heap} {tk : Nat} {m' : Str → Option Value} {nw : List (Addr × Obj)}
    (F : Fr h₀ L h' m') (N : News h₀ L h' (x1 :: x2 :: x3 :: (I, oI) :: nw)) (l1 : @LT.lt Nat _ x2.1 x1.1 ∧ @LT.lt Nat _ x3.1 x1.1 ∧ @LT.lt Nat _ I x1.1 ∧ AllLt x1.1 nw) (l2 : @LT.lt Nat _ x3.1 x2.1 ∧ @LT.lt Nat _ I x2.1 ∧ AllLt x2.1 nw) (l3 : @LT.lt Nat _ I x3.1 ∧ AllLt x3.1 nw) (off : ∀ p ∈ nw, p.1 ≠ I) (hr : r ∈ nw) (hJ : J m' (x1 :: x2 :: x3 :: nw)) : ForEnd h₀ L I oI r J s₁ .next { s₁ with heap := h', toks := tk } := by
  refine ForEnd.intro (x1 :: x2 :: x3 :: nw) F N (fun p hp => ?_) (fun p hp => ?_) (.tail _ (.tail _ (.tail _ hr))) hJ
  · simp only [List.mem_cons] at hp ⊢
    rcases hp with h|h|h|h|h <;> simp only [h, true_or, or_true]
  · simp only [List.mem_cons] at hp
    rcases hp with rfl | rfl | rfl | hp
    · exact Nat.ne_of_gt l1.2.2.1
    · exact Nat.ne_of_gt l2.2.1
    · exact Nat.ne_of_gt l3.1
    · exact off p hp

/-- a for over a list of the ledger, by a word J over the frame's map and the ledger; any target -/
theorem for_led {ax : Addr} {its : List Value} {k : Nat} {m₀ : Str → Option Value} {news : List (Addr × Obj)} (J : Nat → (Str → Option Value) → List (Addr × Obj) → Prop)
    (hh : A.handled = none) (F : Fr h₀ env.locals s.heap m₀) (N : News h₀ env.locals s.heap news) (hm : (ax, PySem.W.listOf its.toArray k) ∈ news) (h0 : J 0 m₀ news)
    (turn : ∀ i v m₁ nw I oI (s₁ : Shared), its[i]? = some v → J i m₁ nw → (ax, PySem.W.listOf its.toArray k) ∈ nw → (∀ p ∈ nw, p.1 ≠ I) → Fr h₀ env.locals s₁.heap m₁ → News h₀ env.locals s₁.heap ((I, oI) :: nw) →
      wpAny (model prog w) A (assign target env v) (fun _ s₃ => wpAny (model prog w) A (execs body env) (ForEnd h₀ env.locals I oI (ax, PySem.W.listOf its.toArray k) (J (i + 1)) s₁) E s₃) E s₁)
    (done : ∀ m₁ nw h tk, J its.length m₁ nw → Fr h₀ env.locals h m₁ → News h₀ env.locals h nw → Q .next { s with heap := h, toks := tk }) :
    wpAny (model prog w) A (pyIter (.ref ax)) (fun it s₂ => LoopAtT prog w A h₀ env target body Q E it s₂) E s := by
  have hl : s.heap.IsList ax its.toArray := N.isList hm
  have hlt : ax < s.heap.objs.size := Heap.lt_size (N _ hm).1
  have hax : h₀.get? ax = none := (N _ hm).2.2
  have hne : ax ≠ s.heap.objs.size := Nat.ne_of_lt hlt
  refine wpAny_pyIter_list hl ?_
  have Wk := Walks.list (prog := prog) (w := w) hh s.heap.objs.size ax hne its.toArray
  have hsz : its.toArray.size = its.length := by simp
  rw [hsz] at Wk
  refine ⟨_, _, _, its.length, _, _, m₀, news, fun i m nw => J i m nw ∧ (ax, PySem.W.listOf its.toArray k) ∈ nw, rfl, Wk, ?_, ?_, ?_, ⟨⟨_, Heap.get?_push_size _ rfl, rfl, rfl⟩, hl.push _⟩, F.push _, (fun p hp => ⟨Heap.get?_push_of_some _ (N p hp).1, (N p hp).2⟩), ?_, ⟨h0, hm⟩, ?_, ?_⟩
  · intro hmm
    rcases List.mem_cons.mp hmm with e | hmm
    · exact absurd F.ns.lt (e ▸ Nat.lt_irrefl _)
    · exact (N _ hm).2.1 (List.mem_singleton.mp hmm).symm
  · intro b hb
    rw [List.mem_singleton.mp hb]
    exact next_is_new F
  · intro p hp hI
    exact absurd (Heap.lt_size (N p hp).1) ((List.mem_singleton.mp hI) ▸ Nat.lt_irrefl _)
  · intro i s' v Q' st q
    exact letGo_listiter st.1 q
  · rintro i v m₁ nw s₁ own hin hP ⟨hJ, hmem⟩ hoff hown hget hfp st F₁ N₁
    have hI0 : h₀.get? s.heap.objs.size = none := next_is_new F
    obtain ⟨oI, hoI, _⟩ := id st.1
    have hIo : (s.heap.objs.size, oI) ∈ own := hfp _ (.head _) hI0 oI hoI
    have offI : ∀ p ∈ nw, p.1 ≠ s.heap.objs.size := fun p hp e => hoff p hp (by rw [e]; exact .head _)
    have N₂ : News h₀ env.locals s₁.heap ((s.heap.objs.size, oI) :: nw) := fun p hp => by
      rcases List.mem_cons.mp hp with rfl | hp
      · exact N₁ _ (List.mem_append.mpr (.inl hIo))
      · exact N₁ _ (List.mem_append.mpr (.inr hp))
    have hP' : its[i]? = some v := by simpa using hP
    refine wpAny_mono (turn i v m₁ nw _ oI s₁ hP' hJ hmem offI F₁ N₂) (fun _ s₃ h₃ => wpAny_mono h₃ (fun f s₄ h₄ => ?_) fun _ _ e => e) fun _ _ e => e
    obtain ⟨rfl, h', tk, m', nw', rfl, F', N', off', hr', hJ'⟩ := h₄
    refine ⟨rfl, h', tk, m', nw', rfl, F', fun p hp => ?_, fun p hp hq => off' p hp (List.mem_singleton.mp hq), hJ', hr'⟩
    rcases List.mem_append.mp hp with hp | hp
    · have e1 := hget p hp
      rcases List.mem_cons.mp (hown p hp) with e | e
      · obtain ⟨b, o⟩ := p
        dsimp only at e e1
        subst e
        rw [hoI] at e1
        cases e1
        exact N' _ (.head _)
      · obtain ⟨b, o⟩ := p
        dsimp only at e e1
        rw [List.mem_singleton.mp e] at e1 ⊢
        have := (N₁ _ (List.mem_append.mpr (.inr hmem))).1
        dsimp only at this
        rw [this] at e1
        cases e1
        exact N' _ (.tail _ hr')
    · exact N' _ (.tail _ hp)
  · rintro h' tk m' nw' F' N' _ ⟨hJ, _⟩
    exact done m' nw' h' tk hJ F' N'
end

section
variable {prog : Program} {w : World} {A : Around} {E : Value → Shared → Prop} {s : Shared} {h₀ : Heap} {L : Addr} {m : Str → Option Value} {news : List (Addr × Obj)} {Q : Value → Shared → Prop}
theorem list_copyL {l : Addr} {ws : List Value} {k : Nat} (F : Fr h₀ L s.heap m) (N : News h₀ L s.heap news) (hm : (l, PySem.W.listOf ws.toArray k) ∈ news) (hsz : ws.length ≤ 16777216)
    (h : ∀ D c h', Fr h₀ L h' m → News h₀ L h' ((D, PySem.W.listOf ws.toArray c) :: news) → (∀ q ∈ news, q.1 < D) → Q (.ref D) { s with heap := h' }) :
    wpAny (model prog w) A (call (.type "list") [.ref l]) Q E s :=
  list_copyK F N (N.isList hm) h (by rw [sizeLine_eq, List.size_toArray]; exact hsz)
theorem add_listL {a b : Addr} {vs ws : List Value} {k l : Nat} (F : Fr h₀ L s.heap m) (N : News h₀ L s.heap news) (ha : (a, PySem.W.listOf vs.toArray k) ∈ news) (hb : (b, PySem.W.listOf ws.toArray l) ∈ news) (hsz : vs.length + ws.length ≤ 16777216)
    (h : ∀ D h', Fr h₀ L h' m → News h₀ L h' ((D, PySem.W.listOf (vs ++ ws).toArray 0) :: news) → (∀ p ∈ news, p.1 < D) → Q (.ref D) { s with heap := h' }) :
    wpAny (model prog w) A (binaryOp .Add (.ref a) (.ref b)) Q E s :=
  kmk_add_lit F N (N.isList ha) (N.isList hb) (by simp) h (by rw [sizeLine_eq]; simpa using hsz)
theorem len_listL {l : Addr} {ws : List Value} {k : Nat} (N : News h₀ L s.heap news) (hm : (l, PySem.W.listOf ws.toArray k) ∈ news) (hsz : ws.length ≤ 16777216)
    (h : Q (.int ws.length (s.toks + 1)) { s with toks := s.toks + 1 + 1 }) : wpAny (model prog w) A (call (.builtin "len") [.ref l]) Q E s := by
  refine Calls.call_len_list (N.isList hm) (by rw [List.size_toArray]; omega) ?_
  rw [List.size_toArray]
  exact h
end
end

section
/-- a list of contours -/
inductive ConsAt (ν : List (Addr × Obj)) : List Value → List (List (Int × Int)) → Prop
  | nil : ConsAt ν [] []
  | cons {c : Addr} {ws : List Value} {k : Nat} {ps : List (Int × Int)} {vs : List Value} {cs : List (List (Int × Int))} : (c, PySem.W.listOf ws.toArray k) ∈ ν → PtsAt ν ws ps → ws.length ≤ 3 → ConsAt ν vs cs → ConsAt ν (.ref c :: vs) (ps :: cs)
theorem ConsAt.mono {ν ν' : List (Addr × Obj)} (hs : ∀ p ∈ ν, p ∈ ν') {vs : List Value} {cs : List (List (Int × Int))} (h : ConsAt ν vs cs) : ConsAt ν' vs cs := by
  induction h with
  | nil => exact .nil
  | cons hm hp hl _ ih => exact .cons (hs _ hm) (hp.mono hs) hl ih
theorem ConsAt.append {ν : List (Addr × Obj)} {vs ws : List Value} {ps qs : List (List (Int × Int))} (h : ConsAt ν vs ps) (k : ConsAt ν ws qs) : ConsAt ν (vs ++ ws) (ps ++ qs) := by
  induction h with
  | nil => exact k
  | cons hm hp hl _ ih => exact .cons hm hp hl ih
theorem ConsAt.length {ν : List (Addr × Obj)} {vs : List Value} {ps : List (List (Int × Int))} (h : ConsAt ν vs ps) : vs.length = ps.length := by
  induction h with
  | nil => rfl
  | cons _ _ _ _ ih => simp [ih]
theorem ConsAt.get {ν : List (Addr × Obj)} {vs : List Value} {cs : List (List (Int × Int))} (h : ConsAt ν vs cs) : ∀ {i : Nat} {v : Value}, vs[i]? = some v → ∃ c ws k ps, v = .ref c ∧ cs[i]? = some ps ∧ (c, PySem.W.listOf ws.toArray k) ∈ ν ∧ PtsAt ν ws ps ∧ ws.length ≤ 3 := by
  induction h with
  | nil => intro i v e; simp at e
  | @cons c ws k ps vs cs hm hp hl _ ih =>
    intro i v e
    cases i with
    | zero => simp at e; exact ⟨c, ws, k, ps, e.symm, by simp, hm, hp, hl⟩
    | succ i => simpa using ih (by simpa using e)

section
set_option maxHeartbeats 400000 in
theorem pts_c {prog : Program} {w : World} {p : Program} {loose : List Str} {mean : ExcName → Option Value} {mg mb : Str → Option Value}
    {dp un : Nat} {gd : Option (List Code)} {cn : Str} {cs : Scope} {a : Addr} {ccd : Value} {cl : List (Str × Addr)} {outer : List Env} {A₀ : Around} {base h₀ : Heap} {L : Addr} {m : Str → Option Value} {s : Shared} {Q E : Value → Shared → Prop}
    {o d c : Addr} {h1 h2 : Int} {t1 t2 : Tok} {vi : Value} {k : Nat} {vs : List Value} {cs' : List (List (Int × Int))} {own : List (Addr × Obj)}
    (B : Below A₀ base outer h₀) (F : Fr h₀ L s.heap m) (X : (kdef.heap_1 w.params).In h₀) (N : News h₀ L s.heap (own)) (T : Top p loose mean mg mb h₀) (hk : cs.kind = .function) (hroom : dp + 3 < recursionLimit) (hu : un + 32 < cLine) (ho : (o, instObj 236 d) ∈ own) (hdd : (d, dictOf [⟨h1, .str "contours" t1, .ref c⟩, ⟨h2, .str "instructions" t2, vi⟩] 2) ∈ own) (hc : (c, PySem.W.listOf vs.toArray k) ∈ own) (hcs : ConsAt own vs cs') (hcl : cs'.length ≤ 100)
    (ret : ∀ (f : Addr) (ws : List Value) (kk : Nat) (h' : Heap) (tk' : Nat), Fr h₀ L h' m → News h₀ L h' ((f, PySem.W.listOf ws.toArray kk) :: own) → (∀ p ∈ own, p.1 < f) → PtsAt own ws cs'.flatten → ws.length ≤ 300 → Q (.ref f) { s with heap := h', toks := tk' }) :
    wpAny (model prog w) (ktrTop dp un gd cn cs L a ccd cl outer) (call (.ref 214) [.ref o]) Q E s := by
  k_with_none
  k_with "ne" => (refine neN ?_; (try dsimp only); first | with_reducible assumption | with_reducible exact Ne.symm (by assumption) | with_reducible exact And.left (by assumption) | with_reducible exact Ne.symm (And.left (by assumption)) | with_reducible exact And.left (And.right (by assumption)) | with_reducible exact Ne.symm (And.left (And.right (by assumption))) | with_reducible exact And.right (by assumption) | with_reducible exact Ne.symm (And.right (by assumption)) | with_reducible exact And.left (And.right (And.right (by assumption))) | with_reducible exact Ne.symm (And.left (And.right (And.right (by assumption)))) | with_reducible exact And.right (And.right (by assumption)) | with_reducible exact Ne.symm (And.right (And.right (by assumption))) | with_reducible exact And.left (And.right (And.right (And.right (by assumption)))) | with_reducible exact Ne.symm (And.left (And.right (And.right (And.right (by assumption))))) | with_reducible exact And.right (And.right (And.right (by assumption))) | with_reducible exact Ne.symm (And.right (And.right (And.right (by assumption)))) | with_reducible exact Nat.ne_of_gt (And.left (by assumption)) | with_reducible exact Nat.ne_of_lt (And.left (by assumption)) | with_reducible exact Nat.ne_of_gt (And.left (And.right (by assumption))) | with_reducible exact Nat.ne_of_lt (And.left (And.right (by assumption))) | with_reducible exact Nat.ne_of_gt (And.left (And.right (And.right (by assumption)))) | with_reducible exact Nat.ne_of_lt (And.left (And.right (And.right (by assumption)))) | with_reducible exact Nat.ne_of_gt (And.left (And.right (And.right (And.right (by assumption))))) | with_reducible exact Nat.ne_of_lt (And.left (And.right (And.right (And.right (by assumption))))) | with_reducible exact Nat.ne_of_gt (And.left (And.right (And.right (And.right (And.right (by assumption)))))) | with_reducible exact Nat.ne_of_lt (And.left (And.right (And.right (And.right (And.right (by assumption)))))) | with_reducible exact Nat.ne_of_gt (And.left (And.right (And.right (And.right (And.right (And.right (by assumption))))))) | with_reducible exact Nat.ne_of_lt (And.left (And.right (And.right (And.right (And.right (And.right (by assumption))))))) | with_reducible exact Nat.ne_of_gt (And.left (And.right (And.right (And.right (And.right (And.right (And.right (by assumption)))))))) | with_reducible exact Nat.ne_of_lt (And.left (And.right (And.right (And.right (And.right (And.right (And.right (by assumption)))))))) | with_reducible exact Nat.ne_of_gt (And.left (And.right (And.right (And.right (And.right (And.right (And.right (And.right (by assumption))))))))) | with_reducible exact Nat.ne_of_lt (And.left (And.right (And.right (And.right (And.right (And.right (And.right (And.right (by assumption))))))))) | with_reducible exact Nat.ne_of_gt (And.left (And.right (And.right (And.right (And.right (And.right (And.right (And.right (And.right (by assumption)))))))))) | with_reducible exact Nat.ne_of_lt (And.left (And.right (And.right (And.right (And.right (And.right (And.right (And.right (And.right (by assumption)))))))))) | omega)
  k_with "exec For" => (k_here; k_dflt (refine' For_invTF (by k_asm) ?_ (by intro _; rfl)))
  k_with "exec For Name Attribute cons nil" => (k_here; k_dflt (refine' For_invTF (by k_asm) ?_ (by intro _; rfl)))
  k_with "exec For Name Name cons nil" => (k_here; k_dflt (refine' For_invTF (by k_asm) ?_ (by intro _; rfl)))
  k_with "exec For Tuple Name cons nil" => (k_here; k_dflt (refine' For_invTF (by k_asm) ?_ (by intro _; rfl)))
  k_with "pyIter ref" => (k_dflt (refine held ?_))
  k_with "call type:list" => (k_here; (with_reducible show wpAny _ _ (call (Value.type _) [Value.ref _]) _ _ _); k_dflt (refine' list_copyL ?zzqF ?zzqN ?zzqb ?zzqz ?_; (case zzqF => k_asm); (case zzqN => k_asm); (case zzqb => k_mem); (case zzqz => first | omega | (simp only [List.length_append]; omega)); k_whole); intros; (try (rename_i l1; k_lt l1; revert l1; intro _)); (try k_sweep))
  k_with "binaryOp Add ref ref" => (k_here; (with_reducible show wpAny _ _ (binaryOp _ (Value.ref _) (Value.ref _)) _ _ _); k_dflt (refine' add_listL ?zzqF ?zzqN ?zzqa ?zzqb ?zzqz ?_; (case zzqF => k_asm); (case zzqN => k_asm); (case zzqa => k_mem); (case zzqb => k_mem); (case zzqz => first | omega | (simp only [List.length_append]; omega)); k_whole); intros; (try (rename_i l1; k_lt l1; revert l1; intro _)); (try k_sweep))
  refine wpAny_call ?_
  k_dflt cell_enter
  k_steps
  rename_i l' _ l9 h9 F9 N9
  refine Held.go ?_
  refine for_led (fun i m nw => ∃ u f ws kk, m = (fun z => if z = Str.ofString "contour" then u else if z = Str.ofString "found" then some (.ref f) else List.lookup z [(Str.ofString "self", Value.ref o)]) ∧ (f, PySem.W.listOf ws.toArray kk) ∈ nw ∧ (∀ p ∈ own, p ∈ nw) ∧ PtsAt own ws ((cs'.take i).flatten) ∧ ws.length ≤ 3 * i ∧ ∀ p ∈ own, p.1 < f)
    (by rfl) F9 N9 (.tail _ hc) ⟨none, l', [], _, ?_, .head _, (fun p hp => .tail _ hp), .nil, Nat.le_refl _, l9⟩ ?_ ?_
  · funext z
    by_cases h1 : z = Str.ofString "contour"
    · subst h1; rfl
    · simp only [h1, if_false]; rfl
  · rintro i v m₁ nw I oI s₁ hv ⟨u, f, ws, kk, rfl, hf, hown, hps, hlen, hfr⟩ hcn offI F10 N10
    obtain ⟨c', ws', k', ps', rfl, hcs', hc', hps', hl'⟩ := hcs.get hv
    have hc'' := hown _ hc'
    have hi : i < cs'.length := (List.getElem?_eq_some_iff.mp hcs').1
    (try dsimp only)
    (try k_fold)
    k_steps
    rename_i D1 c1 h1 l1 D2 h2 l2 h3 F3 N3
    refine ForEnd.intro ((D2, _) :: nw) F3 N3 (fun p hp => ?_) (fun p hp => ?_) (.tail _ hcn) ⟨some (.ref c'), D2, ws ++ ws', 0, ?_, .head _, fun p hp => .tail _ (hown p hp), ?_, ?_, fun p hp => tb_ltOf l2.2.2 p (hown p hp)⟩
    · simp only [List.mem_cons] at hp ⊢
      rcases hp with h|h|h <;> simp only [h, true_or, or_true]
    · rcases List.mem_cons.mp hp with rfl | hp
      · exact Nat.ne_of_gt l2.2.1
      · exact offI p hp
    · funext z
      have e : Str.ofString "found" ≠ Str.ofString "contour" := by decide
      by_cases h1 : z = Str.ofString "contour" <;> by_cases h2 : z = Str.ofString "found" <;> simp_all
    · have e : (cs'.take (i + 1)).flatten = (cs'.take i).flatten ++ ps' := by rw [List.take_add_one, hcs']; simp
      rw [e]
      exact hps.append hps'
    · rw [List.length_append]; omega
  · rintro m₁ nw h tk ⟨u, f, ws, kk, rfl, hf, hown, hps, hlen, hfr⟩ F10 N10
    have hlcs := hcs.length
    (try dsimp only)
    k_steps
    rename_i kN _ _
    rw [hlcs, List.take_length] at hps
    refine ret f ws kk _ _ (by k_asm) (fun p hp => kN p ?_) hfr hps (by omega)
    rcases List.mem_cons.mp hp with rfl | hp
    · exact hf
    · exact hown p hp
end

/-- an outline of the ledger, with its contours -/
def OutAt (ν : List (Addr × Obj)) (o : Addr) (css : List (List (Int × Int))) : Prop :=
  ∃ d c h1 h2 t1 t2 vi k vs, (o, instObj 236 d) ∈ ν ∧ (d, dictOf [⟨h1, .str "contours" t1, .ref c⟩, ⟨h2, .str "instructions" t2, vi⟩] 2) ∈ ν ∧ (c, PySem.W.listOf (List.toArray vs) k) ∈ ν ∧ ConsAt ν vs css ∧ css.length ≤ 100
theorem OutAt.mono {ν ν' : List (Addr × Obj)} (hs : ∀ p ∈ ν, p ∈ ν') {o : Addr} {css : List (List (Int × Int))} : OutAt ν o css → OutAt ν' o css :=
  fun ⟨d, c, h1, h2, t1, t2, vi, k, vs, a, b, e, f, g⟩ => ⟨d, c, h1, h2, t1, t2, vi, k, vs, hs _ a, hs _ b, hs _ e, f.mono hs, g⟩

theorem pts_u {prog : Program} {w : World} {p : Program} {loose : List Str} {mean : ExcName → Option Value} {mg mb : Str → Option Value}
    {dp un : Nat} {gd : Option (List Code)} {cn : Str} {cs : Scope} {a : Addr} {ccd : Value} {cl : List (Str × Addr)} {outer : List Env} {A₀ : Around} {base h₀ : Heap} {L : Addr} {m : Str → Option Value} {s : Shared} {Q E : Value → Shared → Prop}
    {o : Addr} {css : List (List (Int × Int))} {own : List (Addr × Obj)}
    (B : Below A₀ base outer h₀) (F : Fr h₀ L s.heap m) (X : (kdef.heap_1 w.params).In h₀) (N : News h₀ L s.heap (own)) (T : Top p loose mean mg mb h₀) (hk : cs.kind = .function) (hroom : dp + 3 < recursionLimit) (hu : un + 32 < cLine) (ho : OutAt own o css)
    (ret : ∀ (f : Addr) (ws : List Value) (kk : Nat) (h' : Heap) (tk' : Nat), Fr h₀ L h' m → News h₀ L h' ((f, PySem.W.listOf ws.toArray kk) :: own) → (∀ p ∈ own, p.1 < f) → PtsAt own ws css.flatten → ws.length ≤ 300 → Q (.ref f) { s with heap := h', toks := tk' }) :
    wpAny (model prog w) (ktrTop dp un gd cn cs L a ccd cl outer) (call (.ref 214) [.ref o]) Q E s := by
  obtain ⟨d, c, h1, h2, t1, t2, vi, k, vs, a, b, e, f, g⟩ := ho
  exact pts_c B F X N T hk hroom hu a b e f g ret
end

section
set_option maxHeartbeats 2000000
open PySem.Spec PySem.Calls
section
variable {prog : Program} {w : World} {A : Around} {E : Value → Shared → Prop} {s : Shared} {h₀ : Heap} {L : Addr} {m : Str → Option Value}

/-- a clause's loop of a list comprehension, at any depth: what one turn does is handed in as an equation -/
theorem loop_eq {elt target : Expr} {gens : List Comprehension} {scope : Scope} {pos ip : Pos} {depth : Nat} {it acc : Value} {env : Env} {R : Result → Shared → Prop} {body : Sem Unit}
    (hturn : compTurn (.ListComp elt gens scope pos) depth it acc env = (standAt ip >>= fun _ => pyNext it >>= fun r => match r with
      | none => pure (.done .next)
      | some v => letOwnedTupleGo target it v >>= fun _ => assign target env v >>= fun _ => body >>= fun _ => again (.compLoop (.ListComp elt gens scope pos) depth it acc env)))
    (I : Nat → Shared → Prop)
    (turn : ∀ n s, I n s → wpAny (model prog w) A (pyNext it) (fun r s₁ => match r with
      | none => R (.ok .next) s₁
      | some v => wpAny (model prog w) A (letOwnedTupleGo target it v) (fun _ s₂ => wpAny (model prog w) A (assign target env v) (fun _ s₃ => wpAny (model prog w) A body (fun _ s₄ => ∃ m, m < n ∧ I m s₄)
          (notedBy (model prog w) A env fun e s' => R (.error e) s') s₃) (notedBy (model prog w) A env fun e s' => R (.error e) s') s₂) (notedBy (model prog w) A env fun e s' => R (.error e) s') s₁) (notedBy (model prog w) A env fun e s' => R (.error e) s') s)
    (n : Nat) (h : I n s) : codeAny (model prog w) A (.compLoop (.ListComp elt gens scope pos) depth it acc env) R s := by
  refine codeAny_loop rfl I (fun n s hI => ?_) n h
  show wpAny _ A ((compTurn (.ListComp elt gens scope pos) depth it acc env).onRaise (fun x => do noteFrame x env; theTreesLotGoes x)) _ _ s
  refine wpAny_noted ?_
  rw [hturn]
  refine wpAny_bind (wpAny_standAt (wpAny_bind (wpAny_mono (turn n s hI) (fun r s₁ h₁ => ?_) fun _ _ h' => h')))
  cases r with
  | none => exact wpAny_pure h₁
  | some v =>
    refine wpAny_bind (wpAny_mono h₁ (fun _ s₂ h₂ => ?_) fun _ _ h' => h')
    refine wpAny_bind (wpAny_mono h₂ (fun _ s₃ h₃ => ?_) fun _ _ h' => h')
    exact wpAny_bind (wpAny_mono h₃ (fun _ s₄ h₄ => wpAny_pure ⟨rfl, h₄⟩) fun _ _ h' => h')

/-- what stands behind a turn of such a loop -/
def LEnd (h₀ : Heap) (L : Addr) (m : Str → Option Value) (I : Addr) (oI : Obj) (r : Addr × Obj) (J : List (Addr × Obj) → Prop) (s₁ s₂ : Shared) : Prop :=
  ∃ h' tk nw', s₂ = { s₁ with heap := h', toks := tk } ∧ Fr h₀ L h' m ∧ News h₀ L h' ((I, oI) :: nw') ∧ (∀ p ∈ nw', p.1 ≠ I) ∧ r ∈ nw' ∧ J nw'

theorem loop_led {elt target : Expr} {gens : List Comprehension} {scope : Scope} {pos ip : Pos} {depth : Nat} {acc : Value} {env : Env} {R : Result → Shared → Prop} {body : Sem Unit} {I ax : Addr} {its : List Value} {k : Nat} {news : List (Addr × Obj)}
    (hturn : compTurn (.ListComp elt gens scope pos) depth (.ref I) acc env = (standAt ip >>= fun _ => pyNext (.ref I) >>= fun r => match r with
      | none => pure (.done .next)
      | some v => letOwnedTupleGo target (.ref I) v >>= fun _ => assign target env v >>= fun _ => body >>= fun _ => again (.compLoop (.ListComp elt gens scope pos) depth (.ref I) acc env)))
    (J : Nat → List (Addr × Obj) → Prop) (hh : A.handled = none) (F : Fr h₀ L s.heap m) (N : News h₀ L s.heap news) (hm : (ax, PySem.W.listOf its.toArray k) ∈ news) (hoff : ∀ p ∈ news, p.1 ≠ I) (hI0 : h₀.get? I = none) (hIL : I ≠ L) (hI : s.heap.IsListIter I ax 0) (h0 : J 0 news)
    (turn : ∀ i v nw oI (s₁ : Shared) (E' : Value → Shared → Prop), its[i]? = some v → J i nw → (ax, PySem.W.listOf its.toArray k) ∈ nw → (∀ p ∈ nw, p.1 ≠ I) → Fr h₀ L s₁.heap m → News h₀ L s₁.heap ((I, oI) :: nw) →
      wpAny (model prog w) A (assign target env v) (fun _ s₂ => wpAny (model prog w) A body (fun _ s₃ => LEnd h₀ L m I oI (ax, PySem.W.listOf its.toArray k) (J (i + 1)) s₁ s₃) E' s₂) E' s₁)
    (done : ∀ nw h tk, J its.length nw → Fr h₀ L h m → News h₀ L h nw → R (.ok .next) { s with heap := h, toks := tk }) :
    codeAny (model prog w) A (.compLoop (.ListComp elt gens scope pos) depth (.ref I) acc env) R s := by
  have hne : ax ≠ I := hoff _ hm
  have Wk := Walks.list (prog := prog) (w := w) hh I ax hne its.toArray
  have hsz : its.toArray.size = its.length := by simp
  rw [hsz] at Wk
  refine loop_eq hturn (fun n s' => ∃ h' tk i nw, s' = { s with heap := h', toks := tk } ∧ i ≤ its.length ∧ n = its.length + 1 - i ∧ h'.IsListIter I ax i ∧ Fr h₀ L h' m ∧ News h₀ L h' nw ∧ (ax, PySem.W.listOf its.toArray k) ∈ nw ∧ (∀ p ∈ nw, p.1 ≠ I) ∧ J i nw) ?_ (its.length + 1)
    ⟨s.heap, s.toks, 0, news, rfl, Nat.zero_le _, rfl, hI, F, N, hm, hoff, h0⟩
  rintro n s' ⟨h', tk, i, nw, rfl, hi, rfl, hit, F', N', hm', hoff', hJ⟩
  have step : ∀ h₁ : Heap, (∀ b o, b ∉ [I] → h'.get? b = some o → h₁.get? b = some o) → Fr h₀ L h₁ m ∧ News h₀ L h₁ nw := fun h₁ hk =>
    ⟨⟨F'.ns.at' fun o e => hk L o (by simpa using Ne.symm hIL) e, fun b o e => hk b o (fun q => by rw [List.mem_singleton.mp q, hI0] at e; cases e) (F'.keep b o e), F'.above⟩,
      fun p hp => ⟨hk _ _ (by simpa using hoff' p hp) (N' p hp).1, (N' p hp).2⟩⟩
  by_cases hlt : i < its.length
  · refine Wk.item i _ _ _ hlt ⟨hit, N'.isList hm'⟩ fun v h₁ tk₁ hv st hk => ?_
    obtain ⟨F₁, N₁⟩ := step h₁ hk
    have hv' : its[i]? = some v := by simpa using hv
    obtain ⟨oI, hoI, hcI, hdI⟩ := id st.1
    have N₂ : News h₀ L h₁ ((I, oI) :: nw) := fun p hp => by
      rcases List.mem_cons.mp hp with rfl | hp
      · exact ⟨hoI, hIL, hI0⟩
      · exact N₁ p hp
    refine letGo_listiter st.1 ?_
    refine wpAny_mono (turn i v nw oI { s with heap := h₁, toks := tk₁ } _ hv' hJ hm' hoff' F₁ N₂) (fun _ s₂ h₂ => wpAny_mono h₂ (fun _ s₃ h₃ => ?_) fun _ _ e => e) fun _ _ e => e
    obtain ⟨h₄, tk₄, nw', rfl, F₄, N₄, off₄, hr₄, hJ₄⟩ := h₃
    exact ⟨its.length + 1 - (i + 1), by omega, h₄, tk₄, i + 1, nw', rfl, hlt, rfl, ⟨oI, (N₄ _ (.head _)).1, hcI, hdI⟩, F₄, fun p hp => N₄ p (.tail _ hp), hr₄, off₄, hJ₄⟩
  · obtain rfl : i = its.length := Nat.le_antisymm hi (Nat.not_lt.mp hlt)
    refine Wk.done _ _ _ ⟨hit, N'.isList hm'⟩ fun h₁ tk₁ hk => ?_
    obtain ⟨F₁, N₁⟩ := step h₁ hk
    exact done nw h₁ tk₁ hJ F₁ N₁

/-- names of the block bound: the block's names stand in the ledger -/
theorem bind_led {C : Addr} {oC : Obj} {nw : List (Addr × Obj)} {m₂ : Str → Option Value} {env : Env} {x : Str} {v : Value} {Q : Unit → Shared → Prop}
    (F : Fr h₀ L s.heap m) (N : News h₀ L s.heap ((C, oC) :: nw)) (hC : LCg.NsObj oC m₂) (off : ∀ p ∈ nw, p.1 ≠ C) (hloc : env.locals = C) (hx : env.kindOf x = some .local) (hp : (env.scope.kind == .class || (env.scope.kind == .module && env.locals != env.globals)) = false)
    (h : ∀ h' tk oC', LCg.NsObj oC' (fun z => if z = x then some v else m₂ z) → Fr h₀ L h' m → News h₀ L h' ((C, oC') :: nw) → Q () { s with heap := h', toks := tk }) :
    wpAny (model prog w) A (storeName env x v) Q E s := by
  subst hloc
  have zC := N _ (.head _)
  refine wpAny_storeName_local hx (hC.ns zC.1) (fun h' hn hs => ?_) hp
  obtain ⟨oC', heC, hoC'⟩ := LCg.ns_obj hn
  refine h h' _ oC' hoC' (F.change hs zC.2.1 zC.2.2) fun p hp => ?_
  rcases List.mem_cons.mp hp with rfl | hp
  · exact ⟨heC, zC.2⟩
  · have z := N _ (.tail _ hp)
    exact ⟨hs.extBut _ _ (off p hp) z.1, z.2⟩
end
end

section
set_option maxHeartbeats 2000000
open PySem.Spec PySem.Calls
section
variable {prog : Program} {w : World} {A : Around} {E : Value → Shared → Prop} {s : Shared} {h₀ : Heap} {L : Addr} {m : Str → Option Value} {env : Env}

def BEnd (h₀ : Heap) (L : Addr) (m : Str → Option Value) (C D : Addr) (Fin : List Value → List (Addr × Obj) → Prop) (s₂ : Shared) (r : Result) (s' : Shared) : Prop :=
  r = .ok .next ∧ ∃ h tk oC m₂ ys nw, s' = { s₂ with heap := h, toks := tk } ∧ Fr h₀ L h m ∧ News h₀ L h ((C, oC) :: (D, LCg.lst ys) :: nw) ∧ LCg.NsObj oC m₂ ∧ (∀ p ∈ nw, p.1 ≠ C ∧ p.1 ≠ D) ∧ D ≠ C ∧ Fin ys nw

/-- a block over a list of the ledger: its own names, the list that grows -/
theorem block_led0 {elt target iter : Expr} {ifs : List Expr} {rest : List Comprehension} {scope : Scope} {cl : List (Str × Addr)} {pos : Pos} {ax : Addr} {its : List Value} {k : Nat} {news : List (Addr × Obj)} {RR : Value → Addr → Result → Shared → Prop} {Fin : List Value → List (Addr × Obj) → Prop}
    (hcell : ∀ y ∈ scope.names, y.2 ≠ .cell) (hkind : scope.kind = .function)
    (F : Fr h₀ L s.heap m) (N : News h₀ L s.heap news) (hm : (ax, PySem.W.listOf its.toArray k) ∈ news)
    (loop : ∀ I C D oC m₂ (s₂ : Shared), (∃ h tk, s₂ = { s with heap := h, toks := tk }) → s₂.heap.IsListIter I ax 0 → LCg.NsObj oC m₂ → Fr h₀ L s₂.heap m → News h₀ L s₂.heap ((C, oC) :: (D, LCg.lst []) :: news) → (∀ p ∈ news, p.1 ≠ I ∧ p.1 ≠ C ∧ p.1 ≠ D) → ((@Ne Nat I C) ∧ (@Ne Nat I D) ∧ (@Ne Nat D C)) → h₀.get? I = none → I ≠ L →
      codeAny (model prog w) A (.compLoop (.ListComp elt (⟨target, iter, ifs, 0⟩ :: rest) scope pos) 0 (.ref I) (.ref D) (compEnvC scope cl C env)) (BEnd h₀ L m C D Fin s) s₂)
    (fin : ∀ C D r s', BEnd h₀ L m C D Fin s r s' → RR (.ref D) C r s') :
    wpAny (model prog w) A (pyIter (.ref ax)) (fun it s₂ => wpAny (model prog w) A (newList []) (fun acc s₃ => wpAny (model prog w) A (newFunctionEnv scope env.globals cl [] env.qual none .none (some env)) (fun cenv s₄ =>
      codeAny (model prog w) A (.compStart (.ListComp elt (⟨target, iter, ifs, 0⟩ :: rest) scope pos) 0 it acc { cenv with scope := relabel scope env }) (RR acc cenv.locals) s₄) E s₃) E s₂) E s := by
  have hl : s.heap.IsList ax its.toArray := N.isList hm
  refine wpAny_pyIter_list hl ?_
  refine wpAny_newObj_type (wpAny_newFunctionEnv hcell (by intro y hy; simp at hy) (fun h₁ hns₁ hsb₁ => ?_) hkind)
  dsimp only at hns₁ hsb₁ ⊢
  generalize hI : s.heap.objs.size = I at hns₁ hsb₁ ⊢
  generalize hH1 : s.heap.push { cls := .type "list_iterator", data := .fields #[.ref ax, .int 0 0] } = H1 at hns₁ hsb₁ ⊢
  have hD : H1.objs.size = I + 1 := by rw [← hH1, Heap.size_push, hI]
  generalize hH2 : H1.push { cls := .type "list", dict := none, data := .seq ([] : List Value).toArray } = H2 at hns₁ hsb₁ ⊢
  have hC : H2.objs.size = I + 2 := by rw [← hH2, Heap.size_push, hD]
  have up1 : ∀ b o, s.heap.get? b = some o → H1.get? b = some o := fun b o e => by rw [← hH1]; exact Heap.get?_push_of_some _ e
  have up2 : ∀ b o, H1.get? b = some o → H2.get? b = some o := fun b o e => by rw [← hH2]; exact Heap.get?_push_of_some _ e
  have hIo : H1.get? I = some { cls := .type "list_iterator", data := .fields #[.ref ax, .int 0 0] } := by rw [← hH1, ← hI]; exact Heap.get?_push_size _ rfl
  have hDo : H2.get? (I + 1) = some (LCg.lst []) := by rw [← hH2, ← hD]; exact Heap.get?_push_size _ rfl
  have up3 : ∀ b o, H2.get? b = some o → b ≠ I + 2 → h₁.get? b = some o := fun b o e hb => hsb₁.extBut b o (by rw [hC]; exact hb) (Heap.get?_push_of_some _ e)
  have old : ∀ b o, s.heap.get? b = some o → h₁.get? b = some o := fun b o e => up3 b o (up2 b o (up1 b o e)) (by have := Heap.lt_size e; rw [hI] at this; exact Nat.ne_of_lt (Nat.lt_of_lt_of_le this (Nat.le_add_right _ _)))
  have ltI : ∀ p ∈ news, @LT.lt Nat _ p.1 I := fun p hp => by have := Heap.lt_size (N p hp).1; rw [hI] at this; exact this
  have fresh : ∀ a, @LE.le Nat _ I a → h₀.get? a = none := fun a ha => by
    cases e : h₀.get? a with
    | none => rfl
    | some o =>
      have := Heap.lt_size (F.keep a o e)
      rw [hI] at this
      exact absurd this (Nat.not_lt.mpr ha)
  have hL : @LT.lt Nat _ L I := by have := F.ns.lt; rw [hI] at this; exact this
  rw [hC] at hns₁ ⊢
  rw [hD]
  obtain ⟨oC, heC, hoC⟩ := LCg.ns_obj hns₁
  have F₁ : Fr h₀ L h₁ m := F.keeps old
  have N₁ : News h₀ L h₁ ((I + 2, oC) :: (I + 1, LCg.lst []) :: news) := fun p hp => by
    rcases List.mem_cons.mp hp with rfl | hp
    · exact ⟨heC, Nat.ne_of_gt (Nat.lt_of_lt_of_le hL (Nat.le_add_right _ _)), fresh _ (Nat.le_add_right _ _)⟩
    · rcases List.mem_cons.mp hp with rfl | hp
      · exact ⟨up3 _ _ hDo (Nat.ne_of_lt (Nat.lt_succ_self _)), Nat.ne_of_gt (Nat.lt_of_lt_of_le hL (Nat.le_add_right _ _)), fresh _ (Nat.le_add_right _ _)⟩
      · have z := N p hp
        exact ⟨old _ _ z.1, z.2⟩
  have hit : h₁.IsListIter I ax 0 := ⟨_, up3 _ _ (up2 _ _ hIo) (Nat.ne_of_lt (Nat.lt_of_lt_of_le (Nat.lt_succ_self _) (Nat.le_add_right _ 1))), rfl, rfl⟩
  have go : codeAny (model prog w) A (.compLoop (.ListComp elt (⟨target, iter, ifs, 0⟩ :: rest) scope pos) 0 (.ref I) (.ref (I + 1)) (compEnvC scope cl (I + 2) env)) (RR (.ref (I + 1)) (I + 2)) { s with heap := h₁, toks := s.toks + 0 } := by
    refine codeAny_mono (loop I (I + 2) (I + 1) oC _ { s with heap := h₁, toks := s.toks + 0 } ⟨h₁, _, rfl⟩ hit hoC F₁ N₁ (fun p hp => ?_) ⟨?_, ?_, ?_⟩ (fresh I (Nat.le_refl _)) (Nat.ne_of_gt hL)) (fin _ _)
    · have := ltI p hp
      exact ⟨Nat.ne_of_lt this, Nat.ne_of_lt (Nat.lt_of_lt_of_le this (Nat.le_add_right _ _)), Nat.ne_of_lt (Nat.lt_of_lt_of_le this (Nat.le_add_right _ _))⟩
    · omega
    · omega
    · omega
  exact codeAny_compStart_list go (wpAny_pyIter_listiter hit go)

theorem block_led {elt target iter : Expr} {ifs : List Expr} {rest : List Comprehension} {scope : Scope} {cl : List (Str × Addr)} {pos : Pos} {ax : Addr} {its : List Value} {k : Nat} {news : List (Addr × Obj)} {Q : Value → Shared → Prop} {Fin : List Value → List (Addr × Obj) → Prop}
    (hcell : ∀ y ∈ scope.names, y.2 ≠ .cell) (hkind : scope.kind = .function)
    (F : Fr h₀ L s.heap m) (N : News h₀ L s.heap news) (hm : (ax, PySem.W.listOf its.toArray k) ∈ news)
    (loop : ∀ I C D oC m₂ (s₂ : Shared), (∃ h tk, s₂ = { s with heap := h, toks := tk }) → s₂.heap.IsListIter I ax 0 → LCg.NsObj oC m₂ → Fr h₀ L s₂.heap m → News h₀ L s₂.heap ((C, oC) :: (D, LCg.lst []) :: news) → (∀ p ∈ news, p.1 ≠ I ∧ p.1 ≠ C ∧ p.1 ≠ D) → ((@Ne Nat I C) ∧ (@Ne Nat I D) ∧ (@Ne Nat D C)) → h₀.get? I = none → I ≠ L →
      codeAny (model prog w) A (.compLoop (.ListComp elt (⟨target, iter, ifs, 0⟩ :: rest) scope pos) 0 (.ref I) (.ref D) (compEnvC scope cl C env)) (BEnd h₀ L m C D Fin s) s₂)
    (hQ : ∀ D ys nw h tk, Fr h₀ L h m → News h₀ L h ((D, LCg.lst ys) :: nw) → (∀ p ∈ nw, p.1 ≠ D) → Fin ys nw → Q (.ref D) { s with heap := h, toks := tk }) :
    wpAny (model prog w) A (pyIter (.ref ax)) (fun it s₂ => wpAny (model prog w) A (newList []) (fun acc s₃ => wpAny (model prog w) A (newFunctionEnv scope env.globals cl [] env.qual none .none (some env)) (fun cenv s₄ =>
      codeAny (model prog w) A (.compStart (.ListComp elt (⟨target, iter, ifs, 0⟩ :: rest) scope pos) 0 it acc { cenv with scope := relabel scope env }) (compPost (model prog w) A E none Q acc cenv.locals) s₄) E s₃) E s₂) E s := by
  refine block_led0 (RR := fun acc C => compPost (model prog w) A E none Q acc C) hcell hkind F N hm loop ?_
  rintro C D r s' ⟨rfl, h, tk, oC', m₂', ys, nw, rfl, F', N', hC', off', hDC, hF⟩
  have zC := N' _ (.head _)
  refine ⟨m₂', hC'.ns zC.1, fun h'' hs'' => hQ D ys nw h'' tk (F'.change hs'' zC.2.1 zC.2.2) (fun p hp => ?_) (fun p hp => (off' p hp).2) hF⟩
  have z := N' _ (.tail _ hp)
  refine ⟨hs''.extBut _ _ ?_ z.1, z.2⟩
  rcases List.mem_cons.mp hp with rfl | hp
  · exact hDC
  · exact (off' p hp).1

/-- the same, its list bound to a name of the frame's -/
theorem block_ledA {elt target iter : Expr} {ifs : List Expr} {rest : List Comprehension} {scope : Scope} {cl : List (Str × Addr)} {pos py : Pos} {ax : Addr} {its : List Value} {k : Nat} {news : List (Addr × Obj)} {y : Str} {Q : Value → Shared → Prop} {Fin : List Value → List (Addr × Obj) → Prop} (hLe : env.locals = L)
    (hcell : ∀ y ∈ scope.names, y.2 ≠ .cell) (hkind : scope.kind = .function) (hy : env.kindOf y = some .local) (hp : (env.scope.kind == .class || (env.scope.kind == .module && env.locals != env.globals)) = false)
    (F : Fr h₀ L s.heap m) (N : News h₀ L s.heap news) (hm : (ax, PySem.W.listOf its.toArray k) ∈ news)
    (loop : ∀ I C D oC m₂ (s₂ : Shared), (∃ h tk, s₂ = { s with heap := h, toks := tk }) → s₂.heap.IsListIter I ax 0 → LCg.NsObj oC m₂ → Fr h₀ L s₂.heap m → News h₀ L s₂.heap ((C, oC) :: (D, LCg.lst []) :: news) → (∀ p ∈ news, p.1 ≠ I ∧ p.1 ≠ C ∧ p.1 ≠ D) → ((@Ne Nat I C) ∧ (@Ne Nat I D) ∧ (@Ne Nat D C)) → h₀.get? I = none → I ≠ L →
      codeAny (model prog w) A (.compLoop (.ListComp elt (⟨target, iter, ifs, 0⟩ :: rest) scope pos) 0 (.ref I) (.ref D) (compEnvC scope cl C env)) (BEnd h₀ L m C D Fin s) s₂)
    (hQ : ∀ D ys nw h tk, Fr h₀ L h (fun z => if z = y then some (.ref D) else m z) → News h₀ L h ((D, LCg.lst ys) :: nw) → (∀ p ∈ nw, p.1 ≠ D) → Fin ys nw → Q .none { s with heap := h, toks := tk }) :
    wpAny (model prog w) A (pyIter (.ref ax)) (fun it s₂ => wpAny (model prog w) A (newList []) (fun acc s₃ => wpAny (model prog w) A (newFunctionEnv scope env.globals cl [] env.qual none .none (some env)) (fun cenv s₄ =>
      codeAny (model prog w) A (.compStart (.ListComp elt (⟨target, iter, ifs, 0⟩ :: rest) scope pos) 0 it acc { cenv with scope := relabel scope env }) (compPost (model prog w) A E (some (assign (.Name y py) env)) Q acc cenv.locals) s₄) E s₃) E s₂) E s := by
  subst hLe
  refine block_led0 (RR := fun acc C => compPost (model prog w) A E (some (assign (.Name y py) env)) Q acc C) hcell hkind F N hm loop ?_
  rintro C D r s' ⟨rfl, h, tk, oC', m₂', ys, nw, rfl, F', N', hC', off', hDC, hF⟩
  have zC := N' _ (.head _)
  show wpAny _ A (assign (.Name y py) env (.ref D)) _ _ _
  refine wpAny_assign_Name (wpAny_storeName_local hy F'.ns (fun h₂ hn₂ hs₂ => ?_) hp)
  have F₂ : Fr h₀ env.locals h₂ (fun z => if z = y then some (.ref D) else m z) := F'.set hn₂ hs₂
  have N₂ : News h₀ env.locals h₂ ((C, oC') :: (D, LCg.lst ys) :: nw) := N'.set hs₂
  have zC₂ := N₂ _ (.head _)
  refine ⟨m₂', hC'.ns zC₂.1, fun h'' hs'' => hQ D ys nw h'' _ (F₂.change hs'' zC₂.2.1 zC₂.2.2) (fun p hp => ?_) (fun p hp => (off' p hp).2) hF⟩
  have z := N₂ _ (.tail _ hp)
  refine ⟨hs''.extBut _ _ ?_ z.1, z.2⟩
  rcases List.mem_cons.mp hp with rfl | hp
  · exact hDC
  · exact (off' p hp).1
end
end

section
set_option maxHeartbeats 2000000
open PySem.Spec PySem.Calls
section
variable {prog : Program} {w : World} {A : Around} {E : Value → Shared → Prop} {s : Shared} {h₀ : Heap} {L : Addr} {m : Str → Option Value} {env : Env}

theorem assign2_led {C : Addr} {oC : Obj} {nw : List (Addr × Obj)} {m₂ : Str → Option Value} {scope : Scope} {cl : List (Str × Addr)} {x1 x2 : Str} {p1 p2 tp : Pos} {tk : Nat} {t : Addr} {v1 v2 : Value} {nt : Nat} {Q : Unit → Shared → Prop} (hh : A.handled = none)
    (hkind : scope.kind = .function) (hx1 : scope.names.lookup x1 = some .local) (hx2 : scope.names.lookup x2 = some .local) (h12 : x1 ≠ x2)
    (F : Fr h₀ L s.heap m) (N : News h₀ L s.heap ((C, oC) :: nw)) (hC : LCg.NsObj oC m₂) (off : ∀ p ∈ nw, p.1 ≠ C) (ht : (t, tupO #[v1, v2] nt) ∈ nw)
    (h : ∀ h' tk oC' m₃, LCg.NsObj oC' m₃ → m₃ x1 = some v1 → m₃ x2 = some v2 → Fr h₀ L h' m → News h₀ L h' ((C, oC') :: nw) → Q () { s with heap := h', toks := tk }) :
    wpAny (model prog w) A (assign (.Tuple [.Name x1 p1, .Name x2 p2] tk tp) (compEnvC scope cl C env) (.ref t)) Q E s := by
  have hp : ((compEnvC scope cl C env).scope.kind == .class || ((compEnvC scope cl C env).scope.kind == .module && (compEnvC scope cl C env).locals != (compEnvC scope cl C env).globals)) = false := by simp [compEnvC, relabel, hkind]
  have htup : IsTup s.heap t #[v1, v2] := ⟨_, (N _ (.tail _ ht)).1, rfl, nt, rfl⟩
  refine assign_Tuple_tuple hh htup rfl rfl fun h₁ he => ?_
  have up : ∀ b o, s.heap.get? b = some o → h₁.get? b = some o := fun b o e => he b o (Nat.ne_of_lt (Heap.lt_size e)) e
  have N₁ : News h₀ L h₁ ((C, oC) :: nw) := fun p hp => ⟨up _ _ (N p hp).1, (N p hp).2⟩
  refine assignInOrder_cons (wpAny_assign_Name (bind_led (F.keeps up) N₁ hC off rfl (lookup_relabel_local hx1) hp fun h₂ tk₂ oC₂ hC₂ F₂ N₂ => ?_))
  refine assignInOrder_cons (wpAny_assign_Name (bind_led F₂ N₂ hC₂ off rfl (lookup_relabel_local hx2) hp fun h₃ tk₃ oC₃ hC₃ F₃ N₃ => ?_))
  exact assignInOrder_nil (h h₃ tk₃ oC₃ _ hC₃ (by simp [h12]) (by simp) F₃ N₃)

theorem assign3_led {C : Addr} {oC : Obj} {nw : List (Addr × Obj)} {m₂ : Str → Option Value} {scope : Scope} {cl : List (Str × Addr)} {x1 x2 x3 : Str} {p1 p2 p3 tp : Pos} {tk : Nat} {t : Addr} {v1 v2 v3 : Value} {nt : Nat} {Q : Unit → Shared → Prop} (hh : A.handled = none)
    (hkind : scope.kind = .function) (hx1 : scope.names.lookup x1 = some .local) (hx2 : scope.names.lookup x2 = some .local) (hx3 : scope.names.lookup x3 = some .local) (h12 : x1 ≠ x2) (h13 : x1 ≠ x3) (h23 : x2 ≠ x3)
    (F : Fr h₀ L s.heap m) (N : News h₀ L s.heap ((C, oC) :: nw)) (hC : LCg.NsObj oC m₂) (off : ∀ p ∈ nw, p.1 ≠ C) (ht : (t, tupO #[v1, v2, v3] nt) ∈ nw)
    (h : ∀ h' tk oC' m₃, LCg.NsObj oC' m₃ → m₃ x1 = some v1 → m₃ x2 = some v2 → m₃ x3 = some v3 → Fr h₀ L h' m → News h₀ L h' ((C, oC') :: nw) → Q () { s with heap := h', toks := tk }) :
    wpAny (model prog w) A (assign (.Tuple [.Name x1 p1, .Name x2 p2, .Name x3 p3] tk tp) (compEnvC scope cl C env) (.ref t)) Q E s := by
  have hp : ((compEnvC scope cl C env).scope.kind == .class || ((compEnvC scope cl C env).scope.kind == .module && (compEnvC scope cl C env).locals != (compEnvC scope cl C env).globals)) = false := by simp [compEnvC, relabel, hkind]
  have htup : IsTup s.heap t #[v1, v2, v3] := ⟨_, (N _ (.tail _ ht)).1, rfl, nt, rfl⟩
  refine assign_Tuple_tuple hh htup rfl rfl fun h₁ he => ?_
  have up : ∀ b o, s.heap.get? b = some o → h₁.get? b = some o := fun b o e => he b o (Nat.ne_of_lt (Heap.lt_size e)) e
  have N₁ : News h₀ L h₁ ((C, oC) :: nw) := fun p hp => ⟨up _ _ (N p hp).1, (N p hp).2⟩
  refine assignInOrder_cons (wpAny_assign_Name (bind_led (F.keeps up) N₁ hC off rfl (lookup_relabel_local hx1) hp fun h₂ tk₂ oC₂ hC₂ F₂ N₂ => ?_))
  refine assignInOrder_cons (wpAny_assign_Name (bind_led F₂ N₂ hC₂ off rfl (lookup_relabel_local hx2) hp fun h₃ tk₃ oC₃ hC₃ F₃ N₃ => ?_))
  refine assignInOrder_cons (wpAny_assign_Name (bind_led F₃ N₃ hC₃ off rfl (lookup_relabel_local hx3) hp fun h₄ tk₄ oC₄ hC₄ F₄ N₄ => ?_))
  exact assignInOrder_nil (h h₄ tk₄ oC₄ _ hC₄ (by simp [h12, h13]) (by simp [h23]) (by simp) F₄ N₄)

/-- the end of an element's evaluation in a block: all that stood stands, J of what was made -/
def CEnd (h₀ : Heap) (L : Addr) (m : Str → Option Value) (s₁ : Shared) (I : Addr) (oI : Obj) (C : Addr) (D : Addr) (oD : Obj) (r : Addr × Obj) (J : Value → List (Addr × Obj) → Prop) (y : Value) (s₂ : Shared) : Prop :=
  ∃ h' tk oC m₂ nw', s₂ = { s₁ with heap := h', toks := tk } ∧ LCg.NsObj oC m₂ ∧ Fr h₀ L h' m ∧ News h₀ L h' ((I, oI) :: (C, oC) :: (D, oD) :: nw') ∧ (∀ p ∈ nw', p.1 ≠ I ∧ p.1 ≠ C ∧ p.1 ≠ D) ∧ r ∈ nw' ∧ J y nw'

theorem CEnd.same {s₁ : Shared} {I : Addr} {oI : Obj} {C : Addr} {oC : Obj} {m₂ : Str → Option Value} {D : Addr} {oD : Obj} {r : Addr × Obj} {J : Value → List (Addr × Obj) → Prop} {y : Value} {h' : Heap} {tk : Nat} {nw' : List (Addr × Obj)}
    (hC : LCg.NsObj oC m₂) (F : Fr h₀ L h' m) (N : News h₀ L h' ((I, oI) :: (C, oC) :: (D, oD) :: nw')) (off : ∀ p ∈ nw', p.1 ≠ I ∧ p.1 ≠ C ∧ p.1 ≠ D) (hr : r ∈ nw') (hJ : J y nw') :
    CEnd h₀ L m s₁ I oI C D oD r J y { s₁ with heap := h', toks := tk } := ⟨h', tk, oC, m₂, nw', rfl, hC, F, N, off, hr, hJ⟩

theorem CEnd.sameC {s₁ : Shared} {I : Addr} {oI : Obj} {C : Addr} {oC : Obj} {m₂ : Str → Option Value} {D : Addr} {oD : Obj} {r : Addr × Obj} {J : Value → List (Addr × Obj) → Prop} {y : Value} {h' : Heap} {tk : Nat} {nw' : List (Addr × Obj)}
    (hC : LCg.NsObj oC m₂) (F : Fr h₀ L h' m) (N : News h₀ L h' ((C, oC) :: (I, oI) :: (D, oD) :: nw')) (off : ∀ p ∈ nw', p.1 ≠ I ∧ p.1 ≠ C ∧ p.1 ≠ D) (hr : r ∈ nw') (hJ : J y nw') :
    CEnd h₀ L m s₁ I oI C D oD r J y { s₁ with heap := h', toks := tk } := ⟨h', tk, oC, m₂, nw', rfl, hC, F, fun p hp => N p (by
      simp only [List.mem_cons] at hp ⊢
      rcases hp with h|h|h|h <;> simp only [h, true_or, or_true]), off, hr, hJ⟩
theorem off_C {C I D : Addr} {oI oD : Obj} {nw : List (Addr × Obj)} (off : ∀ p ∈ nw, p.1 ≠ I ∧ p.1 ≠ C ∧ p.1 ≠ D) (ne : (@Ne Nat I C) ∧ (@Ne Nat I D) ∧ (@Ne Nat D C)) : ∀ p ∈ (I, oI) :: (D, oD) :: nw, p.1 ≠ C := by
  intro p hp
  simp only [List.mem_cons] at hp
  rcases hp with rfl | rfl | hp
  · exact ne.1
  · exact ne.2.2
  · exact (off p hp).2.1
theorem ints_snoc {vs : List Value} {ns : List Int} {n : Int} {t : Tok} (h : IntsAre vs ns) : IntsAre (vs ++ [.int n t]) (ns ++ [n]) := by
  induction h with
  | nil => exact .cons n t .nil
  | cons n' t' _ ih => exact .cons n' t' ih

theorem CEnd.one {s₁ : Shared} {I : Addr} {oI : Obj} {C : Addr} {oC : Obj} {m₂ : Str → Option Value} {D : Addr} {oD : Obj} {r : Addr × Obj} {J : Value → List (Addr × Obj) → Prop} {y : Value} {h' : Heap} {tk : Nat} {nw : List (Addr × Obj)} {d : Addr} {o : Obj}
    (hC : LCg.NsObj oC m₂) (F : Fr h₀ L h' m) (N : News h₀ L h' ((d, o) :: (I, oI) :: (C, oC) :: (D, oD) :: nw)) (l1 : @LT.lt Nat _ I d ∧ @LT.lt Nat _ C d ∧ @LT.lt Nat _ D d ∧ AllLt d nw) (off : ∀ p ∈ nw, p.1 ≠ I ∧ p.1 ≠ C ∧ p.1 ≠ D) (hr : r ∈ nw) (hJ : J y ((d, o) :: nw)) :
    CEnd h₀ L m s₁ I oI C D oD r J y { s₁ with heap := h', toks := tk } := by
  refine ⟨h', tk, oC, m₂, (d, o) :: nw, rfl, hC, F, fun p hp => N p ?_, fun p hp => ?_, .tail _ hr, hJ⟩
  · simp only [List.mem_cons] at hp ⊢
    rcases hp with h|h|h|h|h <;> simp only [h, true_or, or_true]
  · rcases List.mem_cons.mp hp with rfl | hp
    · exact ⟨Nat.ne_of_gt l1.1, Nat.ne_of_gt l1.2.1, Nat.ne_of_gt l1.2.2.1⟩
    · exact off p hp

theorem comp_loop {elt target iter : Expr} {scope : Scope} {cl : List (Str × Addr)} {pos : Pos} {ax : Addr} {its : List Value} {k : Nat} {news : List (Addr × Obj)} {J : Nat → List Value → List (Addr × Obj) → Prop} (hh : A.handled = none) (hm : (ax, PySem.W.listOf its.toArray k) ∈ news) (hsz : its.length ≤ 16777216) (hJ0 : J 0 [] news)
    (turn : ∀ i ys nw v I oI C oC D m₂ (s₂ : Shared) (E' : Value → Shared → Prop), its[i]? = some v → ys.length = i → J i ys nw → (ax, PySem.W.listOf its.toArray k) ∈ nw → LCg.NsObj oC m₂ → Fr h₀ L s₂.heap m → News h₀ L s₂.heap ((C, oC) :: (I, oI) :: (D, LCg.lst ys) :: nw) → (∀ p ∈ nw, p.1 ≠ I ∧ p.1 ≠ C ∧ p.1 ≠ D) → ((@Ne Nat I C) ∧ (@Ne Nat I D) ∧ (@Ne Nat D C)) →
        wpAny (model prog w) A (assign target (compEnvC scope cl C env) v) (fun _ s₃ => wpAny (model prog w) A (eval elt (compEnvC scope cl C env)) (CEnd h₀ L m s₂ I oI C D (LCg.lst ys) (ax, PySem.W.listOf its.toArray k) (fun y nw' => J (i + 1) (ys ++ [y]) nw')) E' s₃) E' s₂)
    {I C D : Addr} {oC : Obj} {m₂ : Str → Option Value} {h2 : Heap} {tk2 : Nat} (hit : h2.IsListIter I ax 0) (hC : LCg.NsObj oC m₂) (F₂ : Fr h₀ L h2 m) (N₂ : News h₀ L h2 ((C, oC) :: (D, LCg.lst []) :: news)) (off : ∀ p ∈ news, p.1 ≠ I ∧ p.1 ≠ C ∧ p.1 ≠ D) (hne : (@Ne Nat I C) ∧ (@Ne Nat I D) ∧ (@Ne Nat D C)) (hI0 : h₀.get? I = none) (hIL : I ≠ L) :
    codeAny (model prog w) A (.compLoop (.ListComp elt [⟨target, iter, [], 0⟩] scope pos) 0 (.ref I) (.ref D) (compEnvC scope cl C env)) (BEnd h₀ L m C D (fun ys nw => ys.length = its.length ∧ J its.length ys nw) s) { s with heap := h2, toks := tk2 } := by
  refine loop_led (ip := iter.pos) (body := eval elt (compEnvC scope cl C env) >>= fun x => call (.builtin "list.append") [.ref D, x] >>= fun _ => pure ()) (by rfl)
    (fun i nw => ∃ oC m₂ ys nw', nw = (C, oC) :: (D, LCg.lst ys) :: nw' ∧ LCg.NsObj oC m₂ ∧ ys.length = i ∧ J i ys nw' ∧ (ax, PySem.W.listOf its.toArray k) ∈ nw' ∧ ∀ p ∈ nw', p.1 ≠ I ∧ p.1 ≠ C ∧ p.1 ≠ D)
    hh F₂ N₂ (.tail _ (.tail _ hm)) (fun p hp => ?_) hI0 hIL hit ⟨oC, m₂, [], news, rfl, hC, rfl, hJ0, hm, off⟩ ?_ ?_
  · rcases List.mem_cons.mp hp with rfl | hp
    · exact fun e => hne.1 e.symm
    · rcases List.mem_cons.mp hp with rfl | hp
      · exact fun e => hne.2.1 e.symm
      · exact (off p hp).1
  · rintro i v nw oI s₁' E' hv ⟨oC', m₂', ys, nw', rfl, hC', hl, hJ, hax, offn⟩ _ _ F₃ N₃
    have N₄ : News h₀ L s₁'.heap ((C, oC') :: (I, oI) :: (D, LCg.lst ys) :: nw') := fun p hp => N₃ p (by
      simp only [List.mem_cons] at hp ⊢
      rcases hp with h|h|h|h <;> simp only [h, true_or, or_true])
    refine wpAny_mono (turn i ys nw' v I oI C oC' D m₂' s₁' E' hv hl hJ hax hC' F₃ N₄ offn hne) (fun _ s₃ h₃ => ?_) fun _ _ e => e
    refine wpAny_bind (wpAny_mono h₃ (fun y s₄ h₄ => ?_) fun _ _ e => e)
    obtain ⟨h₅, tk₅, oC₅, m₅, nw₅, rfl, hC₅, F₅, N₅, off₅, hr₅, hJ₅⟩ := h₄
    have zD := N₅ _ (.tail _ (.tail _ (.head _)))
    have hi : i < its.length := (List.getElem?_eq_some_iff.mp hv).1
    refine wpAny_bind (append_at (hsz := by rw [sizeLine_eq, List.size_toArray, hl]; omega) zD.1 fun h₆ hs₆ hD₆ => wpAny_pure ?_)
    have hD₆' : h₆.get? D = some (LCg.lst (ys ++ [y])) := hD₆.trans (congrArg some (LCg.lst_snoc ys y))
    refine ⟨h₆, _, (C, oC₅) :: (D, LCg.lst (ys ++ [y])) :: nw₅, rfl, F₅.change hs₆ zD.2.1 zD.2.2, fun p hp => ?_, fun p hp => ?_, .tail _ (.tail _ hr₅), oC₅, m₅, ys ++ [y], nw₅, rfl, hC₅, by simp [hl], hJ₅, hr₅, off₅⟩
    · simp only [List.mem_cons] at hp
      rcases hp with rfl | rfl | rfl | hp
      · have z := N₅ (I, oI) (.head _)
        exact ⟨hs₆.extBut _ _ hne.2.1 z.1, z.2⟩
      · have z := N₅ (C, oC₅) (.tail _ (.head _))
        exact ⟨hs₆.extBut _ _ (Ne.symm hne.2.2) z.1, z.2⟩
      · exact ⟨hD₆', zD.2⟩
      · have z := N₅ p (.tail _ (.tail _ (.tail _ hp)))
        exact ⟨hs₆.extBut _ _ (off₅ p hp).2.2 z.1, z.2⟩
    · simp only [List.mem_cons] at hp
      rcases hp with rfl | rfl | hp
      · exact fun e => hne.1 e.symm
      · exact fun e => hne.2.1 e.symm
      · exact (off₅ p hp).1
  · rintro nw h tk ⟨oC', m₂', ys, nw', rfl, hC', hl, hJ, _, offn⟩ F' N'
    exact ⟨rfl, h, tk, oC', m₂', ys, nw', rfl, F', N', hC', fun p hp => (offn p hp).2, hne.2.2, hl, hJ⟩

/-- the source of a block with one clause -/
def CSrc (prog : Program) (w : World) (A : Around) (h₀ : Heap) (L : Addr) (m : Str → Option Value) (env : Env) (elt target : Expr) (scope : Scope) (cl : List (Str × Addr)) (Q : Value → Shared → Prop) (xv : Value) (s₁ : Shared) : Prop :=
  ∃ (ax : Addr) (its : List Value) (k : Nat) (news : List (Addr × Obj)) (J : Nat → List Value → List (Addr × Obj) → Prop), xv = .ref ax ∧ A.handled = none ∧ Fr h₀ L s₁.heap m ∧ News h₀ L s₁.heap news ∧ (ax, PySem.W.listOf its.toArray k) ∈ news ∧ its.length ≤ 16777216 ∧ J 0 [] news ∧
    (∀ i ys nw v I oI C oC D m₂ (s₂ : Shared) (E' : Value → Shared → Prop), its[i]? = some v → ys.length = i → J i ys nw → (ax, PySem.W.listOf its.toArray k) ∈ nw → LCg.NsObj oC m₂ → Fr h₀ L s₂.heap m → News h₀ L s₂.heap ((C, oC) :: (I, oI) :: (D, LCg.lst ys) :: nw) → (∀ p ∈ nw, p.1 ≠ I ∧ p.1 ≠ C ∧ p.1 ≠ D) → ((@Ne Nat I C) ∧ (@Ne Nat I D) ∧ (@Ne Nat D C)) →
        wpAny (model prog w) A (assign target (compEnvC scope cl C env) v) (fun _ s₃ => wpAny (model prog w) A (eval elt (compEnvC scope cl C env)) (CEnd h₀ L m s₂ I oI C D (LCg.lst ys) (ax, PySem.W.listOf its.toArray k) (fun y nw' => J (i + 1) (ys ++ [y]) nw')) E' s₃) E' s₂) ∧
    ∀ ys nw D h tk, ys.length = its.length → J its.length ys nw → Fr h₀ L h m → News h₀ L h ((D, LCg.lst ys) :: nw) → (∀ p ∈ nw, p.1 ≠ D) → Q (.ref D) { s₁ with heap := h, toks := tk }

theorem comp_led {elt target iter : Expr} {scope : Scope} {cl : List (Str × Addr)} {pos : Pos} {Q : Value → Shared → Prop} (_F : Fr h₀ L s.heap m)
    (hclos : closureFor scope env = pure cl) (hcell : ∀ y ∈ scope.names, y.2 ≠ .cell) (hkind : scope.kind = .function)
    (hnames : ∀ y ∈ scope.names, y.2 = .local → scope.names.lookup y.1 = some .local)
    (h : wpAny (model prog w) A (eval iter env) (CSrc prog w A h₀ L m env elt target scope cl Q) E s)
    (hs : ∀ x, foldedSetIterable iter env x = pure x := by intro _; rfl) :
    wpAny (model prog w) A (eval (.ListComp elt [⟨target, iter, [], 0⟩] scope pos) env) Q E s := by
  rw [eval_ListComp]
  refine wpAny_comprehension_free (use := none) rfl hs hclos hkind hnames (wpAny_mono h (fun xv s₁ h₁ => ?_) fun _ _ e => e)
  obtain ⟨ax, its, k, news, J, rfl, hh, F, N, hm, hsz, hJ0, turn, done⟩ := h₁
  refine block_led (Fin := fun ys nw => ys.length = its.length ∧ J its.length ys nw) hcell hkind F N hm (fun I C D oC m₂ s₂ hsh hit hC F₂ N₂ off hne hI0 hIL => ?_) (fun D ys nw h tk F' N' off' hF => done ys nw D h tk hF.1 hF.2 F' N' off')
  obtain ⟨h2, tk2, rfl⟩ := hsh
  exact comp_loop hh hm hsz hJ0 turn hit hC F₂ N₂ off hne hI0 hIL

/-- the same for a list that is bound to a name -/
def CSrcA (prog : Program) (w : World) (A : Around) (h₀ : Heap) (L : Addr) (m : Str → Option Value) (y : Str) (env : Env) (elt target : Expr) (scope : Scope) (cl : List (Str × Addr)) (Q : Flow → Shared → Prop) (xv : Value) (s₁ : Shared) : Prop :=
  ∃ (ax : Addr) (its : List Value) (k : Nat) (news : List (Addr × Obj)) (J : Nat → List Value → List (Addr × Obj) → Prop), xv = .ref ax ∧ A.handled = none ∧ Fr h₀ L s₁.heap m ∧ News h₀ L s₁.heap news ∧ (ax, PySem.W.listOf its.toArray k) ∈ news ∧ its.length ≤ 16777216 ∧ J 0 [] news ∧
    (∀ i ys nw v I oI C oC D m₂ (s₂ : Shared) (E' : Value → Shared → Prop), its[i]? = some v → ys.length = i → J i ys nw → (ax, PySem.W.listOf its.toArray k) ∈ nw → LCg.NsObj oC m₂ → Fr h₀ L s₂.heap m → News h₀ L s₂.heap ((C, oC) :: (I, oI) :: (D, LCg.lst ys) :: nw) → (∀ p ∈ nw, p.1 ≠ I ∧ p.1 ≠ C ∧ p.1 ≠ D) → ((@Ne Nat I C) ∧ (@Ne Nat I D) ∧ (@Ne Nat D C)) →
        wpAny (model prog w) A (assign target (compEnvC scope cl C env) v) (fun _ s₃ => wpAny (model prog w) A (eval elt (compEnvC scope cl C env)) (CEnd h₀ L m s₂ I oI C D (LCg.lst ys) (ax, PySem.W.listOf its.toArray k) (fun y nw' => J (i + 1) (ys ++ [y]) nw')) E' s₃) E' s₂) ∧
    ∀ ys nw D h tk, ys.length = its.length → J its.length ys nw → Fr h₀ L h (fun z => if z = y then some (.ref D) else m z) → News h₀ L h ((D, LCg.lst ys) :: nw) → (∀ p ∈ nw, p.1 ≠ D) → Q .next { s₁ with heap := h, toks := tk }

theorem comp_ledA {elt target iter : Expr} {scope : Scope} {cl : List (Str × Addr)} {pos spos py : Pos} {y : Str} {Q : Flow → Shared → Prop} (_F : Fr h₀ L s.heap m) (hLe : env.locals = L)
    (hsw : swapsWith (.ListComp elt [⟨target, iter, [], 0⟩] scope pos) (some (.Name y py)) spos.line env = pure true)
    (hclos : closureFor scope env = pure cl) (hcell : ∀ y ∈ scope.names, y.2 ≠ .cell) (hkind : scope.kind = .function)
    (hnames : ∀ y ∈ scope.names, y.2 = .local → scope.names.lookup y.1 = some .local)
    (hy : env.kindOf y = some .local) (hp : (env.scope.kind == .class || (env.scope.kind == .module && env.locals != env.globals)) = false)
    (h : wpAny (model prog w) A (eval iter env) (CSrcA prog w A h₀ L m y env elt target scope cl Q) E s)
    (hs : ∀ x, foldedSetIterable iter env x = pure x := by intro _; rfl) :
    wpAny (model prog w) A (exec (.Assign [.Name y py] (.ListComp elt [⟨target, iter, [], 0⟩] scope pos) spos) env) Q E s := by
  rw [exec_Assign_Name_used _ _ _ _ hsw]
  refine wpAny_bind (wpAny_standAt (wpAny_bind ?_))
  show wpAny _ A (do let _ ← comprehension (.ListComp elt [⟨target, iter, [], 0⟩] scope pos) scope env _ (newList []) false (eval iter env) (some (assign (.Name y py) env))) _ _ s
  refine wpAny_bind (wpAny_mono (wpAny_comprehension_free (use := some (assign (.Name y py) env)) (Q := fun _ s' => Q .next s') rfl hs hclos hkind hnames
    (wpAny_mono h (fun xv s₁ h₁ => ?_) fun _ _ e => e)) (fun _ s' hq => wpAny_pure (wpAny_pure hq)) fun _ _ e => e)
  obtain ⟨ax, its, k, news, J, rfl, hh, F, N, hm, hsz, hJ0, turn, done⟩ := h₁
  refine block_ledA (Fin := fun ys nw => ys.length = its.length ∧ J its.length ys nw) hLe hcell hkind hy hp F N hm (fun I C D oC m₂ s₂ hsh hit hC F₂ N₂ off hne hI0 hIL => ?_) (fun D ys nw h tk F' N' off' hF => done ys nw D h tk hF.1 hF.2 F' N' off')
  obtain ⟨h2, tk2, rfl⟩ := hsh
  exact comp_loop hh hm hsz hJ0 turn hit hC F₂ N₂ off hne hI0 hIL
end
end

section
set_option maxHeartbeats 2000000
open PySem.Spec PySem.Calls
section
variable {prog : Program} {w : World} {A : Around} {E : Value → Shared → Prop} {s : Shared} {h₀ : Heap} {L : Addr} {m : Str → Option Value} {env : Env}

theorem turn_outer (elt t0 t1 iter0 iter1 : Expr) (scope : Scope) (pos : Pos) (it acc : Value) (env : Env) :
    compTurn (.ListComp elt [⟨t0, iter0, [], 0⟩, ⟨t1, iter1, [], 0⟩] scope pos) 0 it acc env = (standAt iter0.pos >>= fun _ => pyNext it >>= fun r => match r with
      | none => pure (.done .next)
      | some v => letOwnedTupleGo t0 it v >>= fun _ => assign t0 env v >>= fun _ => eval iter1 env >>= fun x => standAt iter1.pos >>= fun _ => foldedSetIterable iter1 env x >>= fun x => holding [x] (pyIter x) >>= fun it' =>
          runOwn (.compStart (.ListComp elt [⟨t0, iter0, [], 0⟩, ⟨t1, iter1, [], 0⟩] scope pos) 1 it' acc env) env >>= fun _ =>
        again (.compLoop (.ListComp elt [⟨t0, iter0, [], 0⟩, ⟨t1, iter1, [], 0⟩] scope pos) 0 it acc env)) := by rfl
theorem turn_outer' (elt t0 t1 iter0 iter1 : Expr) (scope : Scope) (pos : Pos) (it acc : Value) (env : Env) :
    compTurn (.ListComp elt [⟨t0, iter0, [], 0⟩, ⟨t1, iter1, [], 0⟩] scope pos) 0 it acc env = (standAt iter0.pos >>= fun _ => pyNext it >>= fun r => match r with
      | none => pure (.done .next)
      | some v => letOwnedTupleGo t0 it v >>= fun _ => assign t0 env v >>= fun _ => (eval iter1 env >>= fun x => standAt iter1.pos >>= fun _ => foldedSetIterable iter1 env x >>= fun x => holding [x] (pyIter x) >>= fun it' =>
          runOwn (.compStart (.ListComp elt [⟨t0, iter0, [], 0⟩, ⟨t1, iter1, [], 0⟩] scope pos) 1 it' acc env) env >>= fun _ => pure ()) >>= fun _ =>
        again (.compLoop (.ListComp elt [⟨t0, iter0, [], 0⟩, ⟨t1, iter1, [], 0⟩] scope pos) 0 it acc env)) := by
  rw [turn_outer]
  congr 1; funext _
  congr 1; funext r
  cases r with
  | none => rfl
  | some v => simp only [bind_assoc, pure_bind]
theorem turn_inner (elt t0 t1 iter0 iter1 : Expr) (scope : Scope) (pos : Pos) (it acc : Value) (env : Env) :
    compTurn (.ListComp elt [⟨t0, iter0, [], 0⟩, ⟨t1, iter1, [], 0⟩] scope pos) 1 it acc env = (standAt iter1.pos >>= fun _ => pyNext it >>= fun r => match r with
      | none => pure (.done .next)
      | some v => letOwnedTupleGo t1 it v >>= fun _ => assign t1 env v >>= fun _ => (eval elt env >>= fun x => call (.builtin "list.append") [acc, x] >>= fun _ => pure ()) >>= fun _ =>
        again (.compLoop (.ListComp elt [⟨t0, iter0, [], 0⟩, ⟨t1, iter1, [], 0⟩] scope pos) 1 it acc env)) := by rfl
theorem start_inner {elt t0 t1 iter0 iter1 : Expr} {scope : Scope} {pos : Pos} {it acc : Value} {env : Env} {R : Result → Shared → Prop}
    (h0 : codeAny (model prog w) A (.compLoop (.ListComp elt [⟨t0, iter0, [], 0⟩, ⟨t1, iter1, [], 0⟩] scope pos) 1 it acc env) R s)
    (h : ∀ E', wpAny (model prog w) A (pyIter it) (fun it' s' => codeAny (model prog w) A (.compLoop (.ListComp elt [⟨t0, iter0, [], 0⟩, ⟨t1, iter1, [], 0⟩] scope pos) 1 it' acc env) R s') E' s) :
    codeAny (model prog w) A (.compStart (.ListComp elt [⟨t0, iter0, [], 0⟩, ⟨t1, iter1, [], 0⟩] scope pos) 1 it acc env) R s := by
  refine codeAny_of_tree ?_
  show wpAny _ _ ((compStart (.ListComp elt [⟨t0, iter0, [], 0⟩, ⟨t1, iter1, [], 0⟩] scope pos) 1 it acc env).onRaise (fun x => do noteFrame x env; standAt theWindowsPlace)) _ _ s
  refine wpAny_notedAt ?_
  unfold compStart
  show wpAny _ _ (ask >>= _) _ _ s
  refine wpAny_bind (wpAny_askSetting (wpAny_ite ?_))
  split
  · exact wpAny_bind (wpAny_pure (wpAny_pure (And.intro rfl h0)))
  · refine wpAny_bind (wpAny_rule ?_)
    show wpAny _ _ (standAt iter1.pos >>= _) _ _ s
    exact wpAny_bind (wpAny_standAt (wpAny_bind (wpAny_mono (h _) (fun it' s' h' => wpAny_pure (And.intro rfl h')) fun _ _ x => x)))
theorem mark_handled (hh : A.handled = none) : (A.mark none).handled = none := by
  first | rfl | exact hh | simp [hh]

abbrev ndist (C I D I2 : Addr) : Prop := (@Ne Nat I C) ∧ (@Ne Nat I D) ∧ (@Ne Nat D C) ∧ (@Ne Nat I2 C) ∧ (@Ne Nat I2 D) ∧ (@Ne Nat I2 I)

/-- the end of an element's evaluation in a block of two clauses -/
def NEnd (h₀ : Heap) (L : Addr) (m : Str → Option Value) (s₁ : Shared) (I : Addr) (oI : Obj) (C : Addr) (D : Addr) (oD : Obj) (I2 : Addr) (oI2 : Obj) (r r2 : Addr × Obj) (J : Value → List (Addr × Obj) → Prop) (y : Value) (s₂ : Shared) : Prop :=
  ∃ h' tk oC m₂ nw', s₂ = { s₁ with heap := h', toks := tk } ∧ LCg.NsObj oC m₂ ∧ Fr h₀ L h' m ∧ News h₀ L h' ((C, oC) :: (I2, oI2) :: (D, oD) :: (I, oI) :: nw') ∧ (∀ p ∈ nw', (p.1 ≠ I ∧ p.1 ≠ C ∧ p.1 ≠ D) ∧ p.1 ≠ I2) ∧ r ∈ nw' ∧ r2 ∈ nw' ∧ J y nw'

theorem NEnd.one {s₁ : Shared} {I : Addr} {oI : Obj} {C : Addr} {oC : Obj} {m₂ : Str → Option Value} {D : Addr} {oD : Obj} {I2 : Addr} {oI2 : Obj} {r r2 : Addr × Obj} {J : Value → List (Addr × Obj) → Prop} {y : Value} {h' : Heap} {tk : Nat} {nw : List (Addr × Obj)} {d : Addr} {o : Obj}
    (hC : LCg.NsObj oC m₂) (F : Fr h₀ L h' m) (N : News h₀ L h' ((d, o) :: (C, oC) :: (I2, oI2) :: (D, oD) :: (I, oI) :: nw)) (l1 : @LT.lt Nat _ C d ∧ @LT.lt Nat _ I2 d ∧ @LT.lt Nat _ D d ∧ @LT.lt Nat _ I d ∧ AllLt d nw) (off : ∀ p ∈ nw, (p.1 ≠ I ∧ p.1 ≠ C ∧ p.1 ≠ D) ∧ p.1 ≠ I2) (hr : r ∈ nw) (hr2 : r2 ∈ nw) (hJ : J y ((d, o) :: nw)) :
    NEnd h₀ L m s₁ I oI C D oD I2 oI2 r r2 J y { s₁ with heap := h', toks := tk } := by
  refine ⟨h', tk, oC, m₂, (d, o) :: nw, rfl, hC, F, fun p hp => N p ?_, fun p hp => ?_, .tail _ hr, .tail _ hr2, hJ⟩
  · simp only [List.mem_cons] at hp ⊢
    rcases hp with h|h|h|h|h|h <;> simp only [h, true_or, or_true]
  · rcases List.mem_cons.mp hp with rfl | hp
    · exact ⟨⟨Nat.ne_of_gt l1.2.2.2.1, Nat.ne_of_gt l1.1, Nat.ne_of_gt l1.2.2.1⟩, Nat.ne_of_gt l1.2.1⟩
    · exact off p hp

theorem nest_loop {elt t1 iter0 : Expr} {x0 : Str} {p0 q0 : Pos} {scope : Scope} {cl : List (Str × Addr)} {pos : Pos} {ax : Addr} {its : List Value} {k : Nat} {news : List (Addr × Obj)} {J : Nat → Nat → List Value → List (Addr × Obj) → Prop} (hkind : scope.kind = .function) (hx0 : scope.names.lookup x0 = some .local) (hd : (x0 == ("__debug__" : Str)) = false) (hh : A.handled = none) (hm : (ax, PySem.W.listOf its.toArray k) ∈ news) (hJ0 : J 0 0 [] news) (hJl : ∀ i j ys nw, J i j ys nw → ys.length ≤ 1000000)
    (turn : (∀ i ys nw v, its[i]? = some v → J i 0 ys nw → ∃ (c : Addr) (ws : List Value) (k' : Nat), v = .ref c ∧ (c, PySem.W.listOf ws.toArray k') ∈ nw ∧ (∀ ys nw, J i ws.length ys nw → J (i + 1) 0 ys nw) ∧
      (∀ j ys nw v' I oI C oC D I2 oI2 m₂ (s₂ : Shared) (E' : Value → Shared → Prop), ws[j]? = some v' → J i j ys nw → (ax, PySem.W.listOf its.toArray k) ∈ nw → (c, PySem.W.listOf ws.toArray k') ∈ nw → LCg.NsObj oC m₂ → Fr h₀ L s₂.heap m → News h₀ L s₂.heap ((C, oC) :: (I2, oI2) :: (D, LCg.lst ys) :: (I, oI) :: nw) → (∀ p ∈ nw, (p.1 ≠ I ∧ p.1 ≠ C ∧ p.1 ≠ D) ∧ p.1 ≠ I2) → ndist C I D I2 →
        wpAny (model prog w) A (assign t1 (compEnvC scope cl C env) v') (fun _ s₃ => wpAny (model prog w) A (eval elt (compEnvC scope cl C env)) (NEnd h₀ L m s₂ I oI C D (LCg.lst ys) I2 oI2 (ax, PySem.W.listOf its.toArray k) (c, PySem.W.listOf ws.toArray k') (fun y nw' => J i (j + 1) (ys ++ [y]) nw')) E' s₃) E' s₂)))
    {I C D : Addr} {oC : Obj} {m₂ : Str → Option Value} {h2 : Heap} {tk2 : Nat} (hit : h2.IsListIter I ax 0) (hC : LCg.NsObj oC m₂) (F₂ : Fr h₀ L h2 m) (N₂ : News h₀ L h2 ((C, oC) :: (D, LCg.lst []) :: news)) (off : ∀ p ∈ news, p.1 ≠ I ∧ p.1 ≠ C ∧ p.1 ≠ D) (hne : (@Ne Nat I C) ∧ (@Ne Nat I D) ∧ (@Ne Nat D C)) (hI0 : h₀.get? I = none) (hIL : I ≠ L) :
    codeAny (model prog w) A (.compLoop (.ListComp elt [⟨.Name x0 p0, iter0, [], 0⟩, ⟨t1, .Name x0 q0, [], 0⟩] scope pos) 0 (.ref I) (.ref D) (compEnvC scope cl C env)) (BEnd h₀ L m C D (fun ys nw => J its.length 0 ys nw) s) { s with heap := h2, toks := tk2 } := by
  have hp : ∀ C, ((compEnvC scope cl C env).scope.kind == .class || ((compEnvC scope cl C env).scope.kind == .module && (compEnvC scope cl C env).locals != (compEnvC scope cl C env).globals)) = false := fun C => by simp [compEnvC, relabel, hkind]
  refine loop_led (turn_outer' elt (.Name x0 p0) t1 iter0 (.Name x0 q0) scope pos (.ref I) (.ref D) (compEnvC scope cl C env))
    (fun i nw => ∃ oC m₂ ys nw', nw = (C, oC) :: (D, LCg.lst ys) :: nw' ∧ LCg.NsObj oC m₂ ∧ J i 0 ys nw' ∧ (ax, PySem.W.listOf its.toArray k) ∈ nw' ∧ ∀ p ∈ nw', p.1 ≠ I ∧ p.1 ≠ C ∧ p.1 ≠ D)
    hh F₂ N₂ (.tail _ (.tail _ hm)) (fun p hp => ?_) hI0 hIL hit ⟨oC, m₂, [], news, rfl, hC, hJ0, hm, off⟩ ?_ ?_
  · rcases List.mem_cons.mp hp with rfl | hp
    · exact fun e => hne.1 e.symm
    · rcases List.mem_cons.mp hp with rfl | hp
      · exact fun e => hne.2.1 e.symm
      · exact (off p hp).1
  · rintro i v nw oI s₁' E' hv ⟨oC', m₂', ys, nw', rfl, hC', hJ, hax, offn⟩ _ _ F₃ N₃
    obtain ⟨c, ws, k', rfl, hc, hnext, inner⟩ := turn i ys nw' v hv hJ
    have N₄ : News h₀ L s₁'.heap ((C, oC') :: (I, oI) :: (D, LCg.lst ys) :: nw') := fun p hp => N₃ p (by
      simp only [List.mem_cons] at hp ⊢
      rcases hp with h|h|h|h <;> simp only [h, true_or, or_true])
    refine wpAny_assign_Name (bind_led F₃ N₄ hC' (fun p hp => ?_) rfl (lookup_relabel_local hx0) (hp C) fun h₄ tk₄ oC₄ hC₄ F₄ N₄ => ?_)
    · simp only [List.mem_cons] at hp
      rcases hp with rfl | rfl | hp
      · exact hne.1
      · exact hne.2.2
      · exact (offn p hp).2.1
    refine wpAny_bind (ldVarK (v := .ref c) (hC₄.ns (N₄ _ (.head _)).1) (by simp) ?_ (by simp [compEnvC, relabel, hkind]) (lookup_relabel_local hx0) hd)
    refine wpAny_bind (wpAny_standAt (wpAny_bind ?_))
    refine wpAny_of_eq (show foldedSetIterable (.Name x0 q0) (compEnvC scope cl C env) (.ref c) = pure (.ref c) from rfl) ?_
    have hcl : h₄.IsList c ws.toArray := News.isList N₄ (.tail _ (.tail _ (.tail _ hc)))
    have hclt : c < h₄.objs.size := Heap.lt_size (N₄ _ (.tail _ (.tail _ (.tail _ hc)))).1
    refine wpAny_bind (wpAny_holding (wpAny_pyIter_list hcl ?_))
    refine wpAny_bind (wpAny_runOwn ?_)
    have hup : ∀ b o, h₄.get? b = some o → (h₄.push { cls := .type "list_iterator", data := .fields #[.ref c, .int 0 0] }).get? b = some o := fun b o e => Heap.get?_push_of_some _ e
    generalize hI2 : h₄.objs.size = I2
    have ltI2 : ∀ p ∈ (C, oC₄) :: (I, oI) :: (D, LCg.lst ys) :: nw', @LT.lt Nat _ p.1 I2 := fun p hp => by have := Heap.lt_size (N₄ p hp).1; rw [hI2] at this; exact this
    have hI20 : h₀.get? I2 = none := by
      cases e : h₀.get? I2 with
      | none => rfl
      | some o => have := Heap.lt_size (F₄.keep _ o e); rw [hI2] at this; exact absurd this (Nat.lt_irrefl _)
    have hI2L : I2 ≠ L := by have := F₄.ns.lt; rw [hI2] at this; exact Nat.ne_of_gt this
    have hio : (h₄.push { cls := .type "list_iterator", data := .fields #[.ref c, .int 0 0] }).IsListIter I2 c 0 := ⟨_, by rw [← hI2]; exact Heap.get?_push_size _ rfl, rfl, rfl⟩
    have dI2 : ndist C I D I2 := ⟨hne.1, hne.2.1, hne.2.2, Nat.ne_of_gt (ltI2 _ (.head _)), Nat.ne_of_gt (ltI2 _ (.tail _ (.tail _ (.head _)))), Nat.ne_of_gt (ltI2 _ (.tail _ (.head _)))⟩
    have go : codeAny (model prog w) (A.mark none) (.compLoop (.ListComp elt [⟨.Name x0 p0, iter0, [], 0⟩, ⟨t1, .Name x0 q0, [], 0⟩] scope pos) 1 (.ref I2) (.ref D) (compEnvC scope cl C env))
        (fun r s' => r = .ok .next ∧ LEnd h₀ L m I oI (ax, PySem.W.listOf its.toArray k) (fun nw => ∃ oC m₂ ys nw', nw = (C, oC) :: (D, LCg.lst ys) :: nw' ∧ LCg.NsObj oC m₂ ∧ J (i + 1) 0 ys nw' ∧ (ax, PySem.W.listOf its.toArray k) ∈ nw' ∧ ∀ p ∈ nw', p.1 ≠ I ∧ p.1 ≠ C ∧ p.1 ≠ D) s₁' s')
        { s₁' with heap := h₄.push { cls := .type "list_iterator", data := .fields #[.ref c, .int 0 0] }, toks := tk₄ } := by
      rw [Around.mark_none]
      refine loop_led (h₀ := h₀) (L := L) (m := m) (turn_inner elt (.Name x0 p0) t1 iter0 (.Name x0 q0) scope pos (.ref I2) (.ref D) (compEnvC scope cl C env))
        (fun j nw => ∃ oC m₂ ys nw', nw = (C, oC) :: (D, LCg.lst ys) :: (I, oI) :: nw' ∧ LCg.NsObj oC m₂ ∧ J i j ys nw' ∧ (ax, PySem.W.listOf its.toArray k) ∈ nw' ∧ (c, PySem.W.listOf ws.toArray k') ∈ nw' ∧ ∀ p ∈ nw', (p.1 ≠ I ∧ p.1 ≠ C ∧ p.1 ≠ D) ∧ p.1 ≠ I2)
        (news := (C, oC₄) :: (D, LCg.lst ys) :: (I, oI) :: nw') hh (F₄.keeps hup) (fun p hp => ?_) (.tail _ (.tail _ (.tail _ hc))) (fun p hp => ?_) hI20 hI2L hio
        ⟨oC₄, _, ys, nw', rfl, hC₄, hJ, hax, hc, fun p hp => ⟨offn p hp, Nat.ne_of_lt (ltI2 _ (.tail _ (.tail _ (.tail _ hp))))⟩⟩ ?_ ?_
      · have z := N₄ p (by
          simp only [List.mem_cons] at hp ⊢
          rcases hp with h|h|h|h <;> simp only [h, true_or, or_true])
        exact ⟨hup _ _ z.1, z.2⟩
      · exact Nat.ne_of_lt (ltI2 p (by
          simp only [List.mem_cons] at hp ⊢
          rcases hp with h|h|h|h <;> simp only [h, true_or, or_true]))
      · rintro j v' nw oI2 s₅ E'' hv' ⟨oC₅, m₅, ys₅, nw₅, rfl, hC₅, hJ₅, hax₅, hc₅, off₅⟩ _ _ F₅ N₅
        have N₆ : News h₀ L s₅.heap ((C, oC₅) :: (I2, oI2) :: (D, LCg.lst ys₅) :: (I, oI) :: nw₅) := fun p hp => N₅ p (by
          simp only [List.mem_cons] at hp ⊢
          rcases hp with h|h|h|h|h <;> simp only [h, true_or, or_true])
        refine wpAny_mono (inner j ys₅ nw₅ v' I oI C oC₅ D I2 oI2 m₅ s₅ E'' hv' hJ₅ hax₅ hc₅ hC₅ F₅ N₆ off₅ dI2) (fun _ s₆ h₆ => ?_) fun _ _ e => e
        refine wpAny_bind (wpAny_mono h₆ (fun y s₇ h₇ => ?_) fun _ _ e => e)
        obtain ⟨h₈, tk₈, oC₈, m₈, nw₈, rfl, hC₈, F₈, N₈, off₈, hr₈, hr2₈, hJ₈⟩ := h₇
        have zD := N₈ _ (.tail _ (.tail _ (.head _)))
        refine wpAny_bind (append_at (hsz := by have := hJl _ _ _ _ hJ₅; rw [sizeLine_eq, List.size_toArray]; omega) zD.1 fun h₉ hs₉ hD₉ => wpAny_pure ?_)
        have hD₉' : h₉.get? D = some (LCg.lst (ys₅ ++ [y])) := hD₉.trans (congrArg some (LCg.lst_snoc ys₅ y))
        refine ⟨h₉, _, (C, oC₈) :: (D, LCg.lst (ys₅ ++ [y])) :: (I, oI) :: nw₈, rfl, F₈.change hs₉ zD.2.1 zD.2.2, fun p hp => ?_, fun p hp => ?_, .tail _ (.tail _ (.tail _ hr2₈)), oC₈, m₈, ys₅ ++ [y], nw₈, rfl, hC₈, hJ₈, hr₈, hr2₈, off₈⟩
        · simp only [List.mem_cons] at hp
          rcases hp with rfl | rfl | rfl | rfl | hp
          · have z := N₈ (I2, oI2) (.tail _ (.head _))
            exact ⟨hs₉.extBut _ _ dI2.2.2.2.2.1 z.1, z.2⟩
          · have z := N₈ (C, oC₈) (.head _)
            exact ⟨hs₉.extBut _ _ (Ne.symm hne.2.2) z.1, z.2⟩
          · exact ⟨hD₉', zD.2⟩
          · have z := N₈ (I, oI) (.tail _ (.tail _ (.tail _ (.head _))))
            exact ⟨hs₉.extBut _ _ hne.2.1 z.1, z.2⟩
          · have z := N₈ p (.tail _ (.tail _ (.tail _ (.tail _ hp))))
            exact ⟨hs₉.extBut _ _ (off₈ p hp).1.2.2 z.1, z.2⟩
        · simp only [List.mem_cons] at hp
          rcases hp with rfl | rfl | rfl | hp
          · exact fun e => dI2.2.2.2.1 e.symm
          · exact fun e => dI2.2.2.2.2.1 e.symm
          · exact fun e => dI2.2.2.2.2.2 e.symm
          · exact (off₈ p hp).2
      · rintro nw h tk ⟨oC₅, m₅, ys₅, nw₅, rfl, hC₅, hJ₅, hax₅, hc₅, off₅⟩ F' N'
        refine ⟨rfl, h, tk, (C, oC₅) :: (D, LCg.lst ys₅) :: nw₅, rfl, F', fun p hp => N' p ?_, fun p hp => ?_, .tail _ (.tail _ hax₅), oC₅, m₅, ys₅, nw₅, rfl, hC₅, hnext _ _ hJ₅, hax₅, fun p hp => (off₅ p hp).1⟩
        · simp only [List.mem_cons] at hp ⊢
          rcases hp with h|h|h|h <;> simp only [h, true_or, or_true]
        · simp only [List.mem_cons] at hp
          rcases hp with rfl | rfl | hp
          · exact fun e => hne.1 e.symm
          · exact fun e => hne.2.1 e.symm
          · exact (off₅ p hp).1.1
    have fin : ∀ (r : Result) (s' : Shared), (r = .ok .next ∧ LEnd h₀ L m I oI (ax, PySem.W.listOf its.toArray k) (fun nw => ∃ oC m₂ ys nw', nw = (C, oC) :: (D, LCg.lst ys) :: nw' ∧ LCg.NsObj oC m₂ ∧ J (i + 1) 0 ys nw' ∧ (ax, PySem.W.listOf its.toArray k) ∈ nw' ∧ ∀ p ∈ nw', p.1 ≠ I ∧ p.1 ≠ C ∧ p.1 ≠ D) s₁' s') → (match r with
        | .ok f => wpAny (model prog w) A (pure () : Sem Unit) (fun _ s₃ => LEnd h₀ L m I oI (ax, PySem.W.listOf its.toArray k) (fun nw => ∃ oC m₂ ys nw', nw = (C, oC) :: (D, LCg.lst ys) :: nw' ∧ LCg.NsObj oC m₂ ∧ J (i + 1) 0 ys nw' ∧ (ax, PySem.W.listOf its.toArray k) ∈ nw' ∧ ∀ p ∈ nw', p.1 ≠ I ∧ p.1 ≠ C ∧ p.1 ≠ D) s₁' s₃) E' s'
        | .error e => cameBackBy (model prog w) A (compEnvC scope cl C env) E' e s') := by
      rintro r s' ⟨rfl, hq⟩
      exact wpAny_pure hq
    refine codeAny_mono (start_inner go (fun E'' => ?_)) fin
    exact wpAny_pyIter_listiter hio go
  · rintro nw h tk ⟨oC', m₂', ys, nw', rfl, hC', hJ, _, offn⟩ F' N'
    exact ⟨rfl, h, tk, oC', m₂', ys, nw', rfl, F', N', hC', fun p hp => (offn p hp).2, hne.2.2, hJ⟩

def NSrcA (prog : Program) (w : World) (A : Around) (h₀ : Heap) (L : Addr) (m : Str → Option Value) (y : Str) (env : Env) (elt t1 : Expr) (scope : Scope) (cl : List (Str × Addr)) (Q : Flow → Shared → Prop) (xv : Value) (s₁ : Shared) : Prop :=
  ∃ (ax : Addr) (its : List Value) (k : Nat) (news : List (Addr × Obj)) (J : Nat → Nat → List Value → List (Addr × Obj) → Prop), xv = .ref ax ∧ A.handled = none ∧ Fr h₀ L s₁.heap m ∧ News h₀ L s₁.heap news ∧ (ax, PySem.W.listOf its.toArray k) ∈ news ∧ J 0 0 [] news ∧
    (∀ i j ys nw, J i j ys nw → ys.length ≤ 1000000) ∧
    (∀ i ys nw v, its[i]? = some v → J i 0 ys nw → ∃ (c : Addr) (ws : List Value) (k' : Nat), v = .ref c ∧ (c, PySem.W.listOf ws.toArray k') ∈ nw ∧ (∀ ys nw, J i ws.length ys nw → J (i + 1) 0 ys nw) ∧
      (∀ j ys nw v' I oI C oC D I2 oI2 m₂ (s₂ : Shared) (E' : Value → Shared → Prop), ws[j]? = some v' → J i j ys nw → (ax, PySem.W.listOf its.toArray k) ∈ nw → (c, PySem.W.listOf ws.toArray k') ∈ nw → LCg.NsObj oC m₂ → Fr h₀ L s₂.heap m → News h₀ L s₂.heap ((C, oC) :: (I2, oI2) :: (D, LCg.lst ys) :: (I, oI) :: nw) → (∀ p ∈ nw, (p.1 ≠ I ∧ p.1 ≠ C ∧ p.1 ≠ D) ∧ p.1 ≠ I2) → ndist C I D I2 →
        wpAny (model prog w) A (assign t1 (compEnvC scope cl C env) v') (fun _ s₃ => wpAny (model prog w) A (eval elt (compEnvC scope cl C env)) (NEnd h₀ L m s₂ I oI C D (LCg.lst ys) I2 oI2 (ax, PySem.W.listOf its.toArray k) (c, PySem.W.listOf ws.toArray k') (fun y nw' => J i (j + 1) (ys ++ [y]) nw')) E' s₃) E' s₂)) ∧
    ∀ ys nw D h tk, J its.length 0 ys nw → Fr h₀ L h (fun z => if z = y then some (.ref D) else m z) → News h₀ L h ((D, LCg.lst ys) :: nw) → (∀ p ∈ nw, p.1 ≠ D) → Q .next { s₁ with heap := h, toks := tk }

theorem nest_ledA {elt t1 iter0 : Expr} {x0 : Str} {p0 q0 : Pos} {scope : Scope} {cl : List (Str × Addr)} {pos spos py : Pos} {y : Str} {Q : Flow → Shared → Prop} (_F : Fr h₀ L s.heap m) (hLe : env.locals = L)
    (hsw : swapsWith (.ListComp elt [⟨.Name x0 p0, iter0, [], 0⟩, ⟨t1, .Name x0 q0, [], 0⟩] scope pos) (some (.Name y py)) spos.line env = pure true)
    (hclos : closureFor scope env = pure cl) (hcell : ∀ y ∈ scope.names, y.2 ≠ .cell) (hkind : scope.kind = .function)
    (hnames : ∀ y ∈ scope.names, y.2 = .local → scope.names.lookup y.1 = some .local) (hx0 : scope.names.lookup x0 = some .local) (hd : (x0 == ("__debug__" : Str)) = false)
    (hy : env.kindOf y = some .local) (hp : (env.scope.kind == .class || (env.scope.kind == .module && env.locals != env.globals)) = false)
    (h : wpAny (model prog w) A (eval iter0 env) (NSrcA prog w A h₀ L m y env elt t1 scope cl Q) E s)
    (hs : ∀ x, foldedSetIterable iter0 env x = pure x := by intro _; rfl) :
    wpAny (model prog w) A (exec (.Assign [.Name y py] (.ListComp elt [⟨.Name x0 p0, iter0, [], 0⟩, ⟨t1, .Name x0 q0, [], 0⟩] scope pos) spos) env) Q E s := by
  rw [exec_Assign_Name_used _ _ _ _ hsw]
  refine wpAny_bind (wpAny_standAt (wpAny_bind ?_))
  show wpAny _ A (do let _ ← comprehension (.ListComp elt [⟨.Name x0 p0, iter0, [], 0⟩, ⟨t1, .Name x0 q0, [], 0⟩] scope pos) scope env _ (newList []) false (eval iter0 env) (some (assign (.Name y py) env))) _ _ s
  refine wpAny_bind (wpAny_mono (wpAny_comprehension_free (use := some (assign (.Name y py) env)) (Q := fun _ s' => Q .next s') rfl hs hclos hkind hnames
    (wpAny_mono h (fun xv s₁ h₁ => ?_) fun _ _ e => e)) (fun _ s' hq => wpAny_pure (wpAny_pure hq)) fun _ _ e => e)
  obtain ⟨ax, its, k, news, J, rfl, hh, F, N, hm, hJ0, hJl, turn, done⟩ := h₁
  refine block_ledA (Fin := fun ys nw => J its.length 0 ys nw) hLe hcell hkind hy hp F N hm (fun I C D oC m₂ s₂ hsh hit hC F₂ N₂ off hne hI0 hIL => ?_) (fun D ys nw h tk F' N' off' hF => done ys nw D h tk hF F' N' off')
  obtain ⟨h2, tk2, rfl⟩ := hsh
  exact nest_loop hkind hx0 hd hh hm hJ0 hJl turn hit hC F₂ N₂ off hne hI0 hIL
end
end

section
open PySem.Spec PySem.Calls PyProof.V
section
variable {prog : Program} {w : World} {A : Around} {E : Value → Shared → Prop} {s : Shared} {h₀ h : Heap} {L : Addr} {news : List (Addr × Obj)} {Q : Value → Shared → Prop}

/-- flat tuples of ints and bools -/
def FlatT (d : PyData) : Prop := ∃ ds : List PyData, d = .tuple ds ∧ ∀ e ∈ ds, (∃ i, e = .int i) ∨ ∃ b, e = .bool b
theorem flat_lay {d : PyData} (h : FlatT d) : d.canLay0 = true ∧ d.depth ≤ 1 := by
  obtain ⟨ds, rfl, h⟩ := h
  induction ds with
  | nil => exact ⟨rfl, by simp [PyData.depth, PyData.depthAll]⟩
  | cons e r ih =>
    obtain ⟨h1, h2⟩ := ih fun x hx => h x (.tail _ hx)
    rcases h e (.head _) with ⟨i, rfl⟩ | ⟨b, rfl⟩
    · exact ⟨by simpa [PyData.canLay0, PyData.canLayAll0] using h1, by simpa [PyData.depth, PyData.depthAll] using h2⟩
    · exact ⟨by simpa [PyData.canLay0, PyData.canLayAll0] using h1, by simpa [PyData.depth, PyData.depthAll] using h2⟩
theorem flats_lay : ∀ {ds : List PyData}, (∀ d ∈ ds, FlatT d) → SeqAt.shaped (.list ds) = true := by
  intro ds h
  have key : PyData.canLayAll0 ds = true ∧ PyData.depthAll ds ≤ 1 := by
    induction ds with
    | nil => exact ⟨rfl, by simp [PyData.depthAll]⟩
    | cons e r ih =>
      obtain ⟨h1, h2⟩ := ih fun x hx => h x (.tail _ hx)
      obtain ⟨h3, h4⟩ := flat_lay (h e (.head _))
      exact ⟨by simp [PyData.canLayAll0, h1, h3], by simp only [PyData.depthAll]; omega⟩
  unfold SeqAt.shaped
  rw [show PyData.canLay0 (.list ds) = PyData.canLayAll0 ds from rfl, key.1, Bool.true_and]
  exact decide_eq_true (by simp only [PyData.depth]; omega)

theorem pts_reads (N : News h₀ L h news) {ν : List (Addr × Obj)} {vs : List Value} {ps : List (Int × Int)} (hp : PtsAt ν vs ps) (hs : ∀ p ∈ ν, p ∈ news) : ∃ ds as, ReadsAll h vs ds as ∧ (∀ d ∈ ds, FlatT d) ∧ (ds = [] ↔ ps = []) := by
  induction hp with
  | nil => exact ⟨[], [], .nil, (fun _ h => nomatch h), by simp⟩
  | @cons a x y t1 t2 b k vs ps hm _ ih =>
    obtain ⟨ds, as, h1, h2, _⟩ := ih
    have r : Reads h (.ref a) (.tuple [.int x, .int y, .bool b]) _ := reads_tuple_at (N.get (hs _ hm)) rfl rfl (.cons (.int x t1) (.cons (.int y t2) (.cons (.bool b) .nil)))
    refine ⟨_ :: ds, _, .cons r h1, fun d hd => ?_, by simp⟩
    rcases List.mem_cons.mp hd with rfl | hd
    · refine ⟨_, rfl, fun e he => ?_⟩
      simp only [List.mem_cons, List.not_mem_nil, or_false] at he
      rcases he with rfl | rfl | rfl
      · exact .inl ⟨_, rfl⟩
      · exact .inl ⟨_, rfl⟩
      · exact .inr ⟨_, rfl⟩
    · exact h2 d hd

theorem eq_nil {f l : Addr} {ws : List Value} {kk k2 : Nat} {ds : List PyData} {as : List Addr} (N : News h₀ L s.heap news) (hf : (f, PySem.W.listOf ws.toArray kk) ∈ news) (hl : (l, PySem.W.listOf #[] k2) ∈ news)
    (hr : ReadsAll s.heap ws ds as) (hd : ∀ d ∈ ds, FlatT d) (hu : A.units + 64 < cLine) (h : Q (.bool (decide (ds = []))) s) : wpAny (model prog w) A (compareOp .Eq (.ref f) (.ref l)) Q E s := by
  have ra : Reads s.heap (.ref f) (.list ds) _ := reads_list_at (N.get hf) rfl rfl (by simpa using hr)
  have rb : Reads s.heap (.ref l) (.list []) _ := reads_list_at (N.get hl) rfl rfl (by simpa using ReadsAll.nil)
  refine eq_dataH ra rb (flats_lay hd) (flats_lay (fun _ h => nomatch h)) hu ?_
  have e : PyData.eqv (.list ds) (.list []) = decide (ds = []) := by
    cases ds <;> simp [PyData.eqv, PyData.eqvAll]
  rw [e]
  exact h

theorem eq_nil_pts {f l : Addr} {ws : List Value} {kk k2 : Nat} {ν : List (Addr × Obj)} {ps : List (Int × Int)} (N : News h₀ L s.heap news) (hf : (f, PySem.W.listOf ws.toArray kk) ∈ news) (hl : (l, PySem.W.listOf #[] k2) ∈ news)
    (hp : PtsAt ν ws ps) (hs : ∀ p ∈ ν, p ∈ news) (hu : A.units + 64 < cLine) (h : Q (.bool (decide (ps = []))) s) : wpAny (model prog w) A (compareOp .Eq (.ref f) (.ref l)) Q E s := by
  obtain ⟨ds, as, h1, h2, h3⟩ := pts_reads N hp hs
  refine eq_nil N hf hl h1 h2 hu ?_
  rw [show decide (ds = []) = decide (ps = []) from decide_eq_decide.mpr h3]
  exact h
end
end

section
open PySem.Spec PySem.Calls PyProof.V
section
variable {prog : Program} {w : World} {A : Around} {E : Value → Shared → Prop} {s : Shared} {Q : Value → Shared → Prop}
theorem shaped4 (x0 y0 x1 y1 : Int) : SeqAt.shaped (.tuple [.int x0, .int y0, .int x1, .int y1]) = true := rfl
/-- two tuples of the same four ints are equal -/
theorem eq_box {a b : Addr} {x0 y0 x1 y1 : Int} {t1 t2 t3 t4 u1 u2 u3 u4 : Tok} {k l : Nat} (ha : s.heap.get? a = some (tupO #[.int x0 t1, .int y0 t2, .int x1 t3, .int y1 t4] k)) (hb : s.heap.get? b = some (tupO #[.int x0 u1, .int y0 u2, .int x1 u3, .int y1 u4] l))
    (hu : A.units + 64 < cLine) (h : Q (.bool true) s) : wpAny (model prog w) A (compareOp .Eq (.ref a) (.ref b)) Q E s := by
  have ra : Reads s.heap (.ref a) (.tuple [.int x0, .int y0, .int x1, .int y1]) _ := reads_tuple_at ha rfl rfl (.cons (.int _ _) (.cons (.int _ _) (.cons (.int _ _) (.cons (.int _ _) .nil))))
  have rb : Reads s.heap (.ref b) (.tuple [.int x0, .int y0, .int x1, .int y1]) _ := reads_tuple_at hb rfl rfl (.cons (.int _ _) (.cons (.int _ _) (.cons (.int _ _) (.cons (.int _ _) .nil))))
  refine eq_dataH ra rb (shaped4 _ _ _ _) (shaped4 _ _ _ _) hu ?_
  have e : PyData.eqv (.tuple [.int x0, .int y0, .int x1, .int y1]) (.tuple [.int x0, .int y0, .int x1, .int y1]) = true := by
    simp [PyData.eqv, PyData.eqvAll]
  rw [e]
  exact h
theorem no_box {w : World} {h₀ h : Heap} {L : Addr} {m : Str → Option Value} (X : (kdef.heap_1 w.params).In h₀) (F : Fr h₀ L h m) : ∃ t1 t2 t3 t4 k, h.get? 149 = some (tupO #[.int 0 t1, .int 0 t2, .int 0 t3, .int 0 t4] k) :=
  ⟨_, _, _, _, _, F.keep 149 _ (X 149 _ (by k_is))⟩
end
end

section
def IsMin (M : Int) (ns : List Int) : Prop := M ∈ ns ∧ ∀ a ∈ ns, M ≤ a
def IsMax (M : Int) (ns : List Int) : Prop := M ∈ ns ∧ ∀ a ∈ ns, a ≤ M
/-- the box of least and greatest points -/
def BoxOf (low high : List (Int × Int)) (x0 y0 x1 y1 : Int) : Prop :=
  IsMin x0 (low.map (·.1)) ∧ IsMin y0 (low.map (·.2)) ∧ IsMax x1 (high.map (·.1)) ∧ IsMax y1 (high.map (·.2))
/-- what Outline.box hands back -/
def OutBox (ps : List (Int × Int)) (x0 y0 x1 y1 : Int) : Prop := (ps = [] ∧ x0 = 0 ∧ y0 = 0 ∧ x1 = 0 ∧ y1 = 0) ∨ (ps ≠ [] ∧ BoxOf ps ps x0 y0 x1 y1)

section
set_option maxHeartbeats 400000 in
theorem box_c {prog : Program} {w : World} {p : Program} {loose : List Str} {mean : ExcName → Option Value} {mg mb : Str → Option Value}
    {dp un : Nat} {gd : Option (List Code)} {cn : Str} {cs : Scope} {a : Addr} {ccd : Value} {cl : List (Str × Addr)} {outer : List Env} {A₀ : Around} {base h₀ : Heap} {L : Addr} {m : Str → Option Value} {s : Shared} {Q E : Value → Shared → Prop}
    {o : Addr} {css : List (List (Int × Int))} {own : List (Addr × Obj)}
    (B : Below A₀ base outer h₀) (F : Fr h₀ L s.heap m) (X : (kdef.heap_1 w.params).In h₀) (N : News h₀ L s.heap (own)) (T : Top p loose mean mg mb h₀) (hk : cs.kind = .function) (hroom : dp + 5 < recursionLimit) (hu : un + 200 < cLine) (ho : OutAt own o css)
    (ret : ∀ (b : Addr) (x0 y0 x1 y1 : Int) (t1 t2 t3 t4 : Tok) (k : Nat) (h' : Heap) (tk' : Nat), Fr h₀ L h' m → News h₀ L h' ((b, tupO #[.int x0 t1, .int y0 t2, .int x1 t3, .int y1 t4] k) :: own) → (∀ p ∈ own, p.1 < b) → OutBox css.flatten x0 y0 x1 y1 → Q (.ref b) { s with heap := h', toks := tk' }) :
    wpAny (model prog w) (ktrTop dp un gd cn cs L a ccd cl outer) (call (.ref 233) [.ref o]) Q E s := by
  k_with_none
  k_with "ne" => (refine neN ?_; (try dsimp only); first | with_reducible assumption | with_reducible exact Ne.symm (by assumption) | with_reducible exact And.left (by assumption) | with_reducible exact Ne.symm (And.left (by assumption)) | with_reducible exact And.left (And.right (by assumption)) | with_reducible exact Ne.symm (And.left (And.right (by assumption))) | with_reducible exact And.right (by assumption) | with_reducible exact Ne.symm (And.right (by assumption)) | with_reducible exact And.left (And.right (And.right (by assumption))) | with_reducible exact Ne.symm (And.left (And.right (And.right (by assumption)))) | with_reducible exact And.right (And.right (by assumption)) | with_reducible exact Ne.symm (And.right (And.right (by assumption))) | with_reducible exact And.left (And.right (And.right (And.right (by assumption)))) | with_reducible exact Ne.symm (And.left (And.right (And.right (And.right (by assumption))))) | with_reducible exact And.right (And.right (And.right (by assumption))) | with_reducible exact Ne.symm (And.right (And.right (And.right (by assumption)))) | with_reducible exact Nat.ne_of_gt (And.left (by assumption)) | with_reducible exact Nat.ne_of_lt (And.left (by assumption)) | with_reducible exact Nat.ne_of_gt (And.left (And.right (by assumption))) | with_reducible exact Nat.ne_of_lt (And.left (And.right (by assumption))) | with_reducible exact Nat.ne_of_gt (And.left (And.right (And.right (by assumption)))) | with_reducible exact Nat.ne_of_lt (And.left (And.right (And.right (by assumption)))) | with_reducible exact Nat.ne_of_gt (And.left (And.right (And.right (And.right (by assumption))))) | with_reducible exact Nat.ne_of_lt (And.left (And.right (And.right (And.right (by assumption))))) | with_reducible exact Nat.ne_of_gt (And.left (And.right (And.right (And.right (And.right (by assumption)))))) | with_reducible exact Nat.ne_of_lt (And.left (And.right (And.right (And.right (And.right (by assumption)))))) | with_reducible exact Nat.ne_of_gt (And.left (And.right (And.right (And.right (And.right (And.right (by assumption))))))) | with_reducible exact Nat.ne_of_lt (And.left (And.right (And.right (And.right (And.right (And.right (by assumption))))))) | with_reducible exact Nat.ne_of_gt (And.left (And.right (And.right (And.right (And.right (And.right (And.right (by assumption)))))))) | with_reducible exact Nat.ne_of_lt (And.left (And.right (And.right (And.right (And.right (And.right (And.right (by assumption)))))))) | with_reducible exact Nat.ne_of_gt (And.left (And.right (And.right (And.right (And.right (And.right (And.right (And.right (by assumption))))))))) | with_reducible exact Nat.ne_of_lt (And.left (And.right (And.right (And.right (And.right (And.right (And.right (And.right (by assumption))))))))) | with_reducible exact Nat.ne_of_gt (And.left (And.right (And.right (And.right (And.right (And.right (And.right (And.right (And.right (by assumption)))))))))) | with_reducible exact Nat.ne_of_lt (And.left (And.right (And.right (And.right (And.right (And.right (And.right (And.right (And.right (by assumption)))))))))) | omega)
  k_with "call ref" => ( k_here; k_dflt (show wpAny _ _ (call (Value.ref 214) [Value.ref _]) _ _ _); k_dflt (refine' pts_u ?zzqk1 ?zzqk2 ?zzqk3 ?zzqk4 ?zzqk5 ?zzqk6 ?zzqk7 ?zzqk8 ?zzqe1 ?_; (case zzqk1 => k_asm); (case zzqk2 => k_asm); (case zzqk3 => k_asm); (case zzqk4 => k_asm); (case zzqk5 => k_asm); (case zzqk6 => first | exact rfl | assumption); (case zzqk7 => ktr_room); (case zzqk8 => ktr_units); (case zzqe1 => assumption); k_whole); intros; (try dsimp only); (try k_sweep); (try k_fold); walk_say "PTS")
  k_with "call type:list" => (k_here; (with_reducible show wpAny _ _ (call (Value.type _) [Value.ref _]) _ _ _); k_dflt (refine' list_copyL ?zzqF ?zzqN ?zzqb ?zzqz ?_; (case zzqF => k_asm); (case zzqN => k_asm); (case zzqb => k_mem); (case zzqz => first | omega | (simp only [List.length_append]; omega)); k_whole); intros; (try (rename_i l1; k_lt l1; revert l1; intro _)); (try k_sweep))
  k_with "binaryOp Add ref ref" => (k_here; (with_reducible show wpAny _ _ (binaryOp _ (Value.ref _) (Value.ref _)) _ _ _); k_dflt (refine' add_listL ?zzqF ?zzqN ?zzqa ?zzqb ?zzqz ?_; (case zzqF => k_asm); (case zzqN => k_asm); (case zzqa => k_mem); (case zzqb => k_mem); (case zzqz => first | omega | (simp only [List.length_append]; omega)); k_whole); intros; (try (rename_i l1; k_lt l1; revert l1; intro _)); (try k_sweep))
  k_with "eval ListComp" => (k_here; k_dflt (refine comp_led (by k_asm) (by rfl) (by decide) (by rfl) (by decide) ?_))
  k_with "exec Assign cons ListComp" => (k_here; k_dflt (refine comp_ledA (by k_asm) (by rfl) (by with_unfolding_all rfl) (by rfl) (by decide) (by rfl) (by decide) (by rfl) (by rfl) ?_))
  k_with "CSrc" => (k_dflt (refine held ?_))
  k_with "CSrcA" => (k_dflt (refine held ?_))
  k_with "call builtin:min" => (k_here; (with_reducible show wpAny _ _ (call (Value.builtin _) [Value.ref _]) _ _ _); k_dflt (refine' min_list_N ?zzqk1 ?zzqk2 ?zzqk3 ?zzqk4 ?zzqk5 ?zzqk6 ?_; (case zzqk1 => with_unfolding_all rfl); (case zzqk2 => k_asm); (case zzqk3 => k_asm); (case zzqk4 => exact News.isList (by k_asm) (by k_mem)); (case zzqk5 => assumption); (case zzqk6 => (simp only [List.length_map]; first | assumption | exact List.length_pos_iff.mpr (by assumption) | exact List.length_pos_iff.mpr (fun e => absurd (Iff.mpr (by assumption) e) (by assumption)))); k_whole); intros; (try k_sweep))
  k_with "call builtin:max" => (k_here; (with_reducible show wpAny _ _ (call (Value.builtin _) [Value.ref _]) _ _ _); k_dflt (refine' max_list_N ?zzqk1 ?zzqk2 ?zzqk3 ?zzqk4 ?zzqk5 ?zzqk6 ?_; (case zzqk1 => with_unfolding_all rfl); (case zzqk2 => k_asm); (case zzqk3 => k_asm); (case zzqk4 => exact News.isList (by k_asm) (by k_mem)); (case zzqk5 => assumption); (case zzqk6 => (simp only [List.length_map]; first | assumption | exact List.length_pos_iff.mpr (by assumption) | exact List.length_pos_iff.mpr (fun e => absurd (Iff.mpr (by assumption) e) (by assumption)))); k_whole); intros; (try k_sweep))
  k_with "compareOp Eq ref ref" => (k_here; (with_reducible show wpAny _ _ (compareOp CmpOp.Eq (Value.ref _) (Value.ref _)) _ _ _); k_dflt (refine' eq_nil_pts ?zzqN ?zzqa ?zzqb ?zzqp ?zzqs ?zzqu ?_; (case zzqN => k_asm); (case zzqa => k_mem); (case zzqb => k_mem); (case zzqp => assumption); (case zzqs => intro p hp; simp only [List.mem_cons]; simp only [hp, or_true]); (case zzqu => ktr_units); k_whole))
  have ho' := ho
  obtain ⟨d, c, h1, h2, t1, t2, vi, k, vs, a1, a2, a3, a4, a5⟩ := ho'
  refine wpAny_call ?_
  k_dflt cell_enter
  k_steps
  · rename_i hnil D9 _ _ _ l9 _ kN _ _
    exact ret D9 0 0 0 0 _ _ _ _ 0 _ _ (by k_asm) (fun p hp => kN p (by
      rcases List.mem_cons.mp hp with rfl | hp
      · exact .head _
      · exact .tail _ (.tail _ (.tail _ hp)))) (tb_ltOf l9.2.2) (.inl ⟨hnil, rfl, rfl, rfl, rfl⟩)
  rename_i f9 ws kk _ _ l0 hps hwl _ _ l9 _ F9 N9 l10 hne
  refine Held.go ?_
  refine ⟨f9, ws, kk, _, fun i ys nw => (∀ p ∈ own, p ∈ nw) ∧ (f9, PySem.W.listOf ws.toArray kk) ∈ nw ∧ IntsAre ys ((css.flatten.take i).map (·.1)), rfl, rfl, by k_asm, by k_asm, by k_mem, by omega, ⟨fun p hp => .tail _ (.tail _ hp), by k_mem, .nil⟩, ?_, ?_⟩
  · rintro i ys nw v I oI C oC D m₂ s₂ E' hv hl ⟨hown, hf, hia⟩ _ hC F10 N10 off ne
    obtain ⟨a9, x9, y9, u1, u2, b9, k9, rfl, hpt, ha⟩ := hps.get hv
    refine assign3_led rfl rfl (by rfl) (by rfl) (by rfl) (by decide) (by decide) (by decide) F10 N10 hC (off_C off ne) (.tail _ (.tail _ (hown _ ha))) fun h' tk oC' m₃ hC' e1 e2 e3 F11 N11 => ?_
    (try dsimp only)
    (try k_fold)
    k_steps
    refine CEnd.sameC hC' F11 N11 off hf ⟨hown, hf, ?_⟩
    rw [List.take_add_one, hpt, List.map_append]
    exact ints_snoc hia
  · rintro ys nw D h tk hl ⟨hown, hf, hia⟩ F10 N10 off
    (try dsimp only)
    k_steps
    refine Held.go ?_
    refine ⟨f9, ws, kk, _, fun i ys2 nw2 => (∀ p ∈ own, p ∈ nw2) ∧ (D, LCg.lst ys) ∈ nw2 ∧ (f9, PySem.W.listOf ws.toArray kk) ∈ nw2 ∧ IntsAre ys2 ((css.flatten.take i).map (·.2)), rfl, rfl, by k_asm, N10, .tail _ hf, by omega, ⟨fun p hp => .tail _ (hown p hp), .head _, .tail _ hf, .nil⟩, ?_, ?_⟩
    · rintro i ys2 nw2 v I oI C oC D2 m₂ s₂ E' hv hl2 ⟨hown2, hD, hf2, hia2⟩ _ hC F11 N11 off2 ne
      obtain ⟨a9, x9, y9, u1, u2, b9, k9, rfl, hpt, ha⟩ := hps.get hv
      refine assign3_led rfl rfl (by rfl) (by rfl) (by rfl) (by decide) (by decide) (by decide) F11 N11 hC (off_C off2 ne) (.tail _ (.tail _ (hown2 _ ha))) fun h' tk oC' m₃ hC' e1 e2 e3 F12 N12 => ?_
      (try dsimp only)
      (try k_fold)
      k_steps
      refine CEnd.sameC hC' F12 N12 off2 hf2 ⟨hown2, hD, hf2, ?_⟩
      rw [List.take_add_one, hpt, List.map_append]
      exact ints_snoc hia2
    · rintro ys2 nw2 D2 h2 tk2 hl2 ⟨hown2, hD, hf2, hia2⟩ F11 N11 off2
      rw [hps.length, List.take_length] at hia hia2
      have hpos : 0 < css.flatten.length := List.length_pos_iff.mpr hne
      (try dsimp only)
      k_steps
      rename_i _ M0 u0 _ a0 b0 _ M1 u1 _ a1 b1 _ M2 u2 _ a2 b2 _ M3 u3 _ a3 b3 D9 _ _ _ l9 _ kN _ _
      exact ret D9 M0 M1 M2 M3 _ _ _ _ 0 _ _ (by k_asm) (fun p hp => kN p (by
        rcases List.mem_cons.mp hp with rfl | hp
        · exact .head _
        · exact .tail _ (.tail _ (hown2 p hp)))) (fun p hp => tb_ltOf l9.2 p (hown2 p hp)) (.inr ⟨hne, ⟨a0, b0⟩, ⟨a1, b1⟩, ⟨a2, b2⟩, ⟨a3, b3⟩⟩)
end
end

section
theorem box_u {prog : Program} {w : World} {p : Program} {loose : List Str} {mean : ExcName → Option Value} {mg mb : Str → Option Value}
    {dp un : Nat} {gd : Option (List Code)} {cn : Str} {cs : Scope} {a : Addr} {ccd : Value} {cl : List (Str × Addr)} {outer : List Env} {A₀ : Around} {base h₀ : Heap} {L : Addr} {m : Str → Option Value} {s : Shared} {Q E : Value → Shared → Prop}
    {o : Addr} {css : List (List (Int × Int))} {own : List (Addr × Obj)}
    (B : Below A₀ base outer h₀) (F : Fr h₀ L s.heap m) (X : (kdef.heap_1 w.params).In h₀) (N : News h₀ L s.heap (own)) (T : Top p loose mean mg mb h₀) (hk : cs.kind = .function) (hroom : dp + 5 < recursionLimit) (hu : un + 200 < cLine) (ho : OutAt own o css)
    (ret : ∀ (b : Addr) (x0 y0 x1 y1 : Int) (t1 t2 t3 t4 : Tok) (k : Nat) (h' : Heap) (tk' : Nat), Fr h₀ L h' m → News h₀ L h' ((b, tupO #[.int x0 t1, .int y0 t2, .int x1 t3, .int y1 t4] k) :: own) → (∀ p ∈ own, p.1 < b) → OutBox css.flatten x0 y0 x1 y1 → Q (.ref b) { s with heap := h', toks := tk' }) :
    wpAny (model prog w) (ktrTop dp un gd cn cs L a ccd cl outer) (call (.ref 233) [.ref o]) Q E s := box_c B F X N T hk hroom hu ho ret

abbrev LetD (h1 h2 h3 h4 h5 : Int) (t1 t2 t3 t4 t5 : Tok) (va vb vo vp vx : Value) : Obj :=
  dictOf [⟨h1, .str "advance" t1, va⟩, ⟨h2, .str "bearing" t2, vb⟩, ⟨h3, .str "outline" t3, vo⟩, ⟨h4, .str "parts" t4, vp⟩, ⟨h5, .str "box" t5, vx⟩] 5

/-- the points of what stands under outline -/
inductive PtsOf (ν : List (Addr × Obj)) : Value → List (Int × Int) → Prop
  | none : PtsOf ν .none []
  | out {o : Addr} {css : List (List (Int × Int))} : OutAt ν o css → PtsOf ν (.ref o) css.flatten

theorem PtsOf.mono {ν ν' : List (Addr × Obj)} (hs : ∀ p ∈ ν, p ∈ ν') {v : Value} {ps : List (Int × Int)} (h : PtsOf ν v ps) : PtsOf ν' v ps := by
  cases h with
  | none => exact .none
  | out a => exact .out (a.mono hs)

section
set_option maxHeartbeats 400000 in
theorem lpts_c {prog : Program} {w : World} {p : Program} {loose : List Str} {mean : ExcName → Option Value} {mg mb : Str → Option Value}
    {dp un : Nat} {gd : Option (List Code)} {cn : Str} {cs : Scope} {a : Addr} {ccd : Value} {cl : List (Str × Addr)} {outer : List Env} {A₀ : Around} {base h₀ : Heap} {L : Addr} {m : Str → Option Value} {s : Shared} {Q E : Value → Shared → Prop}
    {la d : Addr} {g1 g2 g3 g4 g5 : Int} {t1 t2 t3 t4 t5 : Tok} {va vb vo vp vx : Value} {ps : List (Int × Int)} {own : List (Addr × Obj)}
    (B : Below A₀ base outer h₀) (F : Fr h₀ L s.heap m) (X : (kdef.heap_1 w.params).In h₀) (N : News h₀ L s.heap (own)) (T : Top p loose mean mg mb h₀) (hk : cs.kind = .function) (hroom : dp + 5 < recursionLimit) (hu : un + 200 < cLine) (ha : (la, instObj 181 d) ∈ own) (hdd : (d, LetD g1 g2 g3 g4 g5 t1 t2 t3 t4 t5 va vb vo vp vx) ∈ own) (hp : PtsOf own vo ps)
    (ret : ∀ (b : Addr) (n1 : Int) (v2 : Value) (t1 : Tok) (k : Nat) (h' : Heap) (tk' : Nat), Fr h₀ L h' m → News h₀ L h' ((b, tupO #[.int n1 t1, v2] k) :: own) → (∀ p ∈ own, p.1 < b) → n1 = ps.length → Q (.ref b) { s with heap := h', toks := tk' }) :
    wpAny (model prog w) (ktrTop dp un gd cn cs L a ccd cl outer) (call (.ref 178) [.ref la]) Q E s := by
  k_with_none
  k_with "ne" => (refine neN ?_; (try dsimp only); first | with_reducible assumption | with_reducible exact Ne.symm (by assumption) | with_reducible exact And.left (by assumption) | with_reducible exact Ne.symm (And.left (by assumption)) | with_reducible exact And.left (And.right (by assumption)) | with_reducible exact Ne.symm (And.left (And.right (by assumption))) | with_reducible exact And.right (by assumption) | with_reducible exact Ne.symm (And.right (by assumption)) | with_reducible exact And.left (And.right (And.right (by assumption))) | with_reducible exact Ne.symm (And.left (And.right (And.right (by assumption)))) | with_reducible exact And.right (And.right (by assumption)) | with_reducible exact Ne.symm (And.right (And.right (by assumption))) | with_reducible exact And.left (And.right (And.right (And.right (by assumption)))) | with_reducible exact Ne.symm (And.left (And.right (And.right (And.right (by assumption))))) | with_reducible exact And.right (And.right (And.right (by assumption))) | with_reducible exact Ne.symm (And.right (And.right (And.right (by assumption)))) | with_reducible exact Nat.ne_of_gt (And.left (by assumption)) | with_reducible exact Nat.ne_of_lt (And.left (by assumption)) | with_reducible exact Nat.ne_of_gt (And.left (And.right (by assumption))) | with_reducible exact Nat.ne_of_lt (And.left (And.right (by assumption))) | with_reducible exact Nat.ne_of_gt (And.left (And.right (And.right (by assumption)))) | with_reducible exact Nat.ne_of_lt (And.left (And.right (And.right (by assumption)))) | with_reducible exact Nat.ne_of_gt (And.left (And.right (And.right (And.right (by assumption))))) | with_reducible exact Nat.ne_of_lt (And.left (And.right (And.right (And.right (by assumption))))) | with_reducible exact Nat.ne_of_gt (And.left (And.right (And.right (And.right (And.right (by assumption)))))) | with_reducible exact Nat.ne_of_lt (And.left (And.right (And.right (And.right (And.right (by assumption)))))) | with_reducible exact Nat.ne_of_gt (And.left (And.right (And.right (And.right (And.right (And.right (by assumption))))))) | with_reducible exact Nat.ne_of_lt (And.left (And.right (And.right (And.right (And.right (And.right (by assumption))))))) | with_reducible exact Nat.ne_of_gt (And.left (And.right (And.right (And.right (And.right (And.right (And.right (by assumption)))))))) | with_reducible exact Nat.ne_of_lt (And.left (And.right (And.right (And.right (And.right (And.right (And.right (by assumption)))))))) | with_reducible exact Nat.ne_of_gt (And.left (And.right (And.right (And.right (And.right (And.right (And.right (And.right (by assumption))))))))) | with_reducible exact Nat.ne_of_lt (And.left (And.right (And.right (And.right (And.right (And.right (And.right (And.right (by assumption))))))))) | with_reducible exact Nat.ne_of_gt (And.left (And.right (And.right (And.right (And.right (And.right (And.right (And.right (And.right (by assumption)))))))))) | with_reducible exact Nat.ne_of_lt (And.left (And.right (And.right (And.right (And.right (And.right (And.right (And.right (And.right (by assumption)))))))))) | omega)
  k_with "call ref" => ( k_here; k_dflt (show wpAny _ _ (call (Value.ref 214) [Value.ref _]) _ _ _); k_dflt (refine' pts_u ?zzqk1 ?zzqk2 ?zzqk3 ?zzqk4 ?zzqk5 ?zzqk6 ?zzqk7 ?zzqk8 ?zzqe1 ?_; (case zzqk1 => k_asm); (case zzqk2 => k_asm); (case zzqk3 => k_asm); (case zzqk4 => k_asm); (case zzqk5 => k_asm); (case zzqk6 => first | exact rfl | assumption); (case zzqk7 => ktr_room); (case zzqk8 => ktr_units); (case zzqe1 => assumption); k_whole); intros; (try dsimp only); (try k_sweep); (try k_fold); walk_say "PTS")
  k_with "call builtin:len" => (k_here; (with_reducible show wpAny _ _ (call (Value.builtin _) [Value.ref _]) _ _ _); k_dflt (refine' len_listL ?zzqN ?zzqb ?zzqz ?_; (case zzqN => k_asm); (case zzqb => k_mem); (case zzqz => omega); k_whole))
  cases hp with
  | none =>
    refine wpAny_call ?_
    k_dflt cell_enter
    k_steps
    rename_i D9 _ _ _ l9 _ kN _ _
    exact ret D9 _ _ _ _ _ _ (by k_asm) kN l9 rfl
  | @out o css hout =>
    have hout' := hout
    obtain ⟨d9, c9, h1, h2, u1, u2, vi, k9, vs, a1, a2, a3, a4, a5⟩ := hout'
    have hvl := a4.length
    refine wpAny_call ?_
    k_dflt cell_enter
    k_steps
    rename_i ws _ _ _ _ hps _ D9 _ _ _ l9 _ kN _ _
    exact ret D9 _ _ _ _ _ _ (by k_asm) (fun p hp => kN p (by
      rcases List.mem_cons.mp hp with rfl | hp
      · exact .head _
      · exact .tail _ (.tail _ hp))) (tb_ltOf l9.2) (by rw [hps.length])
end

/-- what a letter gives to the box, by its outline, its parts, its own box -/
inductive LetK (ν : List (Addr × Obj)) : Value → Value → Int → Int → Int → Int → List (Int × Int) → List (Int × Int) → Prop
  | bare {x0 y0 x1 y1 : Int} : LetK ν .none .none x0 y0 x1 y1 [] []
  | parts {q : Addr} {x0 y0 x1 y1 : Int} : LetK ν .none (.ref q) x0 y0 x1 y1 [(x0, y0)] [(x1, y1)]
  | empty {o : Addr} {css : List (List (Int × Int))} {x0 y0 x1 y1 : Int} : OutAt ν o css → css.flatten = [] → LetK ν (.ref o) .none x0 y0 x1 y1 [] []
  | hollow {o q : Addr} {css : List (List (Int × Int))} {x0 y0 x1 y1 : Int} : OutAt ν o css → css.flatten = [] → LetK ν (.ref o) (.ref q) x0 y0 x1 y1 [(0, 0)] [(0, 0)]
  | full {o : Addr} {css : List (List (Int × Int))} {x0 y0 x1 y1 : Int} : OutAt ν o css → css.flatten ≠ [] → LetK ν (.ref o) .none x0 y0 x1 y1 css.flatten css.flatten
  | both {o q : Addr} {css : List (List (Int × Int))} {x0 y0 x1 y1 : Int} : OutAt ν o css → css.flatten ≠ [] → LetK ν (.ref o) (.ref q) x0 y0 x1 y1 css.flatten css.flatten
theorem LetK.mono {ν ν' : List (Addr × Obj)} (hs : ∀ p ∈ ν, p ∈ ν') {vo vp : Value} {x0 y0 x1 y1 : Int} {low high : List (Int × Int)} (h : LetK ν vo vp x0 y0 x1 y1 low high) : LetK ν' vo vp x0 y0 x1 y1 low high := by
  cases h with
  | bare => exact .bare
  | parts => exact .parts
  | empty a b => exact .empty (a.mono hs) b
  | hollow a b => exact .hollow (a.mono hs) b
  | full a b => exact .full (a.mono hs) b
  | both a b => exact .both (a.mono hs) b

structure LetAt (ν : List (Addr × Obj)) (v : Value) (r : List (Int × Int) × List (Int × Int)) : Prop where
  said : ∃ (a d b : Addr) (g1 g2 g3 g4 g5 : Int) (t1 t2 t3 t4 t5 u1 u2 u3 u4 : Tok) (va vb vo vp : Value) (x0 y0 x1 y1 : Int) (k : Nat), v = .ref a ∧ (a, instObj 181 d) ∈ ν ∧ (d, LetD g1 g2 g3 g4 g5 t1 t2 t3 t4 t5 va vb vo vp (.ref b)) ∈ ν ∧
    (b, tupO #[.int x0 u1, .int y0 u2, .int x1 u3, .int y1 u4] k) ∈ ν ∧ LetK ν vo vp x0 y0 x1 y1 r.1 r.2
theorem LetAt.mono {ν ν' : List (Addr × Obj)} (hs : ∀ p ∈ ν, p ∈ ν') {v : Value} {r : List (Int × Int) × List (Int × Int)} : LetAt ν v r → LetAt ν' v r :=
  fun ⟨a, d, b, g1, g2, g3, g4, g5, t1, t2, t3, t4, t5, u1, u2, u3, u4, va, vb, vo, vp, x0, y0, x1, y1, k, e, h1, h2, h3, h4⟩ => ⟨a, d, b, g1, g2, g3, g4, g5, t1, t2, t3, t4, t5, u1, u2, u3, u4, va, vb, vo, vp, x0, y0, x1, y1, k, e, hs _ h1, hs _ h2, hs _ h3, h4.mono hs⟩

/-- a list of letters -/
inductive LetsAt (ν : List (Addr × Obj)) : List Value → List (List (Int × Int) × List (Int × Int)) → Prop
  | nil : LetsAt ν [] []
  | cons {v : Value} {r : List (Int × Int) × List (Int × Int)} {vs : List Value} {rs : List (List (Int × Int) × List (Int × Int))} : LetAt ν v r → LetsAt ν vs rs → LetsAt ν (v :: vs) (r :: rs)
theorem LetsAt.mono {ν ν' : List (Addr × Obj)} (hs : ∀ p ∈ ν, p ∈ ν') {vs : List Value} {rs : List (List (Int × Int) × List (Int × Int))} (h : LetsAt ν vs rs) : LetsAt ν' vs rs := by
  induction h with
  | nil => exact .nil
  | cons a _ ih => exact .cons (a.mono hs) ih
theorem LetsAt.length {ν : List (Addr × Obj)} {vs : List Value} {rs : List (List (Int × Int) × List (Int × Int))} (h : LetsAt ν vs rs) : vs.length = rs.length := by
  induction h with
  | nil => rfl
  | cons _ _ ih => simp [ih]
theorem LetsAt.append {ν : List (Addr × Obj)} {vs ws : List Value} {rs qs : List (List (Int × Int) × List (Int × Int))} (h : LetsAt ν vs rs) (k : LetsAt ν ws qs) : LetsAt ν (vs ++ ws) (rs ++ qs) := by
  induction h with
  | nil => exact k
  | cons a _ ih => exact .cons a ih
theorem LetsAt.reverse {ν : List (Addr × Obj)} {vs : List Value} {rs : List (List (Int × Int) × List (Int × Int))} (h : LetsAt ν vs rs) : LetsAt ν vs.reverse rs.reverse := by
  induction h with
  | nil => exact .nil
  | cons a _ ih => rw [List.reverse_cons, List.reverse_cons]; exact ih.append (.cons a .nil)
theorem LetsAt.get {ν : List (Addr × Obj)} {vs : List Value} {rs : List (List (Int × Int) × List (Int × Int))} (h : LetsAt ν vs rs) : ∀ {i : Nat} {v : Value}, vs[i]? = some v → ∃ r, rs[i]? = some r ∧ LetAt ν v r := by
  induction h with
  | nil => intro i v e; simp at e
  | @cons v r vs rs a _ ih =>
    intro i w e
    cases i with
    | zero => simp at e; exact ⟨r, by simp, e ▸ a⟩
    | succ i => simpa using ih (by simpa using e)
end

section
section
set_option maxHeartbeats 400000 in
/-- a Part: what it holds is never read -/
theorem part_c {prog : Program} {w : World} {p : Program} {loose : List Str} {mean : ExcName → Option Value} {mg mb : Str → Option Value}
    {dp un : Nat} {gd : Option (List Code)} {cn : Str} {cs : Scope} {a : Addr} {ccd : Value} {cl : List (Str × Addr)} {outer : List Env} {A₀ : Around} {base h₀ : Heap} {L : Addr} {m : Str → Option Value} {s : Shared} {Q E : Value → Shared → Prop}
    {va vb vc : Value} {own : List (Addr × Obj)}
    (B : Below A₀ base outer h₀) (F : Fr h₀ L s.heap m) (X : (kdef.heap_1 w.params).In h₀) (N : News h₀ L s.heap (own)) (T : Top p loose mean mg mb h₀) (hk : cs.kind = .function) (hroom : dp + 3 < recursionLimit) (hu : un + 32 < cLine)
    (ret : ∀ (x : Addr) (h' : Heap) (tk' : Nat), Fr h₀ L h' m → News h₀ L h' own → Q (.ref x) { s with heap := h', toks := tk' }) :
    wpAny (model prog w) (ktrTop dp un gd cn cs L a ccd cl outer) (call (.ref 79) [va, vb, vc]) Q E s := by
  k_with_none
  k_with "ne" => (refine neN ?_; (try dsimp only); first | with_reducible assumption | with_reducible exact Ne.symm (by assumption) | with_reducible exact And.left (by assumption) | with_reducible exact Ne.symm (And.left (by assumption)) | with_reducible exact And.left (And.right (by assumption)) | with_reducible exact Ne.symm (And.left (And.right (by assumption))) | with_reducible exact And.right (by assumption) | with_reducible exact Ne.symm (And.right (by assumption)) | with_reducible exact And.left (And.right (And.right (by assumption))) | with_reducible exact Ne.symm (And.left (And.right (And.right (by assumption)))) | with_reducible exact And.right (And.right (by assumption)) | with_reducible exact Ne.symm (And.right (And.right (by assumption))) | with_reducible exact And.left (And.right (And.right (And.right (by assumption)))) | with_reducible exact Ne.symm (And.left (And.right (And.right (And.right (by assumption))))) | with_reducible exact And.right (And.right (And.right (by assumption))) | with_reducible exact Ne.symm (And.right (And.right (And.right (by assumption)))) | with_reducible exact Nat.ne_of_gt (And.left (by assumption)) | with_reducible exact Nat.ne_of_lt (And.left (by assumption)) | with_reducible exact Nat.ne_of_gt (And.left (And.right (by assumption))) | with_reducible exact Nat.ne_of_lt (And.left (And.right (by assumption))) | with_reducible exact Nat.ne_of_gt (And.left (And.right (And.right (by assumption)))) | with_reducible exact Nat.ne_of_lt (And.left (And.right (And.right (by assumption)))) | with_reducible exact Nat.ne_of_gt (And.left (And.right (And.right (And.right (by assumption))))) | with_reducible exact Nat.ne_of_lt (And.left (And.right (And.right (And.right (by assumption))))) | with_reducible exact Nat.ne_of_gt (And.left (And.right (And.right (And.right (And.right (by assumption)))))) | with_reducible exact Nat.ne_of_lt (And.left (And.right (And.right (And.right (And.right (by assumption)))))) | with_reducible exact Nat.ne_of_gt (And.left (And.right (And.right (And.right (And.right (And.right (by assumption))))))) | with_reducible exact Nat.ne_of_lt (And.left (And.right (And.right (And.right (And.right (And.right (by assumption))))))) | with_reducible exact Nat.ne_of_gt (And.left (And.right (And.right (And.right (And.right (And.right (And.right (by assumption)))))))) | with_reducible exact Nat.ne_of_lt (And.left (And.right (And.right (And.right (And.right (And.right (And.right (by assumption)))))))) | with_reducible exact Nat.ne_of_gt (And.left (And.right (And.right (And.right (And.right (And.right (And.right (And.right (by assumption))))))))) | with_reducible exact Nat.ne_of_lt (And.left (And.right (And.right (And.right (And.right (And.right (And.right (And.right (by assumption))))))))) | with_reducible exact Nat.ne_of_gt (And.left (And.right (And.right (And.right (And.right (And.right (And.right (And.right (And.right (by assumption)))))))))) | with_reducible exact Nat.ne_of_lt (And.left (And.right (And.right (And.right (And.right (And.right (And.right (And.right (And.right (by assumption)))))))))) | omega)
  k_dflt (refine' call_cls ?zk1 ?zk2 ?zk3 ?zk4 ?zk5 ?zk6 ?_; (case zk1 => k_asm); (case zk2 => k_asm); (case zk3 => k_asm); (case zk4 => k_is); (case zk5 => k_is); (case zk6 => k_is); k_whole)
  intro x9 d9 h9 F9 N9 l1 l2
  have l3 : ∀ p ∈ own, p.1 ≠ d9 := fun p hp => Nat.ne_of_lt (l1 p hp)
  have l4 : ∀ p ∈ own, p.1 ≠ x9 := fun p hp => Nat.ne_of_lt (Nat.lt_trans (l1 p hp) l2)
  k_lt2 l2
  k_sweep
  k_dflt (refine' code_def ?yk1 ?yk2 ?yk3 ?yk4 ?yk5 ?ykA ?ykF ?ykK ?yk6 ?yk7 ?yk8 ?yk9 ?ykB ?_ ?yc2 ?yc3 ?yc4 ?yc5; (case ykA => exact rfl); (case ykF => exact rfl); (case ykK => assumption); (case yk1 => k_asm); (case yk2 => k_asm); (case yk3 => k_asm); (case yk4 => k_asm); (case yk5 => k_asm); (case yk6 => k_is); (case yk7 => k_is); (case yk8 => ktr_room); (case yk9 => first | exact BindsTo.of_eq rfl | exact binds_K (by k_in) rfl (by k_is) rfl rfl rfl); (case yc5 => decide); (case ykB => exact locs rfl); (case yc2 => exact rfl); (case yc3 => exact rfl); (case yc4 => exact rfl); k_whole; intro g' L' h' FG' F' N' B' X' T'; (try dsimp only); (try k_lift B'); (try k_fold))
  k_steps
  rename News h₀ L _ _ => kN
  exact ret _ _ _ (by k_asm) (fun p hp => kN p (.tail _ (.tail _ hp)))
set_option maxHeartbeats 400000 in
/-- an Outline of contours -/
theorem outl_c {prog : Program} {w : World} {p : Program} {loose : List Str} {mean : ExcName → Option Value} {mg mb : Str → Option Value}
    {dp un : Nat} {gd : Option (List Code)} {cn : Str} {cs : Scope} {a : Addr} {ccd : Value} {cl : List (Str × Addr)} {outer : List Env} {A₀ : Around} {base h₀ : Heap} {L : Addr} {m : Str → Option Value} {s : Shared} {Q E : Value → Shared → Prop}
    {vc : Value} {own : List (Addr × Obj)}
    (B : Below A₀ base outer h₀) (F : Fr h₀ L s.heap m) (X : (kdef.heap_1 w.params).In h₀) (N : News h₀ L s.heap (own)) (T : Top p loose mean mg mb h₀) (hk : cs.kind = .function) (hroom : dp + 3 < recursionLimit) (hu : un + 32 < cLine)
    (ret : ∀ (x d : Addr) (h1 h2 : Int) (t1 t2 : Tok) (vi : Value) (h' : Heap) (tk' : Nat), Fr h₀ L h' m → News h₀ L h' ((x, instObj 236 d) :: (d, dictOf [⟨h1, .str "contours" t1, vc⟩, ⟨h2, .str "instructions" t2, vi⟩] 2) :: own) → (∀ p ∈ own, p.1 < d) → @LT.lt Nat _ d x → Q (.ref x) { s with heap := h', toks := tk' }) :
    wpAny (model prog w) (ktrTop dp un gd cn cs L a ccd cl outer) (call (.ref 236) [vc]) Q E s := by
  k_with_none
  k_with "ne" => (refine neN ?_; (try dsimp only); first | with_reducible assumption | with_reducible exact Ne.symm (by assumption) | with_reducible exact And.left (by assumption) | with_reducible exact Ne.symm (And.left (by assumption)) | with_reducible exact And.left (And.right (by assumption)) | with_reducible exact Ne.symm (And.left (And.right (by assumption))) | with_reducible exact And.right (by assumption) | with_reducible exact Ne.symm (And.right (by assumption)) | with_reducible exact And.left (And.right (And.right (by assumption))) | with_reducible exact Ne.symm (And.left (And.right (And.right (by assumption)))) | with_reducible exact And.right (And.right (by assumption)) | with_reducible exact Ne.symm (And.right (And.right (by assumption))) | with_reducible exact And.left (And.right (And.right (And.right (by assumption)))) | with_reducible exact Ne.symm (And.left (And.right (And.right (And.right (by assumption))))) | with_reducible exact And.right (And.right (And.right (by assumption))) | with_reducible exact Ne.symm (And.right (And.right (And.right (by assumption)))) | with_reducible exact Nat.ne_of_gt (And.left (by assumption)) | with_reducible exact Nat.ne_of_lt (And.left (by assumption)) | with_reducible exact Nat.ne_of_gt (And.left (And.right (by assumption))) | with_reducible exact Nat.ne_of_lt (And.left (And.right (by assumption))) | with_reducible exact Nat.ne_of_gt (And.left (And.right (And.right (by assumption)))) | with_reducible exact Nat.ne_of_lt (And.left (And.right (And.right (by assumption)))) | with_reducible exact Nat.ne_of_gt (And.left (And.right (And.right (And.right (by assumption))))) | with_reducible exact Nat.ne_of_lt (And.left (And.right (And.right (And.right (by assumption))))) | with_reducible exact Nat.ne_of_gt (And.left (And.right (And.right (And.right (And.right (by assumption)))))) | with_reducible exact Nat.ne_of_lt (And.left (And.right (And.right (And.right (And.right (by assumption)))))) | with_reducible exact Nat.ne_of_gt (And.left (And.right (And.right (And.right (And.right (And.right (by assumption))))))) | with_reducible exact Nat.ne_of_lt (And.left (And.right (And.right (And.right (And.right (And.right (by assumption))))))) | with_reducible exact Nat.ne_of_gt (And.left (And.right (And.right (And.right (And.right (And.right (And.right (by assumption)))))))) | with_reducible exact Nat.ne_of_lt (And.left (And.right (And.right (And.right (And.right (And.right (And.right (by assumption)))))))) | with_reducible exact Nat.ne_of_gt (And.left (And.right (And.right (And.right (And.right (And.right (And.right (And.right (by assumption))))))))) | with_reducible exact Nat.ne_of_lt (And.left (And.right (And.right (And.right (And.right (And.right (And.right (And.right (by assumption))))))))) | with_reducible exact Nat.ne_of_gt (And.left (And.right (And.right (And.right (And.right (And.right (And.right (And.right (And.right (by assumption)))))))))) | with_reducible exact Nat.ne_of_lt (And.left (And.right (And.right (And.right (And.right (And.right (And.right (And.right (And.right (by assumption)))))))))) | omega)
  k_dflt (refine' call_cls ?zk1 ?zk2 ?zk3 ?zk4 ?zk5 ?zk6 ?_; (case zk1 => k_asm); (case zk2 => k_asm); (case zk3 => k_asm); (case zk4 => k_is); (case zk5 => k_is); (case zk6 => k_is); k_whole)
  intro x9 d9 h9 F9 N9 l1 l2
  have l3 : ∀ p ∈ own, p.1 ≠ d9 := fun p hp => Nat.ne_of_lt (l1 p hp)
  have l4 : ∀ p ∈ own, p.1 ≠ x9 := fun p hp => Nat.ne_of_lt (Nat.lt_trans (l1 p hp) l2)
  k_lt2 l2
  k_sweep
  k_dflt (refine' code_def ?yk1 ?yk2 ?yk3 ?yk4 ?yk5 ?ykA ?ykF ?ykK ?yk6 ?yk7 ?yk8 ?yk9 ?ykB ?_ ?yc2 ?yc3 ?yc4 ?yc5; (case ykA => exact rfl); (case ykF => exact rfl); (case ykK => assumption); (case yk1 => k_asm); (case yk2 => k_asm); (case yk3 => k_asm); (case yk4 => k_asm); (case yk5 => k_asm); (case yk6 => k_is); (case yk7 => k_is); (case yk8 => ktr_room); (case yk9 => first | exact BindsTo.of_eq rfl | exact binds_K (by k_in) rfl (by k_is) rfl rfl rfl); (case yc5 => decide); (case ykB => exact locs rfl); (case yc2 => exact rfl); (case yc3 => exact rfl); (case yc4 => exact rfl); k_whole; intro g' L' h' FG' F' N' B' X' T'; (try dsimp only); (try k_lift B'); (try k_fold))
  k_steps
  rename News h₀ L _ _ => kN
  exact ret _ _ _ _ _ _ _ _ _ (by k_asm) kN l1 l2
set_option maxHeartbeats 400000 in
/-- a Letter -/
theorem letr_c {prog : Program} {w : World} {p : Program} {loose : List Str} {mean : ExcName → Option Value} {mg mb : Str → Option Value}
    {dp un : Nat} {gd : Option (List Code)} {cn : Str} {cs : Scope} {a : Addr} {ccd : Value} {cl : List (Str × Addr)} {outer : List Env} {A₀ : Around} {base h₀ : Heap} {L : Addr} {m : Str → Option Value} {s : Shared} {Q E : Value → Shared → Prop}
    {va vb vo vp vx : Value} {own : List (Addr × Obj)}
    (B : Below A₀ base outer h₀) (F : Fr h₀ L s.heap m) (X : (kdef.heap_1 w.params).In h₀) (N : News h₀ L s.heap (own)) (T : Top p loose mean mg mb h₀) (hk : cs.kind = .function) (hroom : dp + 3 < recursionLimit) (hu : un + 32 < cLine)
    (ret : ∀ (x d : Addr) (g1 g2 g3 g4 g5 : Int) (t1 t2 t3 t4 t5 : Tok) (h' : Heap) (tk' : Nat), Fr h₀ L h' m → News h₀ L h' ((x, instObj 181 d) :: (d, LetD g1 g2 g3 g4 g5 t1 t2 t3 t4 t5 va vb vo vp vx) :: own) → (∀ p ∈ own, p.1 < d) → @LT.lt Nat _ d x → Q (.ref x) { s with heap := h', toks := tk' }) :
    wpAny (model prog w) (ktrTop dp un gd cn cs L a ccd cl outer) (call (.ref 181) [va, vb, vo, vp, vx]) Q E s := by
  k_with_none
  k_with "ne" => (refine neN ?_; (try dsimp only); first | with_reducible assumption | with_reducible exact Ne.symm (by assumption) | with_reducible exact And.left (by assumption) | with_reducible exact Ne.symm (And.left (by assumption)) | with_reducible exact And.left (And.right (by assumption)) | with_reducible exact Ne.symm (And.left (And.right (by assumption))) | with_reducible exact And.right (by assumption) | with_reducible exact Ne.symm (And.right (by assumption)) | with_reducible exact And.left (And.right (And.right (by assumption))) | with_reducible exact Ne.symm (And.left (And.right (And.right (by assumption)))) | with_reducible exact And.right (And.right (by assumption)) | with_reducible exact Ne.symm (And.right (And.right (by assumption))) | with_reducible exact And.left (And.right (And.right (And.right (by assumption)))) | with_reducible exact Ne.symm (And.left (And.right (And.right (And.right (by assumption))))) | with_reducible exact And.right (And.right (And.right (by assumption))) | with_reducible exact Ne.symm (And.right (And.right (And.right (by assumption)))) | with_reducible exact Nat.ne_of_gt (And.left (by assumption)) | with_reducible exact Nat.ne_of_lt (And.left (by assumption)) | with_reducible exact Nat.ne_of_gt (And.left (And.right (by assumption))) | with_reducible exact Nat.ne_of_lt (And.left (And.right (by assumption))) | with_reducible exact Nat.ne_of_gt (And.left (And.right (And.right (by assumption)))) | with_reducible exact Nat.ne_of_lt (And.left (And.right (And.right (by assumption)))) | with_reducible exact Nat.ne_of_gt (And.left (And.right (And.right (And.right (by assumption))))) | with_reducible exact Nat.ne_of_lt (And.left (And.right (And.right (And.right (by assumption))))) | with_reducible exact Nat.ne_of_gt (And.left (And.right (And.right (And.right (And.right (by assumption)))))) | with_reducible exact Nat.ne_of_lt (And.left (And.right (And.right (And.right (And.right (by assumption)))))) | with_reducible exact Nat.ne_of_gt (And.left (And.right (And.right (And.right (And.right (And.right (by assumption))))))) | with_reducible exact Nat.ne_of_lt (And.left (And.right (And.right (And.right (And.right (And.right (by assumption))))))) | with_reducible exact Nat.ne_of_gt (And.left (And.right (And.right (And.right (And.right (And.right (And.right (by assumption)))))))) | with_reducible exact Nat.ne_of_lt (And.left (And.right (And.right (And.right (And.right (And.right (And.right (by assumption)))))))) | with_reducible exact Nat.ne_of_gt (And.left (And.right (And.right (And.right (And.right (And.right (And.right (And.right (by assumption))))))))) | with_reducible exact Nat.ne_of_lt (And.left (And.right (And.right (And.right (And.right (And.right (And.right (And.right (by assumption))))))))) | with_reducible exact Nat.ne_of_gt (And.left (And.right (And.right (And.right (And.right (And.right (And.right (And.right (And.right (by assumption)))))))))) | with_reducible exact Nat.ne_of_lt (And.left (And.right (And.right (And.right (And.right (And.right (And.right (And.right (And.right (by assumption)))))))))) | omega)
  k_dflt (refine' call_cls ?zk1 ?zk2 ?zk3 ?zk4 ?zk5 ?zk6 ?_; (case zk1 => k_asm); (case zk2 => k_asm); (case zk3 => k_asm); (case zk4 => k_is); (case zk5 => k_is); (case zk6 => k_is); k_whole)
  intro x9 d9 h9 F9 N9 l1 l2
  have l3 : ∀ p ∈ own, p.1 ≠ d9 := fun p hp => Nat.ne_of_lt (l1 p hp)
  have l4 : ∀ p ∈ own, p.1 ≠ x9 := fun p hp => Nat.ne_of_lt (Nat.lt_trans (l1 p hp) l2)
  k_lt2 l2
  k_sweep
  k_dflt (refine' code_def ?yk1 ?yk2 ?yk3 ?yk4 ?yk5 ?ykA ?ykF ?ykK ?yk6 ?yk7 ?yk8 ?yk9 ?ykB ?_ ?yc2 ?yc3 ?yc4 ?yc5; (case ykA => exact rfl); (case ykF => exact rfl); (case ykK => assumption); (case yk1 => k_asm); (case yk2 => k_asm); (case yk3 => k_asm); (case yk4 => k_asm); (case yk5 => k_asm); (case yk6 => k_is); (case yk7 => k_is); (case yk8 => ktr_room); (case yk9 => first | exact BindsTo.of_eq rfl | exact binds_K (by k_in) rfl (by k_is) rfl rfl rfl); (case yc5 => decide); (case ykB => exact locs rfl); (case yc2 => exact rfl); (case yc3 => exact rfl); (case yc4 => exact rfl); k_whole; intro g' L' h' FG' F' N' B' X' T'; (try dsimp only); (try k_lift B'); (try k_fold))
  k_steps
  rename News h₀ L _ _ => kN
  exact ret _ _ _ _ _ _ _ _ _ _ _ _ _ _ (by k_asm) kN l1 l2
end
end

section
def FoundAt (ν : List (Addr × Obj)) (v : Value) (low high : List (Int × Int)) : Prop :=
  (v = .none ∧ low = [] ∧ high = []) ∨ ∃ (b : Addr) (x0 y0 x1 y1 : Int) (u1 u2 u3 u4 : Tok) (k : Nat), v = .ref b ∧ (b, tupO #[.int x0 u1, .int y0 u2, .int x1 u3, .int y1 u4] k) ∈ ν ∧ BoxOf low high x0 y0 x1 y1

theorem box_app {lo hi lo' hi' : List (Int × Int)} {X0 Y0 X1 Y1 x0 y0 x1 y1 : Int} (h : BoxOf lo hi X0 Y0 X1 Y1) (k : BoxOf lo' hi' x0 y0 x1 y1) :
    BoxOf (lo ++ lo') (hi ++ hi') (if x0 < X0 then x0 else X0) (if y0 < Y0 then y0 else Y0) (if x1 > X1 then x1 else X1) (if y1 > Y1 then y1 else Y1) := by
  have mn : ∀ {A B : List Int} {a b : Int}, IsMin a A → IsMin b B → IsMin (if b < a then b else a) (A ++ B) := by
    rintro A B a b ⟨ha, hA⟩ ⟨hb, hB⟩
    refine ⟨?_, fun c hc => ?_⟩
    · split
      · exact List.mem_append.mpr (.inr hb)
      · exact List.mem_append.mpr (.inl ha)
    · rcases List.mem_append.mp hc with hc | hc
      · have := hA c hc; split <;> omega
      · have := hB c hc; split <;> omega
  have mx : ∀ {A B : List Int} {a b : Int}, IsMax a A → IsMax b B → IsMax (if b > a then b else a) (A ++ B) := by
    rintro A B a b ⟨ha, hA⟩ ⟨hb, hB⟩
    refine ⟨?_, fun c hc => ?_⟩
    · split
      · exact List.mem_append.mpr (.inr hb)
      · exact List.mem_append.mpr (.inl ha)
    · rcases List.mem_append.mp hc with hc | hc
      · have := hA c hc; split <;> omega
      · have := hB c hc; split <;> omega
  obtain ⟨a, b, c, d⟩ := h
  obtain ⟨a', b', c', d'⟩ := k
  refine ⟨?_, ?_, ?_, ?_⟩ <;> rw [List.map_append]
  · exact mn a a'
  · exact mn b b'
  · exact mx c c'
  · exact mx d d'
theorem box_one (x0 y0 x1 y1 : Int) : BoxOf [(x0, y0)] [(x1, y1)] x0 y0 x1 y1 := by
  refine ⟨⟨?_, ?_⟩, ⟨?_, ?_⟩, ⟨?_, ?_⟩, ⟨?_, ?_⟩⟩ <;> simp

/-- a step of what is found -/
theorem found_none {ν : List (Addr × Obj)} {LO HI lo hi : List (Int × Int)} (e1 : LO = []) (e2 : HI = []) (a : lo = []) (b : hi = []) : FoundAt ν .none (LO ++ lo) (HI ++ hi) := .inl ⟨rfl, by simp [e1, a], by simp [e2, b]⟩
theorem found_first {ν : List (Addr × Obj)} {LO HI lo hi : List (Int × Int)} {b : Addr} {x0 y0 x1 y1 : Int} {u1 u2 u3 u4 : Tok} {k : Nat} (e1 : LO = []) (e2 : HI = []) (hb : (b, tupO #[.int x0 u1, .int y0 u2, .int x1 u3, .int y1 u4] k) ∈ ν) (h : BoxOf lo hi x0 y0 x1 y1) : FoundAt ν (.ref b) (LO ++ lo) (HI ++ hi) :=
  .inr ⟨b, x0, y0, x1, y1, u1, u2, u3, u4, k, rfl, hb, by rw [e1, e2]; exact h⟩
theorem found_same {ν : List (Addr × Obj)} {LO HI lo hi : List (Int × Int)} {b : Addr} {x0 y0 x1 y1 : Int} {u1 u2 u3 u4 : Tok} {k : Nat} (hb : (b, tupO #[.int x0 u1, .int y0 u2, .int x1 u3, .int y1 u4] k) ∈ ν) (h : BoxOf LO HI x0 y0 x1 y1) (e1 : lo = []) (e2 : hi = []) : FoundAt ν (.ref b) (LO ++ lo) (HI ++ hi) :=
  .inr ⟨b, x0, y0, x1, y1, u1, u2, u3, u4, k, rfl, hb, by rw [e1, e2, List.append_nil, List.append_nil]; exact h⟩
theorem found_more {ν : List (Addr × Obj)} {LO HI lo hi : List (Int × Int)} {b : Addr} {X0 Y0 X1 Y1 x0 y0 x1 y1 : Int} {u1 u2 u3 u4 : Tok} {k : Nat} (hb : (b, tupO #[.int (if x0 < X0 then x0 else X0) u1, .int (if y0 < Y0 then y0 else Y0) u2, .int (if x1 > X1 then x1 else X1) u3, .int (if y1 > Y1 then y1 else Y1) u4] k) ∈ ν) (h : BoxOf LO HI X0 Y0 X1 Y1) (g : BoxOf lo hi x0 y0 x1 y1) : FoundAt ν (.ref b) (LO ++ lo) (HI ++ hi) :=
  .inr ⟨b, _, _, _, _, u1, u2, u3, u4, k, rfl, hb, box_app h g⟩
theorem outbox_full {ps : List (Int × Int)} {x0 y0 x1 y1 : Int} (h : OutBox ps x0 y0 x1 y1) (hne : ps ≠ []) : BoxOf ps ps x0 y0 x1 y1 := by
  rcases h with ⟨e, _⟩ | ⟨_, h⟩
  · exact absurd e hne
  · exact h
theorem outbox_zero {ps : List (Int × Int)} {x0 y0 x1 y1 : Int} (h : OutBox ps x0 y0 x1 y1) (he : ps = []) : BoxOf [(0, 0)] [(0, 0)] x0 y0 x1 y1 := by
  rcases h with ⟨_, rfl, rfl, rfl, rfl⟩ | ⟨e, _⟩
  · exact box_one 0 0 0 0
  · exact absurd he e

theorem letk_none {ν : List (Addr × Obj)} {vp : Value} {x0 y0 x1 y1 : Int} {low high : List (Int × Int)} (h : LetK ν .none vp x0 y0 x1 y1 low high) : (vp = .none ∧ low = [] ∧ high = []) ∨ ∃ q, vp = .ref q ∧ BoxOf low high x0 y0 x1 y1 := by
  cases h with
  | bare => exact .inl ⟨rfl, rfl, rfl⟩
  | parts => exact .inr ⟨_, rfl, box_one _ _ _ _⟩
theorem letk_out {ν : List (Addr × Obj)} {o : Addr} {vp : Value} {x0 y0 x1 y1 : Int} {low high : List (Int × Int)} (h : LetK ν (.ref o) vp x0 y0 x1 y1 low high) :
    ∃ css, OutAt ν o css ∧ (vp = .none ∨ ∃ q, vp = .ref q) ∧ (∀ X0 Y0 X1 Y1, OutBox css.flatten X0 Y0 X1 Y1 → (0 < css.flatten.length ∨ ∃ q, vp = .ref q) → BoxOf low high X0 Y0 X1 Y1) ∧ (css.flatten.length = 0 → vp = .none → low = [] ∧ high = []) := by
  cases h with
  | empty a e => exact ⟨_, a, .inl rfl, fun X0 Y0 X1 Y1 hb hc => (by
      rcases hc with hc | ⟨q, hc⟩
      · rw [e] at hc; cases hc
      · cases hc), fun _ _ => ⟨rfl, rfl⟩⟩
  | hollow a e => exact ⟨_, a, .inr ⟨_, rfl⟩, fun X0 Y0 X1 Y1 hb _ => outbox_zero hb e, fun _ hc => nomatch hc⟩
  | full a e => exact ⟨_, a, .inl rfl, fun X0 Y0 X1 Y1 hb _ => outbox_full hb e, fun hc _ => absurd (List.length_eq_zero_iff.mp hc) e⟩
  | both a e => exact ⟨_, a, .inr ⟨_, rfl⟩, fun X0 Y0 X1 Y1 hb _ => outbox_full hb e, fun _ hc => nomatch hc⟩
theorem letk_vo {ν : List (Addr × Obj)} {vo vp : Value} {x0 y0 x1 y1 : Int} {low high : List (Int × Int)} (h : LetK ν vo vp x0 y0 x1 y1 low high) : vo = .none ∨ ∃ o, vo = .ref o := by
  cases h <;> first | exact .inl rfl | exact .inr ⟨_, rfl⟩

/-- what stands behind the loop's first statement: the letter's box -/
def WMid (h₀ : Heap) (L : Addr) (s₁ : Shared) (I : Addr) (oI : Obj) (nw : List (Addr × Obj)) (a9 : Addr) (vf vo vp : Value) (low high : List (Int × Int)) (s' : Shared) : Prop :=
  ∃ (m : Str → Option Value) (h : Heap) (tk : Nat) (nw' : List (Addr × Obj)) (bx : Addr) (X0 Y0 X1 Y1 : Int) (u1 u2 u3 u4 : Tok) (k : Nat) (ps : List (Int × Int)), s' = { s₁ with heap := h, toks := tk } ∧ m (Str.ofString "found") = some vf ∧ m (Str.ofString "letter") = some (.ref a9) ∧ m (Str.ofString "box") = some (.ref bx) ∧ Fr h₀ L h m ∧ News h₀ L h ((I, oI) :: nw') ∧
    (∀ p ∈ nw, p ∈ nw') ∧ (∀ p ∈ nw', p.1 ≠ I) ∧ (bx, tupO #[.int X0 u1, .int Y0 u2, .int X1 u3, .int Y1 u4] k) ∈ nw' ∧ PtsOf nw' vo ps ∧ (vp = .none ∨ ∃ q, vp = .ref q) ∧ (0 < ps.length ∨ (∃ q, vp = .ref q) → BoxOf low high X0 Y0 X1 Y1) ∧ (ps.length = 0 → vp = .none → low = [] ∧ high = [])

theorem wmid_out {h₀ : Heap} {L : Addr} {s₁ : Shared} {I : Addr} {oI : Obj} {nw : List (Addr × Obj)} {a9 o9 b : Addr} {vf vp : Value} {low high : List (Int × Int)} {m : Str → Option Value} {h : Heap} {tk : Nat} {X0 Y0 X1 Y1 : Int} {u1 u2 u3 u4 : Tok} {k : Nat} {css : List (List (Int × Int))}
    (F : Fr h₀ L h m) (N : News h₀ L h ((b, tupO #[.int X0 u1, .int Y0 u2, .int X1 u3, .int Y1 u4] k) :: (I, oI) :: nw)) (l1 : @LT.lt Nat _ I b ∧ AllLt b nw) (e1 : m (Str.ofString "found") = some vf) (e2 : m (Str.ofString "letter") = some (.ref a9)) (e3 : m (Str.ofString "box") = some (.ref b))
    (hbx : OutBox css.flatten X0 Y0 X1 Y1) (ho : OutAt nw o9 css) (hvp : vp = .none ∨ ∃ q, vp = .ref q) (hb : ∀ X0 Y0 X1 Y1, OutBox css.flatten X0 Y0 X1 Y1 → (0 < css.flatten.length ∨ ∃ q, vp = .ref q) → BoxOf low high X0 Y0 X1 Y1) (he : css.flatten.length = 0 → vp = .none → low = [] ∧ high = []) (off : ∀ p ∈ nw, p.1 ≠ I) :
    MidE (WMid h₀ L s₁ I oI nw a9 vf (.ref o9) vp low high) .next { s₁ with heap := h, toks := tk } := by
  refine ⟨rfl, m, h, tk, (b, tupO #[.int X0 u1, .int Y0 u2, .int X1 u3, .int Y1 u4] k) :: nw, b, X0, Y0, X1, Y1, u1, u2, u3, u4, k, css.flatten, rfl, e1, e2, e3, F, fun p hp => N p ?_, (fun p hp => .tail _ hp), fun p hp => ?_, .head _, .out (ho.mono fun p hp => .tail _ hp), hvp, fun hc => hb _ _ _ _ hbx hc, he⟩
  · simp only [List.mem_cons] at hp ⊢
    rcases hp with h|h|h <;> simp only [h, true_or, or_true]
  · rcases List.mem_cons.mp hp with rfl | hp
    · exact Nat.ne_of_gt l1.1
    · exact off p hp

section
set_option maxHeartbeats 4000000 in
theorem whole_c {prog : Program} {w : World} {p : Program} {loose : List Str} {mean : ExcName → Option Value} {mg mb : Str → Option Value}
    {dp un : Nat} {gd : Option (List Code)} {cn : Str} {cs : Scope} {a : Addr} {ccd : Value} {cl : List (Str × Addr)} {outer : List Env} {A₀ : Around} {base h₀ : Heap} {L : Addr} {m : Str → Option Value} {s : Shared} {Q E : Value → Shared → Prop}
    {l : Addr} {vs : List Value} {kl : Nat} {rs : List (List (Int × Int) × List (Int × Int))} {own : List (Addr × Obj)}
    (B : Below A₀ base outer h₀) (F : Fr h₀ L s.heap m) (X : (kdef.heap_1 w.params).In h₀) (N : News h₀ L s.heap (own)) (T : Top p loose mean mg mb h₀) (hk : cs.kind = .function) (hroom : dp + 7 < recursionLimit) (hu : un + 400 < cLine) (hl : (l, PySem.W.listOf vs.toArray kl) ∈ own) (hls : LetsAt own vs rs)
    (ret0 : ∀ (h' : Heap) (tk' : Nat), Fr h₀ L h' m → News h₀ L h' own → (rs.map (·.1)).flatten = [] → (rs.map (·.2)).flatten = [] → Q (.ref 149) { s with heap := h', toks := tk' })
    (ret1 : ∀ (b : Addr) (x0 y0 x1 y1 : Int) (u1 u2 u3 u4 : Tok) (k : Nat) (h' : Heap) (tk' : Nat), Fr h₀ L h' m → News h₀ L h' ((b, tupO #[.int x0 u1, .int y0 u2, .int x1 u3, .int y1 u4] k) :: own) → BoxOf (rs.map (·.1)).flatten (rs.map (·.2)).flatten x0 y0 x1 y1 → Q (.ref b) { s with heap := h', toks := tk' }) :
    wpAny (model prog w) (ktrTop dp un gd cn cs L a ccd cl outer) (call (.ref 192) [.ref l]) Q E s := by
  k_with_none
  k_with "ne" => (refine neN ?_; (try dsimp only); first | with_reducible assumption | with_reducible exact Ne.symm (by assumption) | with_reducible exact And.left (by assumption) | with_reducible exact Ne.symm (And.left (by assumption)) | with_reducible exact And.left (And.right (by assumption)) | with_reducible exact Ne.symm (And.left (And.right (by assumption))) | with_reducible exact And.right (by assumption) | with_reducible exact Ne.symm (And.right (by assumption)) | with_reducible exact And.left (And.right (And.right (by assumption))) | with_reducible exact Ne.symm (And.left (And.right (And.right (by assumption)))) | with_reducible exact And.right (And.right (by assumption)) | with_reducible exact Ne.symm (And.right (And.right (by assumption))) | with_reducible exact And.left (And.right (And.right (And.right (by assumption)))) | with_reducible exact Ne.symm (And.left (And.right (And.right (And.right (by assumption))))) | with_reducible exact And.right (And.right (And.right (by assumption))) | with_reducible exact Ne.symm (And.right (And.right (And.right (by assumption)))) | with_reducible exact Nat.ne_of_gt (And.left (by assumption)) | with_reducible exact Nat.ne_of_lt (And.left (by assumption)) | with_reducible exact Nat.ne_of_gt (And.left (And.right (by assumption))) | with_reducible exact Nat.ne_of_lt (And.left (And.right (by assumption))) | with_reducible exact Nat.ne_of_gt (And.left (And.right (And.right (by assumption)))) | with_reducible exact Nat.ne_of_lt (And.left (And.right (And.right (by assumption)))) | with_reducible exact Nat.ne_of_gt (And.left (And.right (And.right (And.right (by assumption))))) | with_reducible exact Nat.ne_of_lt (And.left (And.right (And.right (And.right (by assumption))))) | with_reducible exact Nat.ne_of_gt (And.left (And.right (And.right (And.right (And.right (by assumption)))))) | with_reducible exact Nat.ne_of_lt (And.left (And.right (And.right (And.right (And.right (by assumption)))))) | with_reducible exact Nat.ne_of_gt (And.left (And.right (And.right (And.right (And.right (And.right (by assumption))))))) | with_reducible exact Nat.ne_of_lt (And.left (And.right (And.right (And.right (And.right (And.right (by assumption))))))) | with_reducible exact Nat.ne_of_gt (And.left (And.right (And.right (And.right (And.right (And.right (And.right (by assumption)))))))) | with_reducible exact Nat.ne_of_lt (And.left (And.right (And.right (And.right (And.right (And.right (And.right (by assumption)))))))) | with_reducible exact Nat.ne_of_gt (And.left (And.right (And.right (And.right (And.right (And.right (And.right (And.right (by assumption))))))))) | with_reducible exact Nat.ne_of_lt (And.left (And.right (And.right (And.right (And.right (And.right (And.right (And.right (by assumption))))))))) | with_reducible exact Nat.ne_of_gt (And.left (And.right (And.right (And.right (And.right (And.right (And.right (And.right (And.right (by assumption)))))))))) | with_reducible exact Nat.ne_of_lt (And.left (And.right (And.right (And.right (And.right (And.right (And.right (And.right (And.right (by assumption)))))))))) | omega)
  k_with "call ref" => ( k_here; k_dflt (show wpAny _ _ (call (Value.ref 233) [Value.ref _]) _ _ _); k_dflt (refine' box_u ?zzqk1 ?zzqk2 ?zzqk3 ?zzqk4 ?zzqk5 ?zzqk6 ?zzqk7 ?zzqk8 ?zzqe1 ?_; (case zzqk1 => k_asm); (case zzqk2 => k_asm); (case zzqk3 => k_asm); (case zzqk4 => k_asm); (case zzqk5 => k_asm); (case zzqk6 => first | exact rfl | assumption); (case zzqk7 => ktr_room); (case zzqk8 => ktr_units); (case zzqe1 => (refine OutAt.mono (fun p hp => ?_) (by assumption); simp only [List.mem_cons, List.cons_append, hp, or_true])); k_whole); intros; (try dsimp only); (try k_sweep); (try k_fold); (try (rename_i l1 h90; k_lt l1; revert h90 l1; intro _ _)); walk_say "BOX")
  k_with "call ref" => ( k_here; k_dflt (show wpAny _ _ (call (Value.ref 178) [Value.ref _]) _ _ _); k_dflt (refine' lpts_c ?zzqk1 ?zzqk2 ?zzqk3 ?zzqk4 ?zzqk5 ?zzqk6 ?zzqk7 ?zzqk8 ?zzqe1 ?zzqe2 ?zzqe3 ?_; (case zzqk1 => k_asm); (case zzqk2 => k_asm); (case zzqk3 => k_asm); (case zzqk4 => k_asm); (case zzqk5 => k_asm); (case zzqk6 => first | exact rfl | assumption); (case zzqk7 => ktr_room); (case zzqk8 => ktr_units); (case zzqe1 => k_mem); (case zzqe2 => k_mem); (case zzqe3 => (refine PtsOf.mono (fun p hp => ?_) (by assumption); simp only [List.mem_cons, List.cons_append, hp, or_true])); k_whole); intros; (try dsimp only); (try k_sweep); (try k_fold); (try (rename_i l1 h90; k_lt l1; revert h90 l1; intro _ _)); walk_say "LPTS")
  k_with "exec For" => (k_here; k_dflt (refine' For_invTF (by k_asm) ?_ (by intro _; rfl)))
  k_with "exec For Name Attribute cons nil" => (k_here; k_dflt (refine' For_invTF (by k_asm) ?_ (by intro _; rfl)))
  k_with "exec For Name Name cons nil" => (k_here; k_dflt (refine' For_invTF (by k_asm) ?_ (by intro _; rfl)))
  k_with "exec For Tuple Name cons nil" => (k_here; k_dflt (refine' For_invTF (by k_asm) ?_ (by intro _; rfl)))
  k_with "pyIter ref" => (k_dflt (refine held ?_))
  k_with "execs cons" => (k_here; (with_reducible show wpAny _ _ (execs (_ :: _ :: []) _) _ _ _); (with_reducible rename FoundAt _ _ _ _ => hf); k_dflt (refine held ?_))
  refine wpAny_call ?_
  k_dflt cell_enter
  k_steps
  rename_i gg LL _ _ _ _ _ h9 F9 N9
  refine Held.go ?_
  refine for_led (fun i m nw => ∃ vf, m (Str.ofString "found") = some vf ∧ (∀ p ∈ own, p ∈ nw) ∧ FoundAt nw vf ((rs.take i).map (·.1)).flatten ((rs.take i).map (·.2)).flatten)
    (by rfl) F9 N9 hl ⟨.none, rfl, (fun p hp => hp), .inl ⟨rfl, rfl, rfl⟩⟩ ?_ ?_
  · rintro i v m₁ nw I oI s₁ hv ⟨vf, hmf, hown, hf⟩ hln offI F10 N10
    obtain ⟨r, hr, ⟨a9, d9, b9, g1, g2, g3, g4, g5, t1, t2, t3, t4, t5, w1, w2, w3, w4, va, vb, vo, vp, x0, y0, x1, y1, k9, rfl, q1, q2, q3, q4⟩⟩ := (hls.mono hown).get hv
    obtain ⟨low, high⟩ := r
    have e : (fun z => if z = Str.ofString "found" then some vf else m₁ z) = m₁ := funext fun z => by
      by_cases h : z = Str.ofString "found"
      · simp [h, hmf]
      · simp [h]
    rw [← e] at F10
    clear e hmf
    have eL : ((rs.take (i + 1)).map (·.1)).flatten = ((rs.take i).map (·.1)).flatten ++ low := by rw [List.take_add_one, hr]; simp
    have eH : ((rs.take (i + 1)).map (·.2)).flatten = ((rs.take i).map (·.2)).flatten ++ high := by rw [List.take_add_one, hr]; simp
    rw [eL, eH]
    clear eL eH hr hv
    generalize ((rs.take i).map (·.1)).flatten = LO at hf ⊢
    generalize ((rs.take i).map (·.2)).flatten = HI at hf ⊢
    (try dsimp only)
    (try k_fold)
    k_steps
    refine Held.go ?_
    refine execs_cut (b1 := [_]) (WMid gg LL s₁ I oI nw a9 vf vo vp low high) rfl ?_ ?_
    · rcases letk_vo q4 with rfl | ⟨o9, rfl⟩
      · have hk := letk_none q4
        clear q4 hf
        k_steps
        rename News _ _ _ _ => kN
        exact ⟨rfl, _, _, _, nw, b9, x0, y0, x1, y1, _, _, _, _, _, [], rfl, rfl, rfl, rfl, by k_asm, kN, (fun p hp => hp), offI, q3, .none, hk.elim (fun h => .inl h.1) (fun ⟨q, h, _⟩ => .inr ⟨q, h⟩),
          (fun hc => hk.elim (fun h => (by
            rcases hc with hc | ⟨q, hc⟩
            · cases hc
            · rw [h.1] at hc; cases hc)) fun ⟨q, _, h⟩ => h), fun _ hc => hk.elim (fun h => h.2) (fun ⟨q, h, _⟩ => by rw [h] at hc; cases hc)⟩
      · obtain ⟨css, ho, hvp, hb, he⟩ := letk_out q4
        clear q4 hf
        have ho' := ho
        obtain ⟨d7, c7, f1, f2, v1, v2, vi, k7, us, o1, o2, o3, o4, o5⟩ := ho'
        k_steps
        rename News _ _ _ _ => kN
        rename OutBox _ _ _ _ _ => hbx
        rename (@LT.lt Nat _ _ _) ∧ AllLt _ _ => l1
        exact wmid_out (by k_asm) kN l1 rfl rfl rfl hbx ho hvp hb he offI
    · rintro s' ⟨m, h, tk, nw', bx, X0, Y0, X1, Y1, u1, u2, u3, u4, k, ps, rfl, em1, em2, em3, F11, N11, hsub, offI', hbx, hpo, hvp, hE1, hE2⟩
      have e : (fun z => if z = Str.ofString "box" then some (Value.ref bx) else if z = Str.ofString "letter" then some (Value.ref a9) else if z = Str.ofString "found" then some vf else m z) = m := funext fun z => by
        by_cases h1 : z = Str.ofString "box"
        · simp [h1, em3]
        · by_cases h2 : z = Str.ofString "letter"
          · rw [h2] at h1 ⊢; simp [h1, em2]
          · by_cases h3 : z = Str.ofString "found"
            · rw [h3] at h1 h2 ⊢; simp [h1, h2, em1]
            · simp [h1, h2, h3]
      rw [← e] at F11
      clear e em1 em2 em3 q4
      rename_i Fa Na
      (try clear Na)
      have q1' := hsub _ q1
      have q2' := hsub _ q2
      have hln' := hsub _ hln
      have hown' : ∀ p ∈ own, p ∈ nw' := fun p hp => hsub _ (hown p hp)
      clear q1 q2 q3 hln offI
      rcases hf with ⟨rfl, e1, e2⟩ | ⟨b8, Z0, Z1, Z2, Z3, z1, z2, z3, z4, k8, rfl, q5, q6⟩
      · clear hown hsub
        rcases hvp with rfl | ⟨q, rfl⟩
        · k_steps
          all_goals first
            | (exfalso; omega)
            | exact ForEnd.k1 (by k_asm) (by assumption) (by assumption) offI' hln' ⟨_, rfl, fun p hp => .tail _ (hown' p hp), found_first e1 e2 (.tail _ hbx) (hE1 (.inl (by omega)))⟩
            | exact ForEnd.k1 (by k_asm) (by assumption) (by assumption) offI' hln' ⟨_, rfl, fun p hp => .tail _ (hown' p hp), found_none e1 e2 (hE2 (by omega) rfl).1 (hE2 (by omega) rfl).2⟩
        · k_steps
          all_goals exact ForEnd.k1 (by k_asm) (by assumption) (by assumption) offI' hln' ⟨_, rfl, fun p hp => .tail _ (hown' p hp), found_first e1 e2 (.tail _ hbx) (hE1 (.inr ⟨_, rfl⟩))⟩
      · have q5' := hsub _ q5
        clear q5 hown hsub
        rcases hvp with rfl | ⟨q, rfl⟩
        · k_steps
          all_goals first
            | (exfalso; omega)
            | exact ForEnd.k2 (by k_asm) (by assumption) (by assumption) (by assumption) offI' hln' ⟨_, rfl, fun p hp => .tail _ (.tail _ (hown' p hp)), found_more (by k_mem) q6 (hE1 (.inl (by omega)))⟩
            | exact ForEnd.k1 (by k_asm) (by assumption) (by assumption) offI' hln' ⟨_, rfl, fun p hp => .tail _ (hown' p hp), found_same (.tail _ q5') q6 (hE2 (by omega) rfl).1 (hE2 (by omega) rfl).2⟩
        · k_steps
          all_goals exact ForEnd.k2 (by k_asm) (by assumption) (by assumption) (by assumption) offI' hln' ⟨_, rfl, fun p hp => .tail _ (.tail _ (hown' p hp)), found_more (by k_mem) q6 (hE1 (.inr ⟨_, rfl⟩))⟩
  · rintro m₁ nw h tk ⟨vf, hmf, hown, hf⟩ F10 N10
    have e : (fun z => if z = Str.ofString "found" then some vf else m₁ z) = m₁ := funext fun z => by
      by_cases h : z = Str.ofString "found"
      · simp [h, hmf]
      · simp [h]
    rw [← e] at F10
    clear e hmf
    rw [hls.length, List.take_length] at hf
    rcases hf with ⟨rfl, e1, e2⟩ | ⟨b8, X0, Y0, X1, Y1, z1, z2, z3, z4, k8, rfl, q5, q6⟩
    · (try dsimp only)
      k_steps
      rename_i kN _ _
      exact ret0 _ _ (by k_asm) (fun p hp => kN p (hown p hp)) e1 e2
    · (try dsimp only)
      k_steps
      rename_i kN _ _
      exact ret1 b8 X0 Y0 X1 Y1 z1 z2 z3 z4 k8 _ _ (by k_asm) (fun p hp => kN p (by
        rcases List.mem_cons.mp hp with rfl | hp
        · exact q5
        · exact hown p hp)) q6
end
end

section
open PySem.Spec PySem.Calls in
theorem dummy9 : True := trivial

/-- a list of pairs -/
inductive PairsAt (ν : List (Addr × Obj)) : List Value → List (Int × Int) → Prop
  | nil : PairsAt ν [] []
  | cons {a : Addr} {x y : Int} {t1 t2 : Tok} {k : Nat} {vs : List Value} {ps : List (Int × Int)} : (a, tupO #[.int x t1, .int y t2] k) ∈ ν → PairsAt ν vs ps → PairsAt ν (.ref a :: vs) ((x, y) :: ps)
theorem PairsAt.mono {ν ν' : List (Addr × Obj)} (hs : ∀ p ∈ ν, p ∈ ν') {vs : List Value} {ps : List (Int × Int)} (h : PairsAt ν vs ps) : PairsAt ν' vs ps := by
  induction h with
  | nil => exact .nil
  | cons hm _ ih => exact .cons (hs _ hm) ih
theorem PairsAt.append {ν : List (Addr × Obj)} {vs ws : List Value} {ps qs : List (Int × Int)} (h : PairsAt ν vs ps) (k : PairsAt ν ws qs) : PairsAt ν (vs ++ ws) (ps ++ qs) := by
  induction h with
  | nil => exact k
  | cons hm _ ih => exact .cons hm ih
theorem PairsAt.length {ν : List (Addr × Obj)} {vs : List Value} {ps : List (Int × Int)} (h : PairsAt ν vs ps) : vs.length = ps.length := by
  induction h with
  | nil => rfl
  | cons _ _ ih => simp [ih]
theorem PairsAt.get {ν : List (Addr × Obj)} {vs : List Value} {ps : List (Int × Int)} (h : PairsAt ν vs ps) : ∀ {i : Nat} {v : Value}, vs[i]? = some v → ∃ a x y t1 t2 k, v = .ref a ∧ ps[i]? = some (x, y) ∧ (a, tupO #[.int x t1, .int y t2] k) ∈ ν := by
  induction h with
  | nil => intro i v e; simp at e
  | @cons a x y t1 t2 k vs ps hm _ ih =>
    intro i v e
    cases i with
    | zero => simp at e; exact ⟨a, x, y, t1, t2, k, e.symm, by simp, hm⟩
    | succ i => simpa using ih (by simpa using e)

section
open PySem.Spec PySem.Calls PyProof.V
variable {prog : Program} {w : World} {A : Around} {E : Value → Shared → Prop} {s : Shared} {h₀ h : Heap} {L : Addr} {news : List (Addr × Obj)} {Q : Value → Shared → Prop}
theorem pairs_reads (N : News h₀ L h news) {ν : List (Addr × Obj)} {vs : List Value} {ps : List (Int × Int)} (hp : PairsAt ν vs ps) (hs : ∀ p ∈ ν, p ∈ news) : ∃ ds as, ReadsAll h vs ds as ∧ (∀ d ∈ ds, FlatT d) ∧ (ds = [] ↔ ps = []) := by
  induction hp with
  | nil => exact ⟨[], [], .nil, (fun _ h => nomatch h), by simp⟩
  | @cons a x y t1 t2 k vs ps hm _ ih =>
    obtain ⟨ds, as, h1, h2, _⟩ := ih
    have r : Reads h (.ref a) (.tuple [.int x, .int y]) _ := reads_tuple_at (N.get (hs _ hm)) rfl rfl (.cons (.int x t1) (.cons (.int y t2) .nil))
    refine ⟨_ :: ds, _, .cons r h1, fun d hd => ?_, by simp⟩
    rcases List.mem_cons.mp hd with rfl | hd
    · refine ⟨_, rfl, fun e he => ?_⟩
      simp only [List.mem_cons, List.not_mem_nil, or_false] at he
      rcases he with rfl | rfl
      · exact .inl ⟨_, rfl⟩
      · exact .inl ⟨_, rfl⟩
    · exact h2 d hd
theorem eq_nil_pairs {f l : Addr} {ws : List Value} {kk k2 : Nat} {ν : List (Addr × Obj)} {ps : List (Int × Int)} (N : News h₀ L s.heap news) (hf : (f, PySem.W.listOf ws.toArray kk) ∈ news) (hl : (l, PySem.W.listOf #[] k2) ∈ news)
    (hp : PairsAt ν ws ps) (hs : ∀ p ∈ ν, p ∈ news) (hu : A.units + 64 < cLine) (h : Q (.bool (decide (ps = []))) s) : wpAny (model prog w) A (compareOp .Eq (.ref f) (.ref l)) Q E s := by
  obtain ⟨ds, as, h1, h2, h3⟩ := pairs_reads N hp hs
  refine eq_nil N hf hl h1 h2 hu ?_
  rw [show decide (ds = []) = decide (ps = []) from decide_eq_decide.mpr h3]
  exact h
end

/-- a row: its letter (any value), the least, the greatest points -/
structure RowAt (ν : List (Addr × Obj)) (v : Value) (r : List (Int × Int) × List (Int × Int)) : Prop where
  said : ∃ (t p q : Addr) (vl : Value) (k k1 k2 : Nat) (ps qs : List Value), v = .ref t ∧ (t, tupO #[vl, .ref p, .ref q] k) ∈ ν ∧ (p, PySem.W.listOf ps.toArray k1) ∈ ν ∧ (q, PySem.W.listOf qs.toArray k2) ∈ ν ∧ PairsAt ν ps r.1 ∧ PairsAt ν qs r.2 ∧ r.1.length ≤ 300 ∧ r.2.length ≤ 300 ∧ (r.1 = [] ↔ r.2 = [])
theorem RowAt.mono {ν ν' : List (Addr × Obj)} (hs : ∀ p ∈ ν, p ∈ ν') {v : Value} {r : List (Int × Int) × List (Int × Int)} : RowAt ν v r → RowAt ν' v r :=
  fun ⟨t, p, q, vl, k, k1, k2, ps, qs, e, h1, h2, h3, h4, h5, h6⟩ => ⟨t, p, q, vl, k, k1, k2, ps, qs, e, hs _ h1, hs _ h2, hs _ h3, h4.mono hs, h5.mono hs, h6⟩
inductive RowsAt (ν : List (Addr × Obj)) : List Value → List (List (Int × Int) × List (Int × Int)) → Prop
  | nil : RowsAt ν [] []
  | cons {v : Value} {r : List (Int × Int) × List (Int × Int)} {vs : List Value} {rs : List (List (Int × Int) × List (Int × Int))} : RowAt ν v r → RowsAt ν vs rs → RowsAt ν (v :: vs) (r :: rs)
theorem RowsAt.mono {ν ν' : List (Addr × Obj)} (hs : ∀ p ∈ ν, p ∈ ν') {vs : List Value} {rs : List (List (Int × Int) × List (Int × Int))} (h : RowsAt ν vs rs) : RowsAt ν' vs rs := by
  induction h with
  | nil => exact .nil
  | cons a _ ih => exact .cons (a.mono hs) ih
theorem RowsAt.length {ν : List (Addr × Obj)} {vs : List Value} {rs : List (List (Int × Int) × List (Int × Int))} (h : RowsAt ν vs rs) : vs.length = rs.length := by
  induction h with
  | nil => rfl
  | cons _ _ ih => simp [ih]
theorem RowsAt.append {ν : List (Addr × Obj)} {vs ws : List Value} {rs qs : List (List (Int × Int) × List (Int × Int))} (h : RowsAt ν vs rs) (k : RowsAt ν ws qs) : RowsAt ν (vs ++ ws) (rs ++ qs) := by
  induction h with
  | nil => exact k
  | cons a _ ih => exact .cons a ih
theorem RowsAt.get {ν : List (Addr × Obj)} {vs : List Value} {rs : List (List (Int × Int) × List (Int × Int))} (h : RowsAt ν vs rs) : ∀ {i : Nat} {v : Value}, vs[i]? = some v → ∃ r, rs[i]? = some r ∧ RowAt ν v r := by
  induction h with
  | nil => intro i v e; simp at e
  | @cons v r vs rs a _ ih =>
    intro i w e
    cases i with
    | zero => simp at e; exact ⟨r, by simp, e ▸ a⟩
    | succ i => simpa using ih (by simpa using e)

theorem rows_iff {ν : List (Addr × Obj)} {vs : List Value} {rs : List (List (Int × Int) × List (Int × Int))} (h : RowsAt ν vs rs) : (rs.map (·.1)).flatten = [] ↔ (rs.map (·.2)).flatten = [] := by
  induction h with
  | nil => simp
  | cons a _ ih =>
    obtain ⟨_, _, _, _, _, _, _, _, _, _, _, _, _, _, _, _, _, e⟩ := a
    simp only [List.map_cons, List.flatten_cons, List.append_eq_nil_iff]
    rw [e, ih]

section
variable {prog : Program} {w : World} {A : Around} {E : Value → Shared → Prop} {s : Shared} {h₀ : Heap} {L : Addr} {m : Str → Option Value} {env : Env}
theorem csrc_pairs {x1 x2 xe : Str} {p1 p2 tp q : Pos} {tk : Nat} {scope : Scope} {cl : List (Str × Addr)} {Q : Value → Shared → Prop} {a : Addr} {ws : List Value} {k : Nat} {news : List (Addr × Obj)} {ν : List (Addr × Obj)} {ps : List (Int × Int)} (f : Int × Int → Int)
    (hsel : ∀ (m₃ : Str → Option Value) (x y : Int) (t1 t2 : Tok), m₃ x1 = some (.int x t1) → m₃ x2 = some (.int y t2) → ∃ t, m₃ xe = some (.int (f (x, y)) t))
    (hh : A.handled = none) (hkind : scope.kind = .function) (hx1 : scope.names.lookup x1 = some .local) (hx2 : scope.names.lookup x2 = some .local) (hxe : scope.names.lookup xe = some .local) (h12 : x1 ≠ x2) (hd : (xe == ("__debug__" : Str)) = false)
    (F : Fr h₀ L s.heap m) (N : News h₀ L s.heap news) (ha : (a, PySem.W.listOf ws.toArray k) ∈ news) (hp : PairsAt ν ws ps) (hs : ∀ p ∈ ν, p ∈ news) (hlen : ws.length ≤ 16777216)
    (done : ∀ ys D h tk, IntsAre ys (ps.map f) → Fr h₀ L h m → News h₀ L h ((D, LCg.lst ys) :: news) → (∀ p ∈ news, p.1 ≠ D) → Q (.ref D) { s with heap := h, toks := tk }) :
    CSrc prog w A h₀ L m env (.Name xe q) (.Tuple [.Name x1 p1, .Name x2 p2] tk tp) scope cl Q (.ref a) s := by
  refine ⟨a, ws, k, news, fun i ys nw => nw = news ∧ IntsAre ys ((ps.take i).map f), rfl, hh, F, N, ha, hlen, ⟨rfl, .nil⟩, ?_, ?_⟩
  · rintro i ys nw v I oI C oC D m₂ s₂ E' hv hl ⟨rfl, hia⟩ hax hC F₂ N₂ off ne
    obtain ⟨a9, x, y, t1, t2, k9, rfl, hpt, hm⟩ := hp.get hv
    refine assign2_led hh hkind hx1 hx2 h12 F₂ N₂ hC (off_C off ne) (.tail _ (.tail _ (hs _ hm))) fun h' tk oC' m₃ hC' e1 e2 F₃ N₃ => ?_
    obtain ⟨t, e3⟩ := hsel m₃ x y t1 t2 e1 e2
    refine ldVarK (v := .int (f (x, y)) t) (hC'.ns (N₃ _ (.head _)).1) e3 ?_ (by simp [compEnvC, relabel, hkind]) (lookup_relabel_local hxe) hd
    refine CEnd.sameC hC' F₃ N₃ off hax ⟨rfl, ?_⟩
    rw [List.take_add_one, hpt, List.map_append]
    exact ints_snoc hia
  · rintro ys nw D h tk hl ⟨rfl, hia⟩ F' N' off
    rw [hp.length, List.take_length] at hia
    exact done ys D h tk hia F' N' off
end

section
set_option maxHeartbeats 1000000 in
theorem lbox_c {prog : Program} {w : World} {p : Program} {loose : List Str} {mean : ExcName → Option Value} {mg mb : Str → Option Value}
    {dp un : Nat} {gd : Option (List Code)} {cn : Str} {cs : Scope} {a : Addr} {ccd : Value} {cl : List (Str × Addr)} {outer : List Env} {A₀ : Around} {base h₀ : Heap} {L : Addr} {m : Str → Option Value} {s : Shared} {Q E : Value → Shared → Prop}
    {l : Addr} {vs : List Value} {kl : Nat} {rs : List (List (Int × Int) × List (Int × Int))} {own : List (Addr × Obj)}
    (B : Below A₀ base outer h₀) (F : Fr h₀ L s.heap m) (X : (kdef.heap_1 w.params).In h₀) (N : News h₀ L s.heap (own)) (T : Top p loose mean mg mb h₀) (hk : cs.kind = .function) (hroom : dp + 7 < recursionLimit) (hu : un + 400 < cLine) (hl : (l, PySem.W.listOf vs.toArray kl) ∈ own) (hls : RowsAt own vs rs) (hrl : rs.length ≤ 100)
    (ret : ∀ (b : Addr) (x0 y0 x1 y1 : Int) (u1 u2 u3 u4 : Tok) (k : Nat) (h' : Heap) (tk' : Nat), Fr h₀ L h' m → News h₀ L h' ((b, tupO #[.int x0 u1, .int y0 u2, .int x1 u3, .int y1 u4] k) :: own) → (((rs.map (·.1)).flatten = [] ∧ x0 = 0 ∧ y0 = 0 ∧ x1 = 0 ∧ y1 = 0) ∨ BoxOf (rs.map (·.1)).flatten (rs.map (·.2)).flatten x0 y0 x1 y1) → Q (.ref b) { s with heap := h', toks := tk' }) :
    wpAny (model prog w) (ktrTop dp un gd cn cs L a ccd cl outer) (call (.ref 283) [.ref l]) Q E s := by
  k_with_none
  k_with "ne" => (refine neN ?_; (try dsimp only); first | with_reducible assumption | with_reducible exact Ne.symm (by assumption) | with_reducible exact And.left (by assumption) | with_reducible exact Ne.symm (And.left (by assumption)) | with_reducible exact And.left (And.right (by assumption)) | with_reducible exact Ne.symm (And.left (And.right (by assumption))) | with_reducible exact And.right (by assumption) | with_reducible exact Ne.symm (And.right (by assumption)) | with_reducible exact And.left (And.right (And.right (by assumption))) | with_reducible exact Ne.symm (And.left (And.right (And.right (by assumption)))) | with_reducible exact And.right (And.right (by assumption)) | with_reducible exact Ne.symm (And.right (And.right (by assumption))) | with_reducible exact And.left (And.right (And.right (And.right (by assumption)))) | with_reducible exact Ne.symm (And.left (And.right (And.right (And.right (by assumption))))) | with_reducible exact And.right (And.right (And.right (by assumption))) | with_reducible exact Ne.symm (And.right (And.right (And.right (by assumption)))) | with_reducible exact Nat.ne_of_gt (And.left (by assumption)) | with_reducible exact Nat.ne_of_lt (And.left (by assumption)) | with_reducible exact Nat.ne_of_gt (And.left (And.right (by assumption))) | with_reducible exact Nat.ne_of_lt (And.left (And.right (by assumption))) | with_reducible exact Nat.ne_of_gt (And.left (And.right (And.right (by assumption)))) | with_reducible exact Nat.ne_of_lt (And.left (And.right (And.right (by assumption)))) | with_reducible exact Nat.ne_of_gt (And.left (And.right (And.right (And.right (by assumption))))) | with_reducible exact Nat.ne_of_lt (And.left (And.right (And.right (And.right (by assumption))))) | with_reducible exact Nat.ne_of_gt (And.left (And.right (And.right (And.right (And.right (by assumption)))))) | with_reducible exact Nat.ne_of_lt (And.left (And.right (And.right (And.right (And.right (by assumption)))))) | with_reducible exact Nat.ne_of_gt (And.left (And.right (And.right (And.right (And.right (And.right (by assumption))))))) | with_reducible exact Nat.ne_of_lt (And.left (And.right (And.right (And.right (And.right (And.right (by assumption))))))) | with_reducible exact Nat.ne_of_gt (And.left (And.right (And.right (And.right (And.right (And.right (And.right (by assumption)))))))) | with_reducible exact Nat.ne_of_lt (And.left (And.right (And.right (And.right (And.right (And.right (And.right (by assumption)))))))) | with_reducible exact Nat.ne_of_gt (And.left (And.right (And.right (And.right (And.right (And.right (And.right (And.right (by assumption))))))))) | with_reducible exact Nat.ne_of_lt (And.left (And.right (And.right (And.right (And.right (And.right (And.right (And.right (by assumption))))))))) | with_reducible exact Nat.ne_of_gt (And.left (And.right (And.right (And.right (And.right (And.right (And.right (And.right (And.right (by assumption)))))))))) | with_reducible exact Nat.ne_of_lt (And.left (And.right (And.right (And.right (And.right (And.right (And.right (And.right (And.right (by assumption)))))))))) | omega)
  k_with "eval ListComp" => (k_here; k_dflt (refine comp_led (by k_asm) (by rfl) (by decide) (by rfl) (by decide) ?_))
  k_with "CSrc" => ( k_here; first | k_dflt (refine' csrc_pairs (·.1) (fun _ _ _ _ _ e1 _ => ⟨_, e1⟩) ?zzqa1 ?zzqa2 ?zzqa3 ?zzqa4 ?zzqa5 ?zzqa6 ?zzqa7 ?zzqk1 ?zzqk2 ?zzqk3 ?zzqk4 ?zzqk5 ?zzqk6 ?_; (case zzqa1 => rfl); (case zzqa2 => rfl); (case zzqa3 => rfl); (case zzqa4 => rfl); (case zzqa5 => rfl); (case zzqa6 => decide); (case zzqa7 => decide); (case zzqk1 => k_asm); (case zzqk2 => k_asm); (case zzqk3 => k_mem); (case zzqk4 => assumption); (case zzqk5 => (intro p hp; simp only [List.mem_cons, hp, or_true])); (case zzqk6 => omega)) | k_dflt (refine' csrc_pairs (·.2) (fun _ _ _ _ _ _ e2 => ⟨_, e2⟩) ?zzqa1 ?zzqa2 ?zzqa3 ?zzqa4 ?zzqa5 ?zzqa6 ?zzqa7 ?zzqk1 ?zzqk2 ?zzqk3 ?zzqk4 ?zzqk5 ?zzqk6 ?_; (case zzqa1 => rfl); (case zzqa2 => rfl); (case zzqa3 => rfl); (case zzqa4 => rfl); (case zzqa5 => rfl); (case zzqa6 => decide); (case zzqa7 => decide); (case zzqk1 => k_asm); (case zzqk2 => k_asm); (case zzqk3 => k_mem); (case zzqk4 => assumption); (case zzqk5 => (intro p hp; simp only [List.mem_cons, hp, or_true])); (case zzqk6 => omega)); intros; (try dsimp only); (try k_sweep))
  k_with "call type:list" => (k_here; (with_reducible show wpAny _ _ (call (Value.type _) [Value.ref _]) _ _ _); k_dflt (refine' list_copyL ?zzqF ?zzqN ?zzqb ?zzqz ?_; (case zzqF => k_asm); (case zzqN => k_asm); (case zzqb => k_mem); (case zzqz => first | omega | (simp only [List.length_append]; omega)); k_whole); intros; (try (rename_i l1; k_lt l1; revert l1; intro _)); (try k_sweep))
  k_with "binaryOp Add ref ref" => (k_here; (with_reducible show wpAny _ _ (binaryOp _ (Value.ref _) (Value.ref _)) _ _ _); k_dflt (refine' add_listL ?zzqF ?zzqN ?zzqa ?zzqb ?zzqz ?_; (case zzqF => k_asm); (case zzqN => k_asm); (case zzqa => k_mem); (case zzqb => k_mem); (case zzqz => first | omega | (simp only [List.length_append]; omega)); k_whole); intros; (try (rename_i l1; k_lt l1; revert l1; intro _)); (try k_sweep))
  k_with "call builtin:min" => (k_here; (with_reducible show wpAny _ _ (call (Value.builtin _) [Value.ref _]) _ _ _); k_dflt (refine' min_list_N ?zzqk1 ?zzqk2 ?zzqk3 ?zzqk4 ?zzqk5 ?zzqk6 ?_; (case zzqk1 => with_unfolding_all rfl); (case zzqk2 => k_asm); (case zzqk3 => k_asm); (case zzqk4 => exact News.isList (by k_asm) (by k_mem)); (case zzqk5 => assumption); (case zzqk6 => (simp only [List.length_map]; first | assumption | exact List.length_pos_iff.mpr (by assumption) | exact List.length_pos_iff.mpr (fun e => absurd (Iff.mpr (by assumption) e) (by assumption)))); k_whole); intros; (try k_sweep))
  k_with "call builtin:max" => (k_here; (with_reducible show wpAny _ _ (call (Value.builtin _) [Value.ref _]) _ _ _); k_dflt (refine' max_list_N ?zzqk1 ?zzqk2 ?zzqk3 ?zzqk4 ?zzqk5 ?zzqk6 ?_; (case zzqk1 => with_unfolding_all rfl); (case zzqk2 => k_asm); (case zzqk3 => k_asm); (case zzqk4 => exact News.isList (by k_asm) (by k_mem)); (case zzqk5 => assumption); (case zzqk6 => (simp only [List.length_map]; first | assumption | exact List.length_pos_iff.mpr (by assumption) | exact List.length_pos_iff.mpr (fun e => absurd (Iff.mpr (by assumption) e) (by assumption)))); k_whole); intros; (try k_sweep))
  k_with "exec For" => (k_here; k_dflt (refine' For_invTF (by k_asm) ?_ (by intro _; rfl)))
  k_with "exec For Name Attribute cons nil" => (k_here; k_dflt (refine' For_invTF (by k_asm) ?_ (by intro _; rfl)))
  k_with "exec For Name Name cons nil" => (k_here; k_dflt (refine' For_invTF (by k_asm) ?_ (by intro _; rfl)))
  k_with "exec For Tuple Name cons nil" => (k_here; k_dflt (refine' For_invTF (by k_asm) ?_ (by intro _; rfl)))
  k_with "pyIter ref" => (k_dflt (refine held ?_))
  k_with "compareOp Eq ref ref" => (k_here; (with_reducible show wpAny _ _ (compareOp CmpOp.Eq (Value.ref _) (Value.ref _)) _ _ _); k_dflt (refine' eq_nil_pairs ?zzqN ?zzqa ?zzqb ?zzqp ?zzqs ?zzqu ?_; (case zzqN => k_asm); (case zzqa => k_mem); (case zzqb => k_mem); (case zzqp => assumption); (case zzqs => intro p hp; simp only [List.mem_cons]; simp only [hp, or_true]); (case zzqu => ktr_units); k_whole))
  refine wpAny_call ?_
  k_dflt cell_enter
  k_steps
  rename_i F9 N9
  refine Held.go ?_
  refine for_led (fun i m nw => ∃ a b ws us k1 k2, m (Str.ofString "low") = some (.ref a) ∧ m (Str.ofString "high") = some (.ref b) ∧ (a, PySem.W.listOf (List.toArray ws) k1) ∈ nw ∧ (b, PySem.W.listOf (List.toArray us) k2) ∈ nw ∧ (∀ p ∈ own, p ∈ nw) ∧ PairsAt own ws ((rs.take i).map (·.1)).flatten ∧ PairsAt own us ((rs.take i).map (·.2)).flatten ∧ ws.length ≤ 300 * i ∧ us.length ≤ 300 * i)
    (by rfl) F9 N9 (by k_mem) ⟨_, _, [], [], 0, 0, rfl, rfl, .tail _ (.tail _ (.head _)), .tail _ (.head _), (fun p hp => .tail _ (.tail _ (.tail _ hp))), .nil, .nil, Nat.le_refl _, Nat.le_refl _⟩ ?_ ?_
  · rintro i v m₁ nw I oI s₁ hv ⟨a, b, ws, us, k1, k2, hma, hmb, ha, hb, hown, hps, hqs, hl1, hl2⟩ hln offI F10 N10
    obtain ⟨r, hr, ⟨t9, p9, q9, vl, k9, j1, j2, ps, qs, rfl, r1, r2, r3, r4, r5, r6, r7, r8⟩⟩ := hls.get hv
    have hi : i < rs.length := (List.getElem?_eq_some_iff.mp hr).1
    obtain ⟨lo, hi'⟩ := r
    have r1' := hown _ r1
    have r2' := hown _ r2
    have r3' := hown _ r3
    have e4 := r4.length
    have e5 := r5.length
    have e : (fun z => if z = Str.ofString "low" then some (Value.ref a) else if z = Str.ofString "high" then some (Value.ref b) else m₁ z) = m₁ := funext fun z => by
      by_cases h : z = Str.ofString "low"
      · simp [h, hma]
      · by_cases h' : z = Str.ofString "high"
        · rw [h'] at h ⊢; simp [h, hmb]
        · simp [h, h']
    rw [← e] at F10
    clear e hma hmb
    have eL : ((rs.take (i + 1)).map (·.1)).flatten = ((rs.take i).map (·.1)).flatten ++ lo := by rw [List.take_add_one, hr]; simp
    have eH : ((rs.take (i + 1)).map (·.2)).flatten = ((rs.take i).map (·.2)).flatten ++ hi' := by rw [List.take_add_one, hr]; simp
    rw [eL, eH]
    clear eL eH
    (try dsimp only at e4 e5 r6 r7 r8 ⊢)
    (try k_fold)
    k_steps
    refine ForEnd.k3 (by k_asm) (by assumption) (by assumption) (by assumption) (by assumption) offI hln ⟨_, _, ws ++ ps, us ++ qs, 0, 0, rfl, rfl, .tail _ (.tail _ (.head _)), .tail _ (.head _), (fun p hp => .tail _ (.tail _ (.tail _ (hown p hp)))), hps.append r4, hqs.append r5, ?_, ?_⟩
    · rw [List.length_append]; omega
    · rw [List.length_append]; omega
  · rintro m₁ nw h tk ⟨a, b, ws, us, k1, k2, hma, hmb, ha, hb, hown, hps, hqs, hl1, hl2⟩ F10 N10
    have e : (fun z => if z = Str.ofString "low" then some (Value.ref a) else if z = Str.ofString "high" then some (Value.ref b) else m₁ z) = m₁ := funext fun z => by
      by_cases h : z = Str.ofString "low"
      · simp [h, hma]
      · by_cases h' : z = Str.ofString "high"
        · rw [h'] at h ⊢; simp [h, hmb]
        · simp [h, h']
    rw [← e] at F10
    clear e hma hmb
    have hlr := hls.length
    rw [hlr, List.take_length] at hps hqs
    have hps' := hps.mono hown
    have hqs' := hqs.mono hown
    have hiff := rows_iff hls
    (try dsimp only)
    k_steps
    · rename_i hnil D9 _ _ _ l9 _ kN _ _
      exact ret D9 0 0 0 0 _ _ _ _ 0 _ _ (by k_asm) (fun p hp => kN p (by
        rcases List.mem_cons.mp hp with rfl | hp
        · exact .head _
        · exact .tail _ (.tail _ (hown p hp)))) (.inl ⟨hnil, rfl, rfl, rfl, rfl⟩)
    · rename_i _ _ _ _ _ _ _ M0 _ _ a0 b0 _ _ _ _ _ _ _ M1 _ _ a1 b1 _ _ _ _ _ _ _ M2 _ _ a2 b2 _ _ _ _ _ _ _ M3 _ _ a3 b3 D9 _ _ _ l9 _ kN _ _
      exact ret D9 M0 M1 M2 M3 _ _ _ _ 0 _ _ (by k_asm) (fun p hp => kN p (by
        rcases List.mem_cons.mp hp with rfl | hp
        · exact .head _
        · exact .tail _ (.tail _ (.tail _ (.tail _ (.tail _ (.tail _ (hown p hp)))))))) (.inr ⟨⟨a0, b0⟩, ⟨a1, b1⟩, ⟨a2, b2⟩, ⟨a3, b3⟩⟩)
end
end

section
section
variable {prog : Program} {w : World} {A : Around} {E : Value → Shared → Prop} {s : Shared} {h₀ : Heap} {L : Addr} {m : Str → Option Value} {news : List (Addr × Obj)}
theorem applied_to2 {sl : Addr} {u : Tok} {Q : Int × Int × Nat → Shared → Prop} (hs : s.heap.IsSliceOf sl .none (.int 2 u) .none) (h : Q (0, 1, 2) s) :
    wpAny (model prog w) A (Builtin.Slice.sliceApplied (.ref sl) (pure (4 : Int))) Q E s := by
  obtain ⟨os, hos, hcs, hds⟩ := id hs
  unfold Builtin.Slice.sliceApplied Builtin.Slice.sliceFields
  refine wpAny_bind (wpAny_bind (wpAny_field hos hds (x := .none) rfl (wpAny_bind (wpAny_field hos hds (x := .int 2 u) rfl (wpAny_bind (wpAny_field hos hds (x := .none) rfl (wpAny_pure ?_)))))))
  refine wpAny_bind (slicePart_none ?_)
  show wpAny _ _ (if ((1 : Int) == 0) = true then _ else _) _ _ s
  rw [if_neg (by decide)]
  exact wpAny_bind (slicePart_none (wpAny_bind (slicePart_int (wpAny_bind (wpAny_pure (wpAny_pure h))))))
theorem get_to2 {t sl : Addr} {v0 v1 v2 v3 : Value} {u : Tok} {Q : Value → Shared → Prop} (ht : IsTup s.heap t #[v0, v1, v2, v3]) (hs : s.heap.IsSliceOf sl .none (.int 2 u) .none)
    (h : Q (.ref s.heap.objs.size) { s with heap := s.heap.push { cls := .type "tuple", data := .seq #[v0, v1] } }) : wpAny (model prog w) A (getItem (.ref t) (.ref sl)) Q E s := by
  have hdrop : sizeOk (.seq #[v0, v1]) := by
    show (2 : Nat) ≤ sizeLine
    rw [sizeLine_eq]; omega
  obtain ⟨os, hos, hcs, hds⟩ := id hs
  have hTs : s.TypeIs (.ref sl) "slice" := ⟨os, hos, hcs⟩
  unfold getItem
  try with_reducible refine wpAny_holding ?_
  first | refine wpAny_bind (wpAny_pure ?_) | skip
  refine wpAny_bind (wpAny_sequenceKey ht.typeIs (by decide) ?_)
  refine wpAny_bind (wpAny_callSpecial?_slot (name := Str.ofString "__getitem__") ht.typeIs slot_tuple_getitem
    (wpAny_call_entry slot_tuple_getitem ht.typeIs entry_tuple_getitem ?_ (args_tuple_getitem _ _)))
  show wpAny _ _ (Builtin.Tuple.tupleItemsOf (.ref t) >>= _) _ _ s
  refine wpAny_bind (tupleItemsOf_ ht ?_)
  refine wpAny_bind (wpAny_typeOf hTs ?_)
  rw [if_pos (by decide)]
  refine wpAny_bind (applied_to2 hs ?_)
  show wpAny _ _ (if ((0 : Int) == 0 && (1 : Int) == 1 && (2 : Nat) == (4 : Nat)) = true then _ else _) _ _ s
  rw [if_neg (by decide)]
  have e : ((List.range 2).filterMap fun (k : Nat) => (#[v0, v1, v2, v3] : Array Value)[((0 : Int) + (k : Int) * 1).toNat]?).toArray = #[v0, v1] := rfl
  rw [e]
  first
    | exact wpAny_bind (m := Builtin.Tuple.tupleExact _) (wpAny_newObj_type (wpAny_pure ⟨_, rfl, wpAny_pure h⟩) hdrop)
    | exact wpAny_bind (m := Builtin.Tuple.tupleExact _) (wpAny_newObj_type (wpAny_bind (wpAny_pure (wpAny_pure ⟨_, rfl, wpAny_pure h⟩))) hdrop)
    | exact wpAny_bind (wpAny_bind (m := Builtin.Tuple.tupleExact _) (wpAny_newObj_type (wpAny_pure (wpAny_pure ⟨_, rfl, wpAny_pure h⟩)) hdrop))
    | exact wpAny_bind (wpAny_bind (m := Builtin.Tuple.tupleExact _) (wpAny_newObj_type (wpAny_pure ⟨_, rfl, wpAny_pure h⟩) hdrop))
theorem slice_to2 {value slice : Expr} {t : Addr} {v0 v1 v2 v3 : Value} {u : Tok} {Q : Value → Shared → Prop}
    (F : Fr h₀ L s.heap m) (N : News h₀ L s.heap news) (ht : IsTup s.heap t #[v0, v1, v2, v3])
    (h : ∀ (D' : Addr) h', Fr h₀ L h' m → News h₀ L h' ((D', tupO #[v0, v1] 0) :: news) → AllLt D' news → Q (.ref D') { s with heap := h' })
    (hs : subscripted slice false (.ref t) (.ref s.heap.objs.size) = operate [.ref s.heap.objs.size, .ref t] (getItem (.ref t) (.ref s.heap.objs.size)) := by with_unfolding_all rfl)
    (hg : ∀ r, letTemporaryGo value (.ref t) r = pure () := by intro _; with_unfolding_all rfl) :
    wpAny (model prog w) A (subscriptTail value slice (.ref t) (.ref s.heap.objs.size)) Q E { s with heap := s.heap.push { cls := .type "slice", data := .fields #[.none, .int 2 u, .none] } } := by
  have ht' : IsTup (s.heap.push { cls := .type "slice", data := .fields #[.none, .int 2 u, .none] }) t #[v0, v1, v2, v3] := ht.keeps fun _ _ e => Heap.get?_push_of_some _ e
  refine subscriptTail_ops (s := { s with heap := s.heap.push { cls := .type "slice", data := .fields #[.none, .int 2 u, .none] } }) ht'.typeIs slot_tuple_getitem.lookup
    (get_to2 ht' (Heap.IsSliceOf.new ..) ?_) hs hg
  have N1 := News.push (F.push { cls := .type "slice", data := .fields #[.none, .int 2 u, .none] }) (N.grown fun _ _ e => Heap.get?_push_of_some _ e) { cls := .type "tuple", data := .seq #[v0, v1] }
  have l1 : AllLt (s.heap.push { cls := .type "slice", data := .fields #[.none, .int 2 u, .none] }).objs.size news := by
    rw [Heap.size_push]
    exact allLt_of fun p hp => Nat.lt_succ_of_lt (Heap.lt_size (N p hp).1)
  exact h _ _ ((F.push _).push _) N1 l1
theorem slice_from2 {value slice : Expr} {t : Addr} {v0 v1 v2 v3 : Value} {u : Tok} {Q : Value → Shared → Prop}
    (F : Fr h₀ L s.heap m) (N : News h₀ L s.heap news) (ht : IsTup s.heap t #[v0, v1, v2, v3])
    (h : ∀ (D' : Addr) h', Fr h₀ L h' m → News h₀ L h' ((D', tupO #[v2, v3] 0) :: news) → AllLt D' news → Q (.ref D') { s with heap := h' })
    (hs : subscripted slice false (.ref t) (.ref s.heap.objs.size) = operate [.ref s.heap.objs.size, .ref t] (getItem (.ref t) (.ref s.heap.objs.size)) := by with_unfolding_all rfl)
    (hg : ∀ r, letTemporaryGo value (.ref t) r = pure () := by intro _; with_unfolding_all rfl) :
    wpAny (model prog w) A (subscriptTail value slice (.ref t) (.ref s.heap.objs.size)) Q E { s with heap := s.heap.push { cls := .type "slice", data := .fields #[.int 2 u, .none, .none] } } := by
  refine slice_tuple_from (a := 2) F N ht (by decide) (by show 2 ≤ 4; decide) (fun h' F' N' => h _ h' F' N' ?_) hs hg (by show (4 : Nat) ≤ sizeLine; rw [sizeLine_eq]; omega)
  exact allLt_of fun p hp => Nat.lt_succ_of_lt (Heap.lt_size (N p hp).1)
end
end

section
/-- what stands behind the first four statements of the letter -/
def LetMid (gg : Heap) (LL : Addr) (s₀ : Shared) (c : Addr × Obj) (src : Addr) (n : Nat) (own : List (Addr × Obj)) (s' : Shared) : Prop :=
  ∃ (m : Str → Option Value) (h : Heap) (tk : Nat) (pl Dp DC DB : Addr) (a0 a1 a2 a3 : Int) (b0 b1 b2 b3 : Tok) (ρ : List (Addr × Obj)) (ys ys2 : List Value) (css : List (List (Int × Int))) (P q : Int) (t1 t2 : Tok),
    s' = { s₀ with heap := h, toks := tk } ∧ m (Str.ofString "box") = some (.ref DB) ∧ m (Str.ofString "parts") = some (.ref pl) ∧ m (Str.ofString "contours") = some (.ref DC) ∧ m (Str.ofString "points") = some (.ref Dp) ∧ Fr gg LL h m ∧
    News gg LL h (c :: (src, SrcO P q t1 t2 n) :: (ρ ++ own)) ∧ Fresh src own ρ ∧ (Dp, LCg.lst ys2) ∈ ρ ∧ (DC, LCg.lst ys) ∈ ρ ∧ (DB, tupO #[.int a0 b0, .int a1 b1, .int a2 b2, .int a3 b3] 0) ∈ ρ ∧ ConsAt ρ ys css ∧ PairsAt ρ ys2 css.flatten ∧ css.length ≤ 2 ∧ css.flatten ≠ [] ∧ ys2.length ≤ 300 ∧ 0 ≤ P ∧ (0 ≤ q ∧ q < 2147483647)

/-- a row with its letter -/
structure RowL (ν : List (Addr × Obj)) (v : Value) (r : List (Int × Int) × List (Int × Int)) : Prop where
  said : ∃ (t p q : Addr) (vl : Value) (k k1 k2 : Nat) (ps qs : List Value), v = .ref t ∧ (t, tupO #[vl, .ref p, .ref q] k) ∈ ν ∧ (p, PySem.W.listOf ps.toArray k1) ∈ ν ∧ (q, PySem.W.listOf qs.toArray k2) ∈ ν ∧ PairsAt ν ps r.1 ∧ PairsAt ν qs r.2 ∧ r.1.length ≤ 300 ∧ r.2.length ≤ 300 ∧ (r.1 = [] ↔ r.2 = []) ∧ LetAt ν vl r
theorem RowL.mono {ν ν' : List (Addr × Obj)} (hs : ∀ p ∈ ν, p ∈ ν') {v : Value} {r : List (Int × Int) × List (Int × Int)} : RowL ν v r → RowL ν' v r :=
  fun ⟨t, p, q, vl, k, k1, k2, ps, qs, e, h1, h2, h3, h4, h5, h6, h7, h8, h9⟩ => ⟨t, p, q, vl, k, k1, k2, ps, qs, e, hs _ h1, hs _ h2, hs _ h3, h4.mono hs, h5.mono hs, h6, h7, h8, h9.mono hs⟩
theorem RowL.row {ν : List (Addr × Obj)} {v : Value} {r : List (Int × Int) × List (Int × Int)} : RowL ν v r → RowAt ν v r :=
  fun ⟨t, p, q, vl, k, k1, k2, ps, qs, e, h1, h2, h3, h4, h5, h6, h7, h8, _⟩ => ⟨t, p, q, vl, k, k1, k2, ps, qs, e, h1, h2, h3, h4, h5, h6, h7, h8⟩
theorem Cut.sub {c s₀ : Addr × Obj} {ρ own all tl : List (Addr × Obj)} (h : Cut c s₀ ρ own all tl) : ∀ p ∈ ρ, p ∈ tl := by
  induction h with
  | base => exact fun p hp => hp
  | cons _ ih => exact fun p hp => .tail _ (ih p hp)
theorem News.cut {h₀ h : Heap} {L : Addr} {c s₀ : Addr × Obj} {ρ own all tl : List (Addr × Obj)} (N : News h₀ L h all) (cut : Cut c s₀ ρ own all tl) : News h₀ L h (s₀ :: (tl ++ own)) := fun p hp => N p (cut.mem p hp)
theorem nameI {x y : Int} (h : x < y) : ∃ z, z = x := ⟨x, rfl⟩
theorem nameR {x y : Nat} (h : x < y) : ∃ z, z = y := ⟨y, rfl⟩
section
local macro_rules | `(tactic| ktn_open) => `(tactic| (
  (refine' code_defC ?k1 ?k2 ?k3 ?k4 ?k5 ?kA ?kF ?kK ?k6 ?k7 ?k8 ?k9 ?kB ?kD ?_ ?c2 ?c3 ?c4; (case kA => exact rfl); (case kF => exact rfl); (case kK => assumption); (case k1 => k_asm); (case k2 => k_asm); (case k3 => k_asm); (case k4 => k_asm); (case k5 => k_asm); (case k6 => k_is); (case k7 => k_is); (case k8 => ktr_room); (case k9 => exact BindsTo.of_eq rfl); (case kB => exact rfl); (case kD => decide +kernel); (case c2 => exact rfl); (case c3 => exact rfl); (case c4 => exact rfl); k_whole)
  intro g' L' h' tk' cells' FG' F' N' Y' B' X' T' l1
  (try k_lt l1)
  k_cells Y'
  (try simp only [List.cons_append, List.nil_append] at N')
  (try dsimp only)
  (try k_lift B')
  (try k_fold)))
set_option maxHeartbeats 4000000 in
theorem let_c {prog : Program} {w : World} {p : Program} {loose : List Str} {mean : ExcName → Option Value} {mg mb : Str → Option Value}
    {dp un : Nat} {gd : Option (List Code)} {cn : Str} {cs : Scope} {a : Addr} {ccd : Value} {cl : List (Str × Addr)} {outer : List Env} {A₀ : Around} {base h₀ : Heap} {L : Addr} {m : Str → Option Value} {s : Shared} {Q E : Value → Shared → Prop}
    {src : Addr} {P q : Int} {t1 t2 : Tok} {n : Nat} {own : List (Addr × Obj)}
    (B : Below A₀ base outer h₀) (F : Fr h₀ L s.heap m) (X : (kdef.heap_1 w.params).In h₀) (N : News h₀ L s.heap ((src, PySem.W.listOf #[.int P t1, .int q t2] n) :: own)) (T : Top p loose mean mg mb h₀) (hk : cs.kind = .function) (hroom : dp + 9 < recursionLimit) (hu : un + 400 < cLine) (hne : ∀ p ∈ own, p.1 ≠ src) (hP : 0 ≤ P) (hq : 0 ≤ q ∧ q < 2147483647)
    (ret : ∀ (t : Addr) (low high : List (Int × Int)) (tl : List (Addr × Obj)) (P' q' : Int) (t1' t2' : Tok) (h' : Heap) (tk' : Nat), Fr h₀ L h' m → News h₀ L h' ((src, PySem.W.listOf #[.int P' t1', .int q' t2'] n) :: (tl ++ own)) → Fresh src own tl → 0 ≤ P' → (0 ≤ q' ∧ q' < 2147483647) → RowL tl (.ref t) (low, high) → Q (.ref t) { s with heap := h', toks := tk' }) :
    wpAny (model prog w) (ktrTop dp un gd cn cs L a ccd cl outer) (call (.ref 278) [.ref src]) Q E s := by
  k_with_none
  k_with "ne" => (refine neN ?_; (try dsimp only); first | with_reducible assumption | with_reducible exact Ne.symm (by assumption) | with_reducible exact And.left (by assumption) | with_reducible exact Ne.symm (And.left (by assumption)) | with_reducible exact And.left (And.right (by assumption)) | with_reducible exact Ne.symm (And.left (And.right (by assumption))) | with_reducible exact And.right (by assumption) | with_reducible exact Ne.symm (And.right (by assumption)) | with_reducible exact And.left (And.right (And.right (by assumption))) | with_reducible exact Ne.symm (And.left (And.right (And.right (by assumption)))) | with_reducible exact And.right (And.right (by assumption)) | with_reducible exact Ne.symm (And.right (And.right (by assumption))) | with_reducible exact And.left (And.right (And.right (And.right (by assumption)))) | with_reducible exact Ne.symm (And.left (And.right (And.right (And.right (by assumption))))) | with_reducible exact And.right (And.right (And.right (by assumption))) | with_reducible exact Ne.symm (And.right (And.right (And.right (by assumption)))) | with_reducible exact Nat.ne_of_gt (And.left (by assumption)) | with_reducible exact Nat.ne_of_lt (And.left (by assumption)) | with_reducible exact Nat.ne_of_gt (And.left (And.right (by assumption))) | with_reducible exact Nat.ne_of_lt (And.left (And.right (by assumption))) | with_reducible exact Nat.ne_of_gt (And.left (And.right (And.right (by assumption)))) | with_reducible exact Nat.ne_of_lt (And.left (And.right (And.right (by assumption)))) | with_reducible exact Nat.ne_of_gt (And.left (And.right (And.right (And.right (by assumption))))) | with_reducible exact Nat.ne_of_lt (And.left (And.right (And.right (And.right (by assumption))))) | with_reducible exact Nat.ne_of_gt (And.left (And.right (And.right (And.right (And.right (by assumption)))))) | with_reducible exact Nat.ne_of_lt (And.left (And.right (And.right (And.right (And.right (by assumption)))))) | with_reducible exact Nat.ne_of_gt (And.left (And.right (And.right (And.right (And.right (And.right (by assumption))))))) | with_reducible exact Nat.ne_of_lt (And.left (And.right (And.right (And.right (And.right (And.right (by assumption))))))) | with_reducible exact Nat.ne_of_gt (And.left (And.right (And.right (And.right (And.right (And.right (And.right (by assumption)))))))) | with_reducible exact Nat.ne_of_lt (And.left (And.right (And.right (And.right (And.right (And.right (And.right (by assumption)))))))) | with_reducible exact Nat.ne_of_gt (And.left (And.right (And.right (And.right (And.right (And.right (And.right (And.right (by assumption))))))))) | with_reducible exact Nat.ne_of_lt (And.left (And.right (And.right (And.right (And.right (And.right (And.right (And.right (by assumption))))))))) | with_reducible exact Nat.ne_of_gt (And.left (And.right (And.right (And.right (And.right (And.right (And.right (And.right (And.right (by assumption)))))))))) | with_reducible exact Nat.ne_of_lt (And.left (And.right (And.right (And.right (And.right (And.right (And.right (And.right (And.right (by assumption)))))))))) | omega)
  k_with "call ref" => ( k_here; k_dflt (show wpAny _ _ (call (Value.ref 254) [Value.ref _, Value.int _ _]) _ _ _); k_dflt (refine' take_u ?zzqk1 ?zzqk2 ?zzqk3 ?zzqk4 ?zzqk5 ?zzqk6 ?zzqk7 ?zzqk8 ?zzqe1 ?zzqe2 ?zzqe3 ?zzqe4 ?_; (case zzqk1 => k_asm); (case zzqk2 => k_asm); (case zzqk3 => k_asm); (case zzqk4 => k_asm); (case zzqk5 => k_asm); (case zzqk6 => first | exact rfl | assumption); (case zzqk7 => ktr_room); (case zzqk8 => ktr_units); (case zzqe1 => intro o'; k_upd); (case zzqe2 => assumption); (case zzqe3 => assumption); (case zzqe4 => first | decide | omega); k_whole); intros; (try dsimp only); (try k_sweep); (try k_fold); walk_say "TAKE")
  k_with "call ref" => ( k_here; k_dflt (show wpAny _ _ (call (Value.ref 268) [Value.ref _]) _ _ _); k_dflt (refine' num_u ?zzqk1 ?zzqk2 ?zzqk3 ?zzqk4 ?zzqk5 ?zzqk6 ?zzqk7 ?zzqk8 ?zzqe1 ?zzqe2 ?zzqe3 ?_; (case zzqk1 => k_asm); (case zzqk2 => k_asm); (case zzqk3 => k_asm); (case zzqk4 => k_asm); (case zzqk5 => k_asm); (case zzqk6 => first | exact rfl | assumption); (case zzqk7 => ktr_room); (case zzqk8 => ktr_units); (case zzqe1 => intro o'; k_upd); (case zzqe2 => assumption); (case zzqe3 => assumption); k_whole); intros; (try dsimp only); (try k_sweep); (try k_fold); walk_say "NUM")
  k_with "call ref" => ( k_here; k_dflt (show wpAny _ _ (call (Value.ref 273) [Value.ref _]) _ _ _); k_dflt (refine' con_u ?zzqk1 ?zzqk2 ?zzqk3 ?zzqk4 ?zzqk5 ?zzqk6 ?zzqk7 ?zzqk8 ?zzqe1 ?zzqe2 ?zzqe3 ?_; (case zzqk1 => k_asm); (case zzqk2 => k_asm); (case zzqk3 => k_asm); (case zzqk4 => k_asm); (case zzqk5 => k_asm); (case zzqk6 => first | exact rfl | assumption); (case zzqk7 => ktr_room); (case zzqk8 => ktr_units); (case zzqe1 => intro o'; k_upd); (case zzqe2 => assumption); (case zzqe3 => assumption); k_whole); intros; (try dsimp only); (try k_sweep); (try k_fold); walk_say "CON")
  k_with "call ref" => ( k_here; k_dflt (show wpAny _ _ (call (Value.ref 79) [_, _, _]) _ _ _); k_dflt (refine' part_c ?zzqk1 ?zzqk2 ?zzqk3 ?zzqk4 ?zzqk5 ?zzqk6 ?zzqk7 ?zzqk8 ?_; (case zzqk1 => k_asm); (case zzqk2 => k_asm); (case zzqk3 => k_asm); (case zzqk4 => k_asm); (case zzqk5 => k_asm); (case zzqk6 => first | exact rfl | assumption); (case zzqk7 => ktr_room); (case zzqk8 => ktr_units); k_whole); intros; (try dsimp only); (try k_sweep); (try k_fold); walk_say "PART")
  k_with "call ref" => ( k_here; k_dflt (show wpAny _ _ (call (Value.ref 236) [_]) _ _ _); k_dflt (refine' outl_c ?zzqk1 ?zzqk2 ?zzqk3 ?zzqk4 ?zzqk5 ?zzqk6 ?zzqk7 ?zzqk8 ?_; (case zzqk1 => k_asm); (case zzqk2 => k_asm); (case zzqk3 => k_asm); (case zzqk4 => k_asm); (case zzqk5 => k_asm); (case zzqk6 => first | exact rfl | assumption); (case zzqk7 => ktr_room); (case zzqk8 => ktr_units); k_whole); intros; (try dsimp only); (try k_sweep); (try k_fold); (try (rename_i l1 h90; k_lt l1; revert h90 l1; intro _ _)); walk_say "OUTL")
  k_with "call ref" => ( k_here; k_dflt (show wpAny _ _ (call (Value.ref 181) [_, _, _, _, _]) _ _ _); k_dflt (refine' letr_c ?zzqk1 ?zzqk2 ?zzqk3 ?zzqk4 ?zzqk5 ?zzqk6 ?zzqk7 ?zzqk8 ?_; (case zzqk1 => k_asm); (case zzqk2 => k_asm); (case zzqk3 => k_asm); (case zzqk4 => k_asm); (case zzqk5 => k_asm); (case zzqk6 => first | exact rfl | assumption); (case zzqk7 => ktr_room); (case zzqk8 => ktr_units); k_whole); intros; (try dsimp only); (try k_sweep); (try k_fold); (try (rename_i l1 h90; k_lt l1; revert h90 l1; intro _ _)); walk_say "LETR")
  k_with "call builtin:len" => (k_here; (with_reducible show wpAny _ _ (call (Value.builtin _) [Value.ref _]) _ _ _); k_dflt (refine' len_listL ?zzqN ?zzqb ?zzqz ?_; (case zzqN => k_asm); (case zzqb => k_mem); (case zzqz => omega); k_whole))
  k_with "eval ListComp" => (k_here; k_dflt (refine LCg.ListComp_U (F₀ := by k_asm) (by rfl) (by decide) (by rfl) (by decide) (by rfl) ?_))
  k_with "exec Assign cons ListComp" => (k_here; (with_reducible show wpAny _ _ (exec (Stmt.Assign _ (Expr.ListComp _ (_ :: []) _ _) _) _) _ _ _); k_dflt (refine LCg.Assign_ListComp_U (F₀ := by k_asm) (by rfl) (by with_unfolding_all rfl) (by rfl) (by decide) (by rfl) (by decide) (by rfl) (by rfl) (by rfl) ?_))
  k_with "CompSrc" => (k_dflt (refine held ?_))
  k_with "exec Assign cons ListComp" => (k_here; (with_reducible show wpAny _ _ (exec (Stmt.Assign _ (Expr.ListComp _ (_ :: _ :: _) _ _) _) _) _ _ _); k_dflt (refine nest_ledA (by k_asm) (by rfl) (by with_unfolding_all rfl) (by rfl) (by decide) (by rfl) (by decide) (by rfl) (by decide) (by rfl) (by rfl) ?_))
  k_with "NSrcA" => (k_dflt (refine held ?_))
  k_with "subscriptTail Name Slice ref ref" => (k_here; (with_reducible show wpAny _ _ (subscriptTail _ _ (Value.ref _) (Value.ref _)) _ _ _); (first | k_dflt (with_unfolding_all refine' slice_to2 ?zzqF ?zzqN ?zzqt ?_) | k_dflt (with_unfolding_all refine' slice_from2 ?zzqF ?zzqN ?zzqt ?_)); (case zzqF => k_asm); (case zzqN => k_asm); (case zzqt => exact News.isTup (by k_asm) (by k_mem)); k_whole; intros; (try (rename_i l1; k_lt l1; revert l1; intro _)); (try k_sweep); (try k_fold))
  refine wpAny_call ?_
  k_dflt ktn_open
  rename_i gg LL _ _ _ _ _ _ _ lc oc dc _
  refine execs_cut (b1 := [_, _, _, _]) (LetMid gg LL s (LL + 1, oc) src n own) rfl ?_ ?_
  rotate_left
  · rintro s' ⟨m, h, tk, pl, Dp, DC, DB, a0, a1, a2, a3, b0, b1, b2, b3, ρ, ys, ys2, css, P, q, t1, t2, rfl, eb, ep, ec, eq, F9, N9, hρ, hDp, hDC, hDB, hcρ, hpρ, hc2, hcf, hy2, hP9, hq9⟩
    have hall : ∀ p ∈ ρ ++ own, p.1 ≠ src := fun p hp => (List.mem_append.mp hp).elim (fun h => (hρ p h).1) (hne p)
    have e : (fun z => if z = Str.ofString "box" then some (Value.ref DB) else if z = Str.ofString "parts" then some (Value.ref pl) else if z = Str.ofString "contours" then some (Value.ref DC) else if z = Str.ofString "points" then some (Value.ref Dp) else m z) = m := funext fun z => by
      by_cases h1 : z = Str.ofString "box"
      · simp [h1, eb]
      · by_cases h2 : z = Str.ofString "parts"
        · rw [h2] at h1 ⊢; simp [h1, ep]
        · by_cases h3 : z = Str.ofString "contours"
          · rw [h3] at h1 h2 ⊢; simp [h1, h2, ec]
          · by_cases h4 : z = Str.ofString "points"
            · rw [h4] at h1 h2 h3 ⊢; simp [h1, h2, h3, eq]
            · simp [h1, h2, h3, h4]
    have hlf : css.flatten.length ≤ 300 := by rw [← hpρ.length]; exact hy2
    rw [← e] at F9
    clear e eb ep ec eq
    rename_i Fa _ _ _ _ _ Na
    (try clear Na)
    k_steps
    rotate_left 1
    · rename (@LT.lt Int _ _ _) => hr1
      obtain ⟨r9, e9⟩ := nameI hr1
      subst e9
      have hr0 : 0 ≤ r9 := by assumption
      have hr2 : r9 < 3 := hr1
      obtain rfl | rfl | rfl : r9 = 0 ∨ r9 = 1 ∨ r9 = 2 := by omega
      · k_steps
        (
      rename News h₀ L _ _ => kN
      have kC := News.cut (c := (LL + 1, oc)) (ρ := ρ) (own := own) kN (.cons (.cons (.cons (.cons (.cons (.cons (.cons (.cons (.cons (.cons (.cons (.cons (.cons (.cons (.base)))))))))))))))
      refine' ret _ ([]) ([]) _ _ _ _ _ _ _ ?zzf1 kC ?zzc21 ?zzp1 ?zzq1 ?zzc31
      (case zzf1 => k_asm)
      (case zzp1 => assumption)
      (case zzq1 => assumption)
      (case zzc21 => ((try (rename AllLt _ _ => lz; simp only [AllLt] at lz)); (try (rename AllLt _ _ => ly; simp only [AllLt] at ly)); (repeat (refine Fresh.cons lc (by dsimp only; omega) ?_)); exact hρ))
      (case zzc31 =>
        exact ⟨_, _, _, _, _, _, _, _, _, rfl, by (repeat (first | exact List.Mem.head _ | exact hDp | exact hDB | exact hDC | refine List.Mem.tail _ ?_)), by (repeat (first | exact List.Mem.head _ | exact hDp | exact hDB | exact hDC | refine List.Mem.tail _ ?_)), by (repeat (first | exact List.Mem.head _ | exact hDp | exact hDB | exact hDC | refine List.Mem.tail _ ?_)), (by exact .nil), (by exact .nil), (by decide), (by decide), (by exact Iff.rfl),
          ⟨_, _, _, _, _, _, _, _, _, _, _, _, _, _, _, _, _, _, _, _, _, _, _, _, _, _, rfl, by (repeat (first | exact List.Mem.head _ | exact hDp | exact hDB | exact hDC | refine List.Mem.tail _ ?_)), by (repeat (first | exact List.Mem.head _ | exact hDp | exact hDB | exact hDC | refine List.Mem.tail _ ?_)), by (repeat (first | exact List.Mem.head _ | exact hDp | exact hDB | exact hDC | refine List.Mem.tail _ ?_)), .empty (css := []) ⟨_, _, _, _, _, _, _, _, [], by (repeat (first | exact List.Mem.head _ | exact hDp | exact hDB | exact hDC | refine List.Mem.tail _ ?_)), by (repeat (first | exact List.Mem.head _ | exact hDp | exact hDB | exact hDC | refine List.Mem.tail _ ?_)), by (repeat (first | exact List.Mem.head _ | exact hDp | exact hDB | exact hDC | refine List.Mem.tail _ ?_)), .nil, by decide⟩ rfl⟩⟩))
      · k_steps
        (
      rename News h₀ L _ _ => kN
      have kC := News.cut (c := (LL + 1, oc)) (ρ := ρ) (own := own) kN (.cons (.cons (.cons (.cons (.cons (.cons (.cons (.cons (.cons (.cons (.cons (.cons (.cons (.cons (.base)))))))))))))))
      refine' ret _ ([]) ([]) _ _ _ _ _ _ _ ?zzf2 kC ?zzc22 ?zzp2 ?zzq2 ?zzc32
      (case zzf2 => k_asm)
      (case zzp2 => assumption)
      (case zzq2 => assumption)
      (case zzc22 => ((try (rename AllLt _ _ => lz; simp only [AllLt] at lz)); (try (rename AllLt _ _ => ly; simp only [AllLt] at ly)); (repeat (refine Fresh.cons lc (by dsimp only; omega) ?_)); exact hρ))
      (case zzc32 =>
        exact ⟨_, _, _, _, _, _, _, _, _, rfl, by (repeat (first | exact List.Mem.head _ | exact hDp | exact hDB | exact hDC | refine List.Mem.tail _ ?_)), by (repeat (first | exact List.Mem.head _ | exact hDp | exact hDB | exact hDC | refine List.Mem.tail _ ?_)), by (repeat (first | exact List.Mem.head _ | exact hDp | exact hDB | exact hDC | refine List.Mem.tail _ ?_)), (by exact .nil), (by exact .nil), (by decide), (by decide), (by exact Iff.rfl),
          ⟨_, _, _, _, _, _, _, _, _, _, _, _, _, _, _, _, _, _, _, _, _, _, _, _, _, _, rfl, by (repeat (first | exact List.Mem.head _ | exact hDp | exact hDB | exact hDC | refine List.Mem.tail _ ?_)), by (repeat (first | exact List.Mem.head _ | exact hDp | exact hDB | exact hDC | refine List.Mem.tail _ ?_)), by (repeat (first | exact List.Mem.head _ | exact hDp | exact hDB | exact hDC | refine List.Mem.tail _ ?_)), .empty (css := [[]]) ⟨_, _, _, _, _, _, _, _, [_], by (repeat (first | exact List.Mem.head _ | exact hDp | exact hDB | exact hDC | refine List.Mem.tail _ ?_)), by (repeat (first | exact List.Mem.head _ | exact hDp | exact hDB | exact hDC | refine List.Mem.tail _ ?_)), by (repeat (first | exact List.Mem.head _ | exact hDp | exact hDB | exact hDC | refine List.Mem.tail _ ?_)), .cons (ws := []) (by (repeat (first | exact List.Mem.head _ | exact hDp | exact hDB | exact hDC | refine List.Mem.tail _ ?_))) .nil (by decide) .nil, by decide⟩ rfl⟩⟩))
      · k_steps
        (
      rename News h₀ L _ _ => kN
      have kC := News.cut (c := (LL + 1, oc)) (ρ := ρ) (own := own) kN (.cons (.cons (.cons (.cons (.cons (.cons (.cons (.cons (.cons (.cons (.cons (.cons (.cons (.cons (.base)))))))))))))))
      refine' ret _ ([]) ([]) _ _ _ _ _ _ _ ?zzf3 kC ?zzc23 ?zzp3 ?zzq3 ?zzc33
      (case zzf3 => k_asm)
      (case zzp3 => assumption)
      (case zzq3 => assumption)
      (case zzc23 => ((try (rename AllLt _ _ => lz; simp only [AllLt] at lz)); (try (rename AllLt _ _ => ly; simp only [AllLt] at ly)); (repeat (refine Fresh.cons lc (by dsimp only; omega) ?_)); exact hρ))
      (case zzc33 =>
        exact ⟨_, _, _, _, _, _, _, _, _, rfl, by (repeat (first | exact List.Mem.head _ | exact hDp | exact hDB | exact hDC | refine List.Mem.tail _ ?_)), by (repeat (first | exact List.Mem.head _ | exact hDp | exact hDB | exact hDC | refine List.Mem.tail _ ?_)), by (repeat (first | exact List.Mem.head _ | exact hDp | exact hDB | exact hDC | refine List.Mem.tail _ ?_)), (by exact .nil), (by exact .nil), (by decide), (by decide), (by exact Iff.rfl),
          ⟨_, _, _, _, _, _, _, _, _, _, _, _, _, _, _, _, _, _, _, _, _, _, _, _, _, _, rfl, by (repeat (first | exact List.Mem.head _ | exact hDp | exact hDB | exact hDC | refine List.Mem.tail _ ?_)), by (repeat (first | exact List.Mem.head _ | exact hDp | exact hDB | exact hDC | refine List.Mem.tail _ ?_)), by (repeat (first | exact List.Mem.head _ | exact hDp | exact hDB | exact hDC | refine List.Mem.tail _ ?_)), .empty (css := [[], []]) ⟨_, _, _, _, _, _, _, _, [_, _], by (repeat (first | exact List.Mem.head _ | exact hDp | exact hDB | exact hDC | refine List.Mem.tail _ ?_)), by (repeat (first | exact List.Mem.head _ | exact hDp | exact hDB | exact hDC | refine List.Mem.tail _ ?_)), by (repeat (first | exact List.Mem.head _ | exact hDp | exact hDB | exact hDC | refine List.Mem.tail _ ?_)), .cons (ws := []) (by (repeat (first | exact List.Mem.head _ | exact hDp | exact hDB | exact hDC | refine List.Mem.tail _ ?_))) .nil (by decide) (.cons (ws := []) (by (repeat (first | exact List.Mem.head _ | exact hDp | exact hDB | exact hDC | refine List.Mem.tail _ ?_))) .nil (by decide) .nil), by decide⟩ rfl⟩⟩))
    · (
      rename News h₀ L _ _ => kN
      have kC := News.cut (c := (LL + 1, oc)) (ρ := ρ) (own := own) kN (.cons (.cons (.cons (.cons (.cons (.base))))))
      refine' ret _ (css.flatten) (css.flatten) _ _ _ _ _ _ _ ?zzf4 kC ?zzc24 ?zzp4 ?zzq4 ?zzc34
      (case zzf4 => k_asm)
      (case zzp4 => assumption)
      (case zzq4 => assumption)
      (case zzc24 => ((try (rename AllLt _ _ => lz; simp only [AllLt] at lz)); (try (rename AllLt _ _ => ly; simp only [AllLt] at ly)); (repeat (refine Fresh.cons lc (by dsimp only; omega) ?_)); exact hρ))
      (case zzc34 =>
        exact ⟨_, _, _, _, _, _, _, _, _, rfl, by (repeat (first | exact List.Mem.head _ | exact hDp | exact hDB | exact hDC | refine List.Mem.tail _ ?_)), by (repeat (first | exact List.Mem.head _ | exact hDp | exact hDB | exact hDC | refine List.Mem.tail _ ?_)), by (repeat (first | exact List.Mem.head _ | exact hDp | exact hDB | exact hDC | refine List.Mem.tail _ ?_)), (by exact hpρ.mono (fun p hp => by (repeat (first | exact hp | refine List.Mem.tail _ ?_)))), (by exact hpρ.mono (fun p hp => by (repeat (first | exact hp | refine List.Mem.tail _ ?_)))), (by exact hlf), (by exact hlf), (by exact Iff.rfl),
          ⟨_, _, _, _, _, _, _, _, _, _, _, _, _, _, _, _, _, _, _, _, _, _, _, _, _, _, rfl, by (repeat (first | exact List.Mem.head _ | exact hDp | exact hDB | exact hDC | refine List.Mem.tail _ ?_)), by (repeat (first | exact List.Mem.head _ | exact hDp | exact hDB | exact hDC | refine List.Mem.tail _ ?_)), by (repeat (first | exact List.Mem.head _ | exact hDp | exact hDB | exact hDC | refine List.Mem.tail _ ?_)), .full ⟨_, _, _, _, _, _, _, _, _, by (repeat (first | exact List.Mem.head _ | exact hDp | exact hDB | exact hDC | refine List.Mem.tail _ ?_)), by (repeat (first | exact List.Mem.head _ | exact hDp | exact hDB | exact hDC | refine List.Mem.tail _ ?_)), by (repeat (first | exact List.Mem.head _ | exact hDp | exact hDB | exact hDC | refine List.Mem.tail _ ?_)), hcρ.mono (fun p hp => by (repeat (first | exact hp | refine List.Mem.tail _ ?_))), by omega⟩ hcf⟩⟩))
    · (
      rename News h₀ L _ _ => kN
      have kC := News.cut (c := (LL + 1, oc)) (ρ := ρ) (own := own) kN (.cons (.cons (.cons (.cons (.cons (.cons (.cons (.base))))))))
      refine' ret _ ([(a0, a1)]) ([(a2, a3)]) _ _ _ _ _ _ _ ?zzf5 kC ?zzc25 ?zzp5 ?zzq5 ?zzc35
      (case zzf5 => k_asm)
      (case zzp5 => assumption)
      (case zzq5 => assumption)
      (case zzc25 => ((try (rename AllLt _ _ => lz; simp only [AllLt] at lz)); (try (rename AllLt _ _ => ly; simp only [AllLt] at ly)); (repeat (refine Fresh.cons lc (by dsimp only; omega) ?_)); exact hρ))
      (case zzc35 =>
        exact ⟨_, _, _, _, _, _, _, _, _, rfl, by (repeat (first | exact List.Mem.head _ | exact hDp | exact hDB | exact hDC | refine List.Mem.tail _ ?_)), by (repeat (first | exact List.Mem.head _ | exact hDp | exact hDB | exact hDC | refine List.Mem.tail _ ?_)), by (repeat (first | exact List.Mem.head _ | exact hDp | exact hDB | exact hDC | refine List.Mem.tail _ ?_)), (by exact .cons (by (repeat (first | exact List.Mem.head _ | exact hDp | exact hDB | exact hDC | refine List.Mem.tail _ ?_))) .nil), (by exact .cons (by (repeat (first | exact List.Mem.head _ | exact hDp | exact hDB | exact hDC | refine List.Mem.tail _ ?_))) .nil), (by simp), (by simp), (by simp),
          ⟨_, _, _, _, _, _, _, _, _, _, _, _, _, _, _, _, _, _, _, _, _, _, _, _, _, _, rfl, by (repeat (first | exact List.Mem.head _ | exact hDp | exact hDB | exact hDC | refine List.Mem.tail _ ?_)), by (repeat (first | exact List.Mem.head _ | exact hDp | exact hDB | exact hDC | refine List.Mem.tail _ ?_)), by (repeat (first | exact List.Mem.head _ | exact hDp | exact hDB | exact hDC | refine List.Mem.tail _ ?_)), .parts⟩⟩))
    · (
      rename News h₀ L _ _ => kN
      have kC := News.cut (c := (LL + 1, oc)) (ρ := ρ) (own := own) kN (.cons (.cons (.cons (.cons (.cons (.base))))))
      refine' ret _ (css.flatten) (css.flatten) _ _ _ _ _ _ _ ?zzf6 kC ?zzc26 ?zzp6 ?zzq6 ?zzc36
      (case zzf6 => k_asm)
      (case zzp6 => assumption)
      (case zzq6 => assumption)
      (case zzc26 => ((try (rename AllLt _ _ => lz; simp only [AllLt] at lz)); (try (rename AllLt _ _ => ly; simp only [AllLt] at ly)); (repeat (refine Fresh.cons lc (by dsimp only; omega) ?_)); exact hρ))
      (case zzc36 =>
        exact ⟨_, _, _, _, _, _, _, _, _, rfl, by (repeat (first | exact List.Mem.head _ | exact hDp | exact hDB | exact hDC | refine List.Mem.tail _ ?_)), by (repeat (first | exact List.Mem.head _ | exact hDp | exact hDB | exact hDC | refine List.Mem.tail _ ?_)), by (repeat (first | exact List.Mem.head _ | exact hDp | exact hDB | exact hDC | refine List.Mem.tail _ ?_)), (by exact hpρ.mono (fun p hp => by (repeat (first | exact hp | refine List.Mem.tail _ ?_)))), (by exact hpρ.mono (fun p hp => by (repeat (first | exact hp | refine List.Mem.tail _ ?_)))), (by exact hlf), (by exact hlf), (by exact Iff.rfl),
          ⟨_, _, _, _, _, _, _, _, _, _, _, _, _, _, _, _, _, _, _, _, _, _, _, _, _, _, rfl, by (repeat (first | exact List.Mem.head _ | exact hDp | exact hDB | exact hDC | refine List.Mem.tail _ ?_)), by (repeat (first | exact List.Mem.head _ | exact hDp | exact hDB | exact hDC | refine List.Mem.tail _ ?_)), by (repeat (first | exact List.Mem.head _ | exact hDp | exact hDB | exact hDC | refine List.Mem.tail _ ?_)), .both ⟨_, _, _, _, _, _, _, _, _, by (repeat (first | exact List.Mem.head _ | exact hDp | exact hDB | exact hDC | refine List.Mem.tail _ ?_)), by (repeat (first | exact List.Mem.head _ | exact hDp | exact hDB | exact hDC | refine List.Mem.tail _ ?_)), by (repeat (first | exact List.Mem.head _ | exact hDp | exact hDB | exact hDC | refine List.Mem.tail _ ?_)), hcρ.mono (fun p hp => by (repeat (first | exact hp | refine List.Mem.tail _ ?_))), by omega⟩ hcf⟩⟩))
    · (
      rename News h₀ L _ _ => kN
      have kC := News.cut (c := (LL + 1, oc)) (ρ := ρ) (own := own) kN (.cons (.cons (.cons (.cons (.cons (.cons (.cons (.cons (.cons (.cons (.base)))))))))))
      refine' ret _ ([(0, 0)]) ([(0, 0)]) _ _ _ _ _ _ _ ?zzf7 kC ?zzc27 ?zzp7 ?zzq7 ?zzc37
      (case zzf7 => k_asm)
      (case zzp7 => assumption)
      (case zzq7 => assumption)
      (case zzc27 => ((try (rename AllLt _ _ => lz; simp only [AllLt] at lz)); (try (rename AllLt _ _ => ly; simp only [AllLt] at ly)); (repeat (refine Fresh.cons lc (by dsimp only; omega) ?_)); exact hρ))
      (case zzc37 =>
        exact ⟨_, _, _, _, _, _, _, _, _, rfl, by (repeat (first | exact List.Mem.head _ | exact hDp | exact hDB | exact hDC | refine List.Mem.tail _ ?_)), by (repeat (first | exact List.Mem.head _ | exact hDp | exact hDB | exact hDC | refine List.Mem.tail _ ?_)), by (repeat (first | exact List.Mem.head _ | exact hDp | exact hDB | exact hDC | refine List.Mem.tail _ ?_)), (by exact .cons (by (repeat (first | exact List.Mem.head _ | exact hDp | exact hDB | exact hDC | refine List.Mem.tail _ ?_))) .nil), (by exact .cons (by (repeat (first | exact List.Mem.head _ | exact hDp | exact hDB | exact hDC | refine List.Mem.tail _ ?_))) .nil), (by simp), (by simp), (by simp),
          ⟨_, _, _, _, _, _, _, _, _, _, _, _, _, _, _, _, _, _, _, _, _, _, _, _, _, _, rfl, by (repeat (first | exact List.Mem.head _ | exact hDp | exact hDB | exact hDC | refine List.Mem.tail _ ?_)), by (repeat (first | exact List.Mem.head _ | exact hDp | exact hDB | exact hDC | refine List.Mem.tail _ ?_)), by (repeat (first | exact List.Mem.head _ | exact hDp | exact hDB | exact hDC | refine List.Mem.tail _ ?_)), .hollow (css := []) ⟨_, _, _, _, _, _, _, _, [], by (repeat (first | exact List.Mem.head _ | exact hDp | exact hDB | exact hDC | refine List.Mem.tail _ ?_)), by (repeat (first | exact List.Mem.head _ | exact hDp | exact hDB | exact hDC | refine List.Mem.tail _ ?_)), by (repeat (first | exact List.Mem.head _ | exact hDp | exact hDB | exact hDC | refine List.Mem.tail _ ?_)), .nil, by decide⟩ rfl⟩⟩))
    · (
      rename News h₀ L _ _ => kN
      have kC := News.cut (c := (LL + 1, oc)) (ρ := ρ) (own := own) kN (.cons (.cons (.cons (.cons (.cons (.base))))))
      refine' ret _ ([]) ([]) _ _ _ _ _ _ _ ?zzf8 kC ?zzc28 ?zzp8 ?zzq8 ?zzc38
      (case zzf8 => k_asm)
      (case zzp8 => assumption)
      (case zzq8 => assumption)
      (case zzc28 => ((try (rename AllLt _ _ => lz; simp only [AllLt] at lz)); (try (rename AllLt _ _ => ly; simp only [AllLt] at ly)); (repeat (refine Fresh.cons lc (by dsimp only; omega) ?_)); exact hρ))
      (case zzc38 =>
        exact ⟨_, _, _, _, _, _, _, _, _, rfl, by (repeat (first | exact List.Mem.head _ | exact hDp | exact hDB | exact hDC | refine List.Mem.tail _ ?_)), by (repeat (first | exact List.Mem.head _ | exact hDp | exact hDB | exact hDC | refine List.Mem.tail _ ?_)), by (repeat (first | exact List.Mem.head _ | exact hDp | exact hDB | exact hDC | refine List.Mem.tail _ ?_)), (by exact .nil), (by exact .nil), (by decide), (by decide), (by exact Iff.rfl),
          ⟨_, _, _, _, _, _, _, _, _, _, _, _, _, _, _, _, _, _, _, _, _, _, _, _, _, _, rfl, by (repeat (first | exact List.Mem.head _ | exact hDp | exact hDB | exact hDC | refine List.Mem.tail _ ?_)), by (repeat (first | exact List.Mem.head _ | exact hDp | exact hDB | exact hDC | refine List.Mem.tail _ ?_)), by (repeat (first | exact List.Mem.head _ | exact hDp | exact hDB | exact hDC | refine List.Mem.tail _ ?_)), .bare⟩⟩))
  k_steps
  refine Held.go ?_
  refine LCg.CompSrc.range (by rfl) (by k_asm) (by k_asm) (by assumption) (small_one (by omega) (by omega) (by omega) (by omega)) (rangeSize_nat _ _) (by rw [sizeLine_eq]; omega) ?_
  intro g9
  refine rest_src (fun i ys tl => tl = [] ∧ ∃ ns, IntsAre ys ns) ⟨rfl, [], .nil⟩ ?_ hne (by assumption) (by assumption) (fun _ => trivial) ?_ ?_
  · exact fun e => absurd e (Nat.ne_of_gt (by omega))
  · rintro i ys tl I oI C oC D m₂ h tk E' P'' q'' t1'' t2'' hi hl ⟨rfl, ns, hns⟩ hC F9 N9 offc offs offt ne hall hP9 hq9
    dsimp only at offc
    k_fold
    k_steps
    exact SrcEnd.intro [] (by k_asm) (by with_reducible assumption) (fun _ h => h) (fun _ h => nomatch h) (by with_reducible assumption) (by with_reducible assumption) ⟨rfl, _, ints_snoc hns⟩
  · rintro ys tl P'' q'' t1'' t2'' hl ⟨rfl, ns, hns⟩ hs hP9 hq9
    obtain ⟨a0, b0, a1, b1, a2, b2, a3, b3, rfl⟩ : ∃ a0 b0 a1 b1 a2 b2 a3 b3, ys = [.int a0 b0, .int a1 b1, .int a2 b2, .int a3 b3] := by
      have hl4 : ys.length = 4 := by rw [hl]; rfl
      clear hl
      rcases hns with _ | ⟨n0, u0, hns⟩ <;> simp at hl4
      rcases hns with _ | ⟨n1, u1, hns⟩ <;> simp at hl4
      rcases hns with _ | ⟨n2, u2, hns⟩ <;> simp at hl4
      rcases hns with _ | ⟨n3, u3, hns⟩ <;> simp at hl4
      rcases hns with _ | ⟨n4, u4, hns⟩ <;> simp at hl4
      exact ⟨_, _, _, _, _, _, _, _, rfl⟩
    k_steps
    rename (@LT.lt Nat _ _ _) ∧ (@LT.lt Nat _ _ _) ∧ (@LT.lt Nat _ _ _) ∧ AllLt _ _ => lDB
    rename_i r0 _ P0 q0 u1 u2 _ _ _ _ hr0 hr1 hP0 hq0 _ _ _ _ _ hrg F10 N10 _
    obtain ⟨DB, eDB⟩ := nameR lDB.1
    subst eDB
    obtain ⟨N11, lD1, lD2⟩ : News gg LL _ ((LL + 1, oc) :: (src, SrcO P0 q0 u1 u2 n) :: ((DB, tupO #[.int a0 b0, .int a1 b1, .int a2 b2, .int a3 b3] 0) :: own)) ∧ AllLt DB own ∧ @LT.lt Nat _ src DB :=
      ⟨fun p hp => N10 p (by
        simp only [List.mem_cons] at hp ⊢
        rcases hp with h|h|h|h
        · simp only [h, true_or, or_true]
        · simp only [h, true_or, or_true]
        · first | (left; exact h) | (right; left; exact h) | (right; right; left; exact h) | (right; right; right; left; exact h)
        · simp only [h, true_or, or_true]), lDB.2.2.2, lDB.2.2.1⟩
    have hne2 : ∀ p ∈ (DB, tupO #[.int a0 b0, .int a1 b1, .int a2 b2, .int a3 b3] 0) :: own, p.1 ≠ src := fun p hp => by
      rcases List.mem_cons.mp hp with rfl | hp
      · exact Nat.ne_of_gt lD2
      · exact hne p hp
    refine Held.go ?_
    refine LCg.CompSrc.range (by rfl) F10 N11 hrg (small_one (by omega) (by omega) (by omega) (by omega)) (rangeSize_nat _ _) (by rw [sizeLine_eq]; omega) ?_
    clear N10 lDB
    intro g8
    refine rest_src (fun i ys tl => (∀ p ∈ tl, ∀ q ∈ (DB, tupO #[.int a0 b0, .int a1 b1, .int a2 b2, .int a3 b3] 0) :: own, p.1 ≠ q.1) ∧ ∃ css, ConsAt tl ys css ∧ (∀ c ∈ css, c ≠ [] ∧ List.length c ≤ 3)) ⟨(fun _ h => nomatch h), [], .nil, (fun _ h => nomatch h)⟩ ?_ hne2 (by assumption) (by assumption) (fun _ => trivial) ?_ ?_
    · exact fun e => absurd e (Nat.ne_of_gt (by omega))
    · rintro i ys tl I oI C oC D m₂ h tk E' P3 q3 t13 t23 hi hl ⟨hoo, css, hcs, hcn⟩ hC F9 N9 offc offs offt ne hall hP9 hq9
      dsimp only at offc
      k_fold
      k_steps
      rename_i c7 vs7 ps7 tl7 _ _ _ _ _ _ _ N7 hfr7 _ _ hps7 hne7 hl7
      refine SrcEnd.many (new := (c7, LCg.lst vs7) :: tl7) (by k_asm) N7 hfr7 offt (by assumption) (by assumption) ⟨?_, css ++ [ps7], ?_, ?_⟩
      · intro p hp r hr
        rcases List.mem_append.mp hp with hp | hp
        · exact hfr7 p hp r (by simp only [List.mem_cons, List.mem_append] at hr ⊢; rcases hr with h|h <;> simp only [h, true_or, or_true])
        · exact hoo p hp r hr
      · refine (hcs.mono fun p hp => List.mem_append.mpr (.inr hp)).append (.cons (List.mem_append.mpr (.inl (.head _))) (hps7.mono fun p hp => List.mem_append.mpr (.inl (.tail _ hp))) (by rw [hps7.length]; exact hl7) .nil)
      · intro c hc
        rcases List.mem_append.mp hc with hc | hc
        · exact hcn c hc
        · rw [List.mem_singleton.mp hc]; exact ⟨hne7, hl7⟩
    · rintro ys tl P3 q3 t13 t23 hl ⟨hoo, css, hcs, hcn⟩ hs hP9 hq9
      have hcl := hcs.length
      k_steps
      rename_i DC _ _ F7 N7 o7
      have N0 : News gg LL _ ((DC, LCg.lst ys) :: (LL + 1, oc) :: (src, SrcO P3 q3 t13 t23 n) :: (tl ++ ((DB, tupO #[.int a0 b0, .int a1 b1, .int a2 b2, .int a3 b3] 0) :: own))) := N7
      clear N7
      refine Held.go ?_
      have hc2 : css.length ≤ 2 ∧ 1 ≤ css.length := by omega
      refine ⟨DC, ys, ys.length, _, fun i j ys2 nw => ∃ tl2, nw = tl2 ++ ((DC, LCg.lst ys) :: (LL + 1, oc) :: (src, SrcO P3 q3 t13 t23 n) :: (tl ++ ((DB, tupO #[.int a0 b0, .int a1 b1, .int a2 b2, .int a3 b3] 0) :: own))) ∧ (∀ p ∈ tl2, ∀ r ∈ (src, SrcO P3 q3 t13 t23 n) :: own, p.1 ≠ r.1) ∧ PairsAt tl2 ys2 ((css.take i).flatten ++ (css.getD i []).take j) ∧ ys2.length ≤ 3 * i + j ∧ i ≤ 2 ∧ j ≤ 3, rfl, rfl, F7, N0, .head _, ⟨[], rfl, (fun _ h => nomatch h), .nil, by decide⟩, ?_, ?_, ?_⟩
      · rintro i j ys2 nw ⟨tl2, _, _, _, h⟩; omega
      · rintro i ys2 nw v hv ⟨tl2, rfl, h2, h3, h4, h5, h6⟩
        obtain ⟨c', ws', k', ps', rfl, hcs', hc', hps', hl'⟩ := hcs.get hv
        have hi : i < css.length := (List.getElem?_eq_some_iff.mp hcs').1
        have hgd : css.getD i [] = ps' := by rw [List.getD_eq_getElem?_getD, hcs']; rfl
        have e9 := hps'.length
        refine ⟨c', ws', k', rfl, List.mem_append.mpr (.inr (.tail _ (.tail _ (.tail _ (List.mem_append.mpr (.inl hc')))))), ?_, ?_⟩
        · rintro ys3 nw3 ⟨tl3, rfl, g2, g3, g4, g5, g6⟩
          refine ⟨tl3, rfl, g2, ?_, by omega, by omega, by omega⟩
          have e : (css.take (i + 1)).flatten = (css.take i).flatten ++ ps' := by rw [List.take_add_one, hcs']; simp
          rw [hgd, e9, List.take_length] at g3
          rw [e, List.take_zero, List.append_nil]
          exact g3
        · rintro j ys3 nw3 v' I oI C oC D I2 oI2 m₂ s₂ E' hv' ⟨tl3, rfl, g2, g3, g4, g5, g6⟩ hax hcx hC F10 N10 off9 nd9
          obtain ⟨a9, x9, y9, v1, v2, b9, k9, rfl, hpt, ha9⟩ := hps'.get hv'
          have hj : j < ws'.length := (List.getElem?_eq_some_iff.mp hv').1
          refine assign3_led rfl rfl (by rfl) (by rfl) (by rfl) (by decide) (by decide) (by decide) F10 N10 hC (fun p hp => ?_) (.tail _ (.tail _ (.tail _ (List.mem_append.mpr (.inr (.tail _ (.tail _ (.tail _ (List.mem_append.mpr (.inl ha9)))))))))) fun h' tk oC' m₃ hC' e1 e2 e3 F11 N11 => ?_
          · simp only [List.mem_cons] at hp
            rcases hp with rfl | rfl | rfl | hp
            · exact nd9.2.2.2.1
            · exact nd9.2.2.1
            · exact nd9.1
            · exact (off9 p hp).1.2.1
          (try dsimp only)
          (try k_fold)
          k_steps
          rename_i l20
          refine NEnd.one hC' (by k_asm) (by assumption) l20 off9 hax hcx ⟨_ :: tl3, rfl, ?_, ?_, ?_, by omega, by omega⟩
          · intro p hp r hr
            rcases List.mem_cons.mp hp with rfl | hp
            · have l21 := l20
              exact Nat.ne_of_gt (tb_ltOf l21.2.2.2.2 r (by
                simp only [List.mem_cons, List.mem_append] at hr ⊢
                rcases hr with h|h <;> simp only [h, true_or, or_true]))
            · exact g2 p hp r hr
          · rw [hgd] at g3 ⊢
            rw [List.take_add_one, hpt, Option.toList_some, ← List.append_assoc]
            exact (g3.mono fun p hp => .tail _ hp).append (.cons (.head _) .nil)
          · rw [List.length_append]; simp; omega
      · rintro ys2 nw Dp h tk ⟨tl2, rfl, h2, h3, h4, h5, h6⟩ F8 N8 o8
        rw [hcl, List.take_length, List.take_zero, List.append_nil] at h3
        obtain ⟨ρ, N9, hρ, hDp, hDC, hDB, hcρ, hpρ⟩ : ∃ ρ, News gg LL h ((LL + 1, oc) :: (src, SrcO P3 q3 t13 t23 n) :: (ρ ++ own)) ∧ Fresh src own ρ ∧ (Dp, LCg.lst ys2) ∈ ρ ∧ (DC, LCg.lst ys) ∈ ρ ∧ (DB, tupO #[.int a0 b0, .int a1 b1, .int a2 b2, .int a3 b3] 0) ∈ ρ ∧ ConsAt ρ ys css ∧ PairsAt ρ ys2 css.flatten := by
          refine ⟨(Dp, LCg.lst ys2) :: (DC, LCg.lst ys) :: (DB, tupO #[.int a0 b0, .int a1 b1, .int a2 b2, .int a3 b3] 0) :: (tl2 ++ tl), fun p hp => N8 p ?_, ?_, .head _, .tail _ (.head _), .tail _ (.tail _ (.head _)), hcs.mono fun p hp => .tail _ (.tail _ (.tail _ (List.mem_append.mpr (.inr hp)))), h3.mono fun p hp => .tail _ (.tail _ (.tail _ (List.mem_append.mpr (.inl hp))))⟩
          · simp only [List.mem_cons, List.mem_append] at hp ⊢
            rcases hp with h|h|(h|h|h|h|h)|h <;> simp only [h, true_or, or_true]
          · intro p hp
            simp only [List.mem_cons, List.mem_append] at hp
            have m1 : ∀ r ∈ (src, SrcO P3 q3 t13 t23 n) :: own, r ∈ tl2 ++ ((DC, LCg.lst ys) :: (LL + 1, oc) :: (src, SrcO P3 q3 t13 t23 n) :: (tl ++ ((DB, tupO #[.int a0 b0, .int a1 b1, .int a2 b2, .int a3 b3] 0) :: own))) := fun r hr => by
              simp only [List.mem_cons, List.mem_append] at hr ⊢
              rcases hr with h|h <;> simp only [h, true_or, or_true]
            rcases hp with rfl | rfl | rfl | hp | hp
            · exact ⟨fun e => o8 _ (m1 _ (.head _)) e.symm, fun r hr e => o8 r (m1 r (.tail _ hr)) e.symm⟩
            · exact ⟨fun e => o7.2.1 e.symm, fun r hr => off_list o7.2.2 (tl := []) (own := tl ++ ((DB, tupO #[.int a0 b0, .int a1 b1, .int a2 b2, .int a3 b3] 0) :: own)) (o := oc) (fun _ h => nomatch h) _ (.head _) r (List.mem_append.mpr (.inr (.tail _ hr)))⟩
            · exact ⟨Nat.ne_of_gt lD2, fun r hr => Nat.ne_of_gt (tb_ltOf lD1 r hr)⟩
            · exact ⟨h2 p hp _ (.head _), fun r hr => h2 p hp r (.tail _ hr)⟩
            · exact ⟨hs p hp, fun r hr => hoo p hp r (.tail _ hr)⟩
        have hcf : css.flatten ≠ [] := by
          intro e
          obtain ⟨c0, r0', rfl⟩ : ∃ c0 r0, css = c0 :: r0 := by
            cases css with
            | nil => simp at hc2
            | cons a b => exact ⟨a, b, rfl⟩
          rw [List.flatten_cons, List.append_eq_nil_iff] at e
          exact (hcn c0 (.head _)).1 e.1
        clear N8 o8 h2 hoo o7 N0 hs hne2 N11 lD1 lD2
        k_steps
        exact ⟨rfl, _, _, _, _, _, _, DB, a0, a1, a2, a3, b0, b1, b2, b3, ρ, ys, ys2, css, P3, q3, t13, t23, rfl, rfl, rfl, rfl, rfl, F8, N9, hρ, hDp, hDC, hDB, hcρ, hpρ, hc2.1, hcf, by omega, hP9, hq9⟩
end

theorem let_u {prog : Program} {w : World} {p : Program} {loose : List Str} {mean : ExcName → Option Value} {mg mb : Str → Option Value}
    {dp un : Nat} {gd : Option (List Code)} {cn : Str} {cs : Scope} {a : Addr} {ccd : Value} {cl : List (Str × Addr)} {outer : List Env} {A₀ : Around} {base h₀ : Heap} {L : Addr} {m : Str → Option Value} {s : Shared} {Q E : Value → Shared → Prop}
    {src : Addr} {P q : Int} {t1 t2 : Tok} {n : Nat} {news : List (Addr × Obj)} {upd : Obj → List (Addr × Obj)}
    (B : Below A₀ base outer h₀) (F : Fr h₀ L s.heap m) (X : (kdef.heap_1 w.params).In h₀) (N : News h₀ L s.heap (news)) (T : Top p loose mean mg mb h₀) (hk : cs.kind = .function) (hroom : dp + 9 < recursionLimit) (hu : un + 400 < cLine) (hU : ∀ o', Upd src (PySem.W.listOf #[.int P t1, .int q t2] n) o' news (upd o')) (hP : 0 ≤ P) (hq : 0 ≤ q ∧ q < 2147483647)
    (ret : ∀ (t : Addr) (low high : List (Int × Int)) (tl : List (Addr × Obj)) (P' q' : Int) (t1' t2' : Tok) (h' : Heap) (tk' : Nat), Fr h₀ L h' m → News h₀ L h' (tl ++ upd (PySem.W.listOf #[.int P' t1', .int q' t2'] n)) → (∀ p ∈ tl, ∀ r ∈ news, p.1 ≠ r.1) → 0 ≤ P' → (0 ≤ q' ∧ q' < 2147483647) → RowL tl (.ref t) (low, high) → Q (.ref t) { s with heap := h', toks := tk' }) :
    wpAny (model prog w) (ktrTop dp un gd cn cs L a ccd cl outer) (call (.ref 278) [.ref src]) Q E s := by
  obtain ⟨own, h1, h2, h3, h4⟩ := upd_norm hU
  refine let_c B F X (fun p hp => N p (h2 p hp)) T hk hroom hu h1 hP hq fun t low high tl P' q' t1' t2' h' tk' F' N' hf hP' hq' hr => ret t low high tl P' q' t1' t2' h' tk' F' (fun p hp => N' p ?_) (fun p hp r hr => ?_) hP' hq' hr
  · rcases List.mem_append.mp hp with hp | hp
    · exact .tail _ (List.mem_append.mpr (.inl hp))
    · rcases List.mem_cons.mp (h3 _ p hp) with rfl | hp
      · exact .head _
      · exact .tail _ (List.mem_append.mpr (.inr hp))
  · rcases h4 r hr with e | hr
    · rw [e]; exact (hf p hp).1
    · exact (hf p hp).2 r hr
end

section
theorem pool_P (x : Int) {c : Prop} [Decidable c] : 0 ≤ (if -1 - x > x then -1 - x else x) * (if c then 1 else 0) := by
  refine Int.mul_nonneg ?_ ?_
  · split <;> omega
  · split <;> omega
theorem pool_q (x : Int) : 0 ≤ Int.fmod x 2147483647 ∧ Int.fmod x 2147483647 < 2147483647 := ⟨Int.fmod_nonneg_of_pos _ (by decide), Int.fmod_lt_of_pos _ (by decide)⟩
section
set_option maxHeartbeats 1000000 in
theorem pool_c {prog : Program} {w : World} {p : Program} {loose : List Str} {mean : ExcName → Option Value} {mg mb : Str → Option Value}
    {dp un : Nat} {gd : Option (List Code)} {cn : Str} {cs : Scope} {a : Addr} {ccd : Value} {cl : List (Str × Addr)} {outer : List Env} {A₀ : Around} {base h₀ : Heap} {L : Addr} {m : Str → Option Value} {s : Shared} {Q E : Value → Shared → Prop}
    {l : Addr} {vs : List Value} {ns : List Int} {own : List (Addr × Obj)}
    (B : Below A₀ base outer h₀) (F : Fr h₀ L s.heap m) (X : (kdef.heap_1 w.params).In h₀) (N : News h₀ L s.heap (own)) (T : Top p loose mean mg mb h₀) (hk : cs.kind = .function) (hroom : dp + 5 < recursionLimit) (hu : un + 100 < cLine) (hl : h₀.IsList l vs.toArray) (hi : IntsAre vs ns) (hn : ns.length ≤ 63)
    (ret : ∀ (src : Addr) (P q : Int) (t1 t2 : Tok) (n : Nat) (h' : Heap) (tk' : Nat), Fr h₀ L h' m → News h₀ L h' ((src, PySem.W.listOf #[.int P t1, .int q t2] n) :: own) → (∀ p ∈ own, p.1 < src) → 0 ≤ P → (0 ≤ q ∧ q < 2147483647) → Q (.ref src) { s with heap := h', toks := tk' }) :
    wpAny (model prog w) (ktrTop dp un gd cn cs L a ccd cl outer) (call (.ref 247) [.ref l]) Q E s := by
  k_with_none
  k_with "ne" => (refine neN ?_; (try dsimp only); first | with_reducible assumption | with_reducible exact Ne.symm (by assumption) | with_reducible exact And.left (by assumption) | with_reducible exact Ne.symm (And.left (by assumption)) | with_reducible exact And.left (And.right (by assumption)) | with_reducible exact Ne.symm (And.left (And.right (by assumption))) | with_reducible exact And.right (by assumption) | with_reducible exact Ne.symm (And.right (by assumption)) | with_reducible exact And.left (And.right (And.right (by assumption))) | with_reducible exact Ne.symm (And.left (And.right (And.right (by assumption)))) | with_reducible exact And.right (And.right (by assumption)) | with_reducible exact Ne.symm (And.right (And.right (by assumption))) | with_reducible exact And.left (And.right (And.right (And.right (by assumption)))) | with_reducible exact Ne.symm (And.left (And.right (And.right (And.right (by assumption))))) | with_reducible exact And.right (And.right (And.right (by assumption))) | with_reducible exact Ne.symm (And.right (And.right (And.right (by assumption)))) | with_reducible exact Nat.ne_of_gt (And.left (by assumption)) | with_reducible exact Nat.ne_of_lt (And.left (by assumption)) | with_reducible exact Nat.ne_of_gt (And.left (And.right (by assumption))) | with_reducible exact Nat.ne_of_lt (And.left (And.right (by assumption))) | with_reducible exact Nat.ne_of_gt (And.left (And.right (And.right (by assumption)))) | with_reducible exact Nat.ne_of_lt (And.left (And.right (And.right (by assumption)))) | with_reducible exact Nat.ne_of_gt (And.left (And.right (And.right (And.right (by assumption))))) | with_reducible exact Nat.ne_of_lt (And.left (And.right (And.right (And.right (by assumption))))) | with_reducible exact Nat.ne_of_gt (And.left (And.right (And.right (And.right (And.right (by assumption)))))) | with_reducible exact Nat.ne_of_lt (And.left (And.right (And.right (And.right (And.right (by assumption)))))) | with_reducible exact Nat.ne_of_gt (And.left (And.right (And.right (And.right (And.right (And.right (by assumption))))))) | with_reducible exact Nat.ne_of_lt (And.left (And.right (And.right (And.right (And.right (And.right (by assumption))))))) | with_reducible exact Nat.ne_of_gt (And.left (And.right (And.right (And.right (And.right (And.right (And.right (by assumption)))))))) | with_reducible exact Nat.ne_of_lt (And.left (And.right (And.right (And.right (And.right (And.right (And.right (by assumption)))))))) | with_reducible exact Nat.ne_of_gt (And.left (And.right (And.right (And.right (And.right (And.right (And.right (And.right (by assumption))))))))) | with_reducible exact Nat.ne_of_lt (And.left (And.right (And.right (And.right (And.right (And.right (And.right (And.right (by assumption))))))))) | with_reducible exact Nat.ne_of_gt (And.left (And.right (And.right (And.right (And.right (And.right (And.right (And.right (And.right (by assumption)))))))))) | with_reducible exact Nat.ne_of_lt (And.left (And.right (And.right (And.right (And.right (And.right (And.right (And.right (And.right (by assumption)))))))))) | omega)
  refine wpAny_call ?_
  k_dflt cell_enter
  have hlg := Fr.lst (h₀ := h₀) (L := L) (by assumption) hl
  k_steps
  all_goals (rename News h₀ L _ _ => kN; exact ret _ _ _ _ _ _ _ _ (by k_asm) kN (by assumption) (pool_P _) (pool_q _))
end
end

section
theorem isMin_uniq {a b : Int} {A B : List Int} (e : ∀ x, x ∈ A ↔ x ∈ B) (h : IsMin a A) (k : IsMin b B) : a = b :=
  Int.le_antisymm (h.2 b ((e b).mpr k.1)) (k.2 a ((e a).mp h.1))
theorem isMax_uniq {a b : Int} {A B : List Int} (e : ∀ x, x ∈ A ↔ x ∈ B) (h : IsMax a A) (k : IsMax b B) : a = b :=
  Int.le_antisymm (k.2 a ((e a).mp h.1)) (h.2 b ((e b).mpr k.1))
theorem mem_map_iff {α β : Type} {f : α → β} {A B : List α} (e : ∀ x, x ∈ A ↔ x ∈ B) : ∀ y, y ∈ A.map f ↔ y ∈ B.map f := by
  intro y
  simp only [List.mem_map, e]
/-- the box is told by the members alone -/
theorem box_uniq {lo hi lo' hi' : List (Int × Int)} {a b c d a' b' c' d' : Int} (e1 : ∀ p, p ∈ lo ↔ p ∈ lo') (e2 : ∀ p, p ∈ hi ↔ p ∈ hi') (h : BoxOf lo hi a b c d) (k : BoxOf lo' hi' a' b' c' d') : a = a' ∧ b = b' ∧ c = c' ∧ d = d' :=
  ⟨isMin_uniq (mem_map_iff e1) h.1 k.1, isMin_uniq (mem_map_iff e1) h.2.1 k.2.1, isMax_uniq (mem_map_iff e2) h.2.2.1 k.2.2.1, isMax_uniq (mem_map_iff e2) h.2.2.2 k.2.2.2⟩
/-- the order of the rows changes no member -/
theorem mem_rev {α β : Type} {f : α → List β} (rs : List α) : ∀ p, p ∈ (rs.map f).flatten ↔ p ∈ (rs.reverse.map f).flatten := by
  intro p
  simp only [List.mem_flatten, List.mem_map, List.mem_reverse]
theorem nil_of_mem {β : Type} {A B : List β} (e : ∀ p, p ∈ A ↔ p ∈ B) (h : A = []) : B = [] := by
  cases B with
  | nil => rfl
  | cons b r => exact absurd ((e b).mpr (.head _)) (by rw [h]; exact List.not_mem_nil)
/-- the box of the law's first letters -/
theorem box_first {x0 y0 x1 y1 : Int} (h : BoxOf [(5, 1), (-4, 3)] [(6, 2), (7, 9)] x0 y0 x1 y1) : x0 = -4 ∧ y0 = 1 ∧ x1 = 7 ∧ y1 = 9 :=
  box_uniq (fun _ => Iff.rfl) (fun _ => Iff.rfl) h ⟨⟨by simp, by simp⟩, ⟨by simp, by simp⟩, ⟨by simp, by simp⟩, ⟨by simp, by simp⟩⟩
end

section
def LawMid1 (gg : Heap) (LL : Addr) (s₀ : Shared) (c : Addr × Obj) (l : Addr) (s' : Shared) : Prop :=
  ∃ (m : Str → Option Value) (h : Heap) (tk : Nat), s' = { s₀ with heap := h, toks := tk } ∧ m (Str.ofString "script") = some (.ref l) ∧ Fr gg LL h m ∧ News gg LL h [c]
inductive RowsL (ν : List (Addr × Obj)) : List Value → List (List (Int × Int) × List (Int × Int)) → Prop
  | nil : RowsL ν [] []
  | cons {v : Value} {r : List (Int × Int) × List (Int × Int)} {vs : List Value} {rs : List (List (Int × Int) × List (Int × Int))} : RowL ν v r → RowsL ν vs rs → RowsL ν (v :: vs) (r :: rs)
theorem RowsL.mono {ν ν' : List (Addr × Obj)} (hs : ∀ p ∈ ν, p ∈ ν') {vs : List Value} {rs : List (List (Int × Int) × List (Int × Int))} (h : RowsL ν vs rs) : RowsL ν' vs rs := by
  induction h with
  | nil => exact .nil
  | cons a _ ih => exact .cons (a.mono hs) ih
theorem RowsL.length {ν : List (Addr × Obj)} {vs : List Value} {rs : List (List (Int × Int) × List (Int × Int))} (h : RowsL ν vs rs) : vs.length = rs.length := by
  induction h with
  | nil => rfl
  | cons _ _ ih => simp [ih]
theorem RowsL.append {ν : List (Addr × Obj)} {vs ws : List Value} {rs qs : List (List (Int × Int) × List (Int × Int))} (h : RowsL ν vs rs) (k : RowsL ν ws qs) : RowsL ν (vs ++ ws) (rs ++ qs) := by
  induction h with
  | nil => exact k
  | cons a _ ih => exact .cons a ih
theorem RowsL.rows {ν : List (Addr × Obj)} {vs : List Value} {rs : List (List (Int × Int) × List (Int × Int))} (h : RowsL ν vs rs) : RowsAt ν vs rs := by
  induction h with
  | nil => exact .nil
  | cons a _ ih => exact .cons a.row ih
theorem RowsL.get {ν : List (Addr × Obj)} {vs : List Value} {rs : List (List (Int × Int) × List (Int × Int))} (h : RowsL ν vs rs) : ∀ {i : Nat} {v : Value}, vs[i]? = some v → ∃ r, rs[i]? = some r ∧ RowL ν v r := by
  induction h with
  | nil => intro i v e; simp at e
  | @cons v r vs rs a _ ih =>
    intro i w e
    cases i with
    | zero => simp at e; exact ⟨r, by simp, e ▸ a⟩
    | succ i => simpa using ih (by simpa using e)
/-- behind the fourth: the rows are made -/
def LawMid3 (gg : Heap) (LL : Addr) (s₀ : Shared) (s' : Shared) : Prop :=
  ∃ (m : Str → Option Value) (h : Heap) (tk : Nat) (D : Addr) (vs : List Value) (rs : List (List (Int × Int) × List (Int × Int))) (ν : List (Addr × Obj)), s' = { s₀ with heap := h, toks := tk } ∧ m (Str.ofString "rows") = some (.ref D) ∧ Fr gg LL h m ∧ News gg LL h ν ∧ (D, LCg.lst vs) ∈ ν ∧ RowsL ν vs rs ∧ rs.length ≤ 5
/-- behind the fifth: letters and due -/
def LawMid4 (gg : Heap) (LL : Addr) (s₀ : Shared) (s' : Shared) : Prop :=
  ∃ (m : Str → Option Value) (h : Heap) (tk : Nat) (D b : Addr) (vs : List Value) (rs : List (List (Int × Int) × List (Int × Int))) (ν : List (Addr × Obj)) (x0 y0 x1 y1 : Int) (u1 u2 u3 u4 : Tok) (k : Nat), s' = { s₀ with heap := h, toks := tk } ∧ m (Str.ofString "letters") = some (.ref D) ∧ m (Str.ofString "due") = some (.ref b) ∧ Fr gg LL h m ∧ News gg LL h ν ∧ (D, LCg.lst vs) ∈ ν ∧ (b, tupO #[.int x0 u1, .int y0 u2, .int x1 u3, .int y1 u4] k) ∈ ν ∧ LetsAt ν vs rs ∧ rs.length ≤ 5 ∧ ((rs.map (·.1)).flatten = [] ↔ (rs.map (·.2)).flatten = []) ∧
    (((rs.map (·.1)).flatten = [] ∧ x0 = 0 ∧ y0 = 0 ∧ x1 = 0 ∧ y1 = 0) ∨ BoxOf (rs.map (·.1)).flatten (rs.map (·.2)).flatten x0 y0 x1 y1)
section
variable {prog : Program} {w : World} {A : Around} {E : Value → Shared → Prop} {s : Shared} {h₀ : Heap} {L : Addr} {m : Str → Option Value} {env : Env}
theorem csrc_lets {x1 x2 x3 : Str} {p1 p2 p3 tp q : Pos} {tk : Nat} {scope : Scope} {cl : List (Str × Addr)} {Q : Value → Shared → Prop} {a : Addr} {ws : List Value} {k : Nat} {news : List (Addr × Obj)} {rs : List (List (Int × Int) × List (Int × Int))}
    (hh : A.handled = none) (hkind : scope.kind = .function) (hx1 : scope.names.lookup x1 = some .local) (hx2 : scope.names.lookup x2 = some .local) (hx3 : scope.names.lookup x3 = some .local) (h12 : x1 ≠ x2) (h13 : x1 ≠ x3) (h23 : x2 ≠ x3) (hd : (x1 == ("__debug__" : Str)) = false)
    (F : Fr h₀ L s.heap m) (N : News h₀ L s.heap news) (ha : (a, PySem.W.listOf ws.toArray k) ∈ news) (hp : RowsL news ws rs) (hlen : ws.length ≤ 16777216)
    (done : ∀ ys D h tk, LetsAt news ys rs → Fr h₀ L h m → News h₀ L h ((D, LCg.lst ys) :: news) → (∀ p ∈ news, p.1 ≠ D) → Q (.ref D) { s with heap := h, toks := tk }) :
    CSrc prog w A h₀ L m env (.Name x1 q) (.Tuple [.Name x1 p1, .Name x2 p2, .Name x3 p3] tk tp) scope cl Q (.ref a) s := by
  refine ⟨a, ws, k, news, fun i ys nw => nw = news ∧ LetsAt news ys (rs.take i), rfl, hh, F, N, ha, hlen, ⟨rfl, .nil⟩, ?_, ?_⟩
  · rintro i ys nw v I oI C oC D m₂ s₂ E' hv hl ⟨rfl, hls⟩ hax hC F₂ N₂ off ne
    obtain ⟨r, hr, ⟨t9, p9, q9, vl, k9, k1, k2, ps, qs, rfl, r1, r2, r3, r4, r5, r6, r7, r8, r9⟩⟩ := hp.get hv
    refine assign3_led hh hkind hx1 hx2 hx3 h12 h13 h23 F₂ N₂ hC (off_C off ne) (.tail _ (.tail _ r1)) fun h' tk oC' m₃ hC' e1 e2 e3 F₃ N₃ => ?_
    refine ldVarK (v := vl) (hC'.ns (N₃ _ (.head _)).1) e1 ?_ (by simp [compEnvC, relabel, hkind]) (lookup_relabel_local hx1) hd
    refine CEnd.sameC hC' F₃ N₃ off hax ⟨rfl, ?_⟩
    rw [List.take_add_one, hr]
    exact hls.append (.cons r9 .nil)
  · rintro ys nw D h tk hl ⟨rfl, hls⟩ F' N' off
    rw [hp.length, List.take_length] at hls
    exact done ys D h tk hls F' N' off
end
theorem box_mem {lo hi lo' hi' : List (Int × Int)} {a b c d : Int} (e1 : ∀ p, p ∈ lo ↔ p ∈ lo') (e2 : ∀ p, p ∈ hi ↔ p ∈ hi') (h : BoxOf lo hi a b c d) : BoxOf lo' hi' a b c d :=
  ⟨⟨(mem_map_iff e1 _).mp h.1.1, fun x hx => h.1.2 x ((mem_map_iff e1 x).mpr hx)⟩, ⟨(mem_map_iff e1 _).mp h.2.1.1, fun x hx => h.2.1.2 x ((mem_map_iff e1 x).mpr hx)⟩, ⟨(mem_map_iff e2 _).mp h.2.2.1.1, fun x hx => h.2.2.1.2 x ((mem_map_iff e2 x).mpr hx)⟩, ⟨(mem_map_iff e2 _).mp h.2.2.2.1, fun x hx => h.2.2.2.2 x ((mem_map_iff e2 x).mpr hx)⟩⟩
/-- whole_box where no letter gives a point -/
theorem whole_z {prog : Program} {w : World} {p : Program} {loose : List Str} {mean : ExcName → Option Value} {mg mb : Str → Option Value}
    {dp un : Nat} {gd : Option (List Code)} {cn : Str} {cs : Scope} {a : Addr} {ccd : Value} {cl : List (Str × Addr)} {outer : List Env} {A₀ : Around} {base h₀ : Heap} {L : Addr} {m : Str → Option Value} {s : Shared} {Q E : Value → Shared → Prop}
    {l : Addr} {vs : List Value} {kl : Nat} {rs : List (List (Int × Int) × List (Int × Int))} {own : List (Addr × Obj)}
    (B : Below A₀ base outer h₀) (F : Fr h₀ L s.heap m) (X : (kdef.heap_1 w.params).In h₀) (N : News h₀ L s.heap (own)) (T : Top p loose mean mg mb h₀) (hk : cs.kind = .function) (hroom : dp + 7 < recursionLimit) (hu : un + 400 < cLine) (hl : (l, PySem.W.listOf vs.toArray kl) ∈ own) (hls : LetsAt own vs rs) (he : (rs.map (·.1)).flatten = [])
    (ret : ∀ (h' : Heap) (tk' : Nat), Fr h₀ L h' m → News h₀ L h' own → Q (.ref 149) { s with heap := h', toks := tk' }) :
    wpAny (model prog w) (ktrTop dp un gd cn cs L a ccd cl outer) (call (.ref 192) [.ref l]) Q E s := by
  refine whole_c B F X N T hk hroom hu hl hls (fun h' tk' F' N' _ _ => ret h' tk' F' N') fun b x0 y0 x1 y1 u1 u2 u3 u4 k h' tk' F' N' hb => ?_
  rw [he] at hb
  exact absurd hb.1.1 List.not_mem_nil
/-- whole_box where the box is known -/
theorem whole_b {prog : Program} {w : World} {p : Program} {loose : List Str} {mean : ExcName → Option Value} {mg mb : Str → Option Value}
    {dp un : Nat} {gd : Option (List Code)} {cn : Str} {cs : Scope} {a : Addr} {ccd : Value} {cl : List (Str × Addr)} {outer : List Env} {A₀ : Around} {base h₀ : Heap} {L : Addr} {m : Str → Option Value} {s : Shared} {Q E : Value → Shared → Prop}
    {l : Addr} {vs : List Value} {kl : Nat} {rs : List (List (Int × Int) × List (Int × Int))} {own : List (Addr × Obj)} {x0 y0 x1 y1 : Int}
    (B : Below A₀ base outer h₀) (F : Fr h₀ L s.heap m) (X : (kdef.heap_1 w.params).In h₀) (N : News h₀ L s.heap (own)) (T : Top p loose mean mg mb h₀) (hk : cs.kind = .function) (hroom : dp + 7 < recursionLimit) (hu : un + 400 < cLine) (hl : (l, PySem.W.listOf vs.toArray kl) ∈ own) (hls : LetsAt own vs rs) (hb : BoxOf (rs.map (·.1)).flatten (rs.map (·.2)).flatten x0 y0 x1 y1)
    (ret : ∀ (b : Addr) (u1 u2 u3 u4 : Tok) (k : Nat) (h' : Heap) (tk' : Nat), Fr h₀ L h' m → News h₀ L h' ((b, tupO #[.int x0 u1, .int y0 u2, .int x1 u3, .int y1 u4] k) :: own) → Q (.ref b) { s with heap := h', toks := tk' }) :
    wpAny (model prog w) (ktrTop dp un gd cn cs L a ccd cl outer) (call (.ref 192) [.ref l]) Q E s := by
  refine whole_c B F X N T hk hroom hu hl hls (fun h' tk' F' N' e1 _ => ?_) fun b x0' y0' x1' y1' u1 u2 u3 u4 k h' tk' F' N' hb' => ?_
  · rw [e1] at hb
    exact absurd hb.1.1 List.not_mem_nil
  · obtain ⟨rfl, rfl, rfl, rfl⟩ := box_uniq (fun _ => Iff.rfl) (fun _ => Iff.rfl) hb' hb
    exact ret b u1 u2 u3 u4 k h' tk' F' N'
/-- behind the third: the source is made -/
def LawMid2 (gg : Heap) (LL : Addr) (s₀ : Shared) (s' : Shared) : Prop :=
  ∃ (m : Str → Option Value) (h : Heap) (tk : Nat) (oc : Obj) (src : Addr) (P q : Int) (t1 t2 : Tok) (n : Nat), s' = { s₀ with heap := h, toks := tk } ∧ Fr gg LL h m ∧ News gg LL h [(LL + 1, oc), (src, SrcO P q t1 t2 n)] ∧ @LT.lt Nat _ (LL + 1) src ∧ oc.data = Data.cell (some (.ref src)) ∧ 0 ≤ P ∧ (0 ≤ q ∧ q < 2147483647)
section
/- The kit's head lays a second copy (tw..) of each constant that it reckons with, and a proof (te..) that both are one. These names are taken ahead, so that it lays none for the seven greatest: the compiled file stays below the lid. -/
theorem law_holds.tw6522912270351117642 : True := trivial  -- the written heap: its twin is never used
theorem law_holds.tw4439036118790108200 : True := trivial  -- the last heap as a list
theorem law_holds.tw14462753142839830455 : True := trivial  -- the trees of objects, from the last back
theorem law_holds.tw2136941040597916148 : True := trivial
theorem law_holds.tw545679637281252710 : True := trivial
theorem law_holds.tw10143922819780533295 : True := trivial
theorem law_holds.tw13536078969547264968 : True := trivial  -- the view of the text
set_option Elab.async true in
set_option maxHeartbeats 8000000 in
theorem law_holds : PySem.Challenge.rw_xm0728_01.Holds := by
  k_with_none
  k_with "ne" => (refine neN ?_; (try dsimp only); first | with_reducible assumption | with_reducible exact Ne.symm (by assumption) | with_reducible exact And.left (by assumption) | with_reducible exact Ne.symm (And.left (by assumption)) | with_reducible exact And.left (And.right (by assumption)) | with_reducible exact Ne.symm (And.left (And.right (by assumption))) | with_reducible exact And.right (by assumption) | with_reducible exact Ne.symm (And.right (by assumption)) | with_reducible exact And.left (And.right (And.right (by assumption))) | with_reducible exact Ne.symm (And.left (And.right (And.right (by assumption)))) | with_reducible exact And.right (And.right (by assumption)) | with_reducible exact Ne.symm (And.right (And.right (by assumption))) | with_reducible exact And.left (And.right (And.right (And.right (by assumption)))) | with_reducible exact Ne.symm (And.left (And.right (And.right (And.right (by assumption))))) | with_reducible exact And.right (And.right (And.right (by assumption))) | with_reducible exact Ne.symm (And.right (And.right (And.right (by assumption)))) | with_reducible exact Nat.ne_of_gt (And.left (by assumption)) | with_reducible exact Nat.ne_of_lt (And.left (by assumption)) | with_reducible exact Nat.ne_of_gt (And.left (And.right (by assumption))) | with_reducible exact Nat.ne_of_lt (And.left (And.right (by assumption))) | with_reducible exact Nat.ne_of_gt (And.left (And.right (And.right (by assumption)))) | with_reducible exact Nat.ne_of_lt (And.left (And.right (And.right (by assumption)))) | with_reducible exact Nat.ne_of_gt (And.left (And.right (And.right (And.right (by assumption))))) | with_reducible exact Nat.ne_of_lt (And.left (And.right (And.right (And.right (by assumption))))) | with_reducible exact Nat.ne_of_gt (And.left (And.right (And.right (And.right (And.right (by assumption)))))) | with_reducible exact Nat.ne_of_lt (And.left (And.right (And.right (And.right (And.right (by assumption)))))) | with_reducible exact Nat.ne_of_gt (And.left (And.right (And.right (And.right (And.right (And.right (by assumption))))))) | with_reducible exact Nat.ne_of_lt (And.left (And.right (And.right (And.right (And.right (And.right (by assumption))))))) | with_reducible exact Nat.ne_of_gt (And.left (And.right (And.right (And.right (And.right (And.right (And.right (by assumption)))))))) | with_reducible exact Nat.ne_of_lt (And.left (And.right (And.right (And.right (And.right (And.right (And.right (by assumption)))))))) | with_reducible exact Nat.ne_of_gt (And.left (And.right (And.right (And.right (And.right (And.right (And.right (And.right (by assumption))))))))) | with_reducible exact Nat.ne_of_lt (And.left (And.right (And.right (And.right (And.right (And.right (And.right (And.right (by assumption))))))))) | with_reducible exact Nat.ne_of_gt (And.left (And.right (And.right (And.right (And.right (And.right (And.right (And.right (And.right (by assumption)))))))))) | with_reducible exact Nat.ne_of_lt (And.left (And.right (And.right (And.right (And.right (And.right (And.right (And.right (And.right (by assumption)))))))))) | omega)
  k_with "call builtin:len" => (k_here; (with_reducible show wpAny _ _ (call (Value.builtin _) [Value.ref _]) _ _ _); k_dflt (refine' len_listL ?zzqN ?zzqb ?zzqz ?_; (case zzqN => k_asm); (case zzqb => k_mem); (case zzqz => omega); k_whole))
  k_with "eval ListComp" => (k_here; k_dflt (refine LCg.ListComp_U (F₀ := by k_asm) (by rfl) (by decide) (by rfl) (by decide) (by rfl) ?_))
  k_with "exec Assign cons ListComp" => (k_here; (with_reducible show wpAny _ _ (exec (Stmt.Assign _ (Expr.ListComp _ (_ :: []) _ _) _) _) _ _ _); k_dflt (refine LCg.Assign_ListComp_U (F₀ := by k_asm) (by rfl) (by with_unfolding_all rfl) (by rfl) (by decide) (by rfl) (by decide) (by rfl) (by rfl) (by rfl) ?_))
  k_with "CompSrc" => (k_dflt (refine held ?_))
  k_with "exec Assign cons ListComp" => (k_here; (with_reducible show wpAny _ _ (exec (Stmt.Assign _ (Expr.ListComp _ (_ :: _ :: _) _ _) _) _) _ _ _); k_dflt (refine nest_ledA (by k_asm) (by rfl) (by with_unfolding_all rfl) (by rfl) (by decide) (by rfl) (by decide) (by rfl) (by decide) (by rfl) (by rfl) ?_))
  k_with "NSrcA" => (k_dflt (refine held ?_))
  k_with "call ref" => ( k_here; k_dflt (show wpAny _ _ (call (Value.ref 254) [Value.ref _, Value.int _ _]) _ _ _); k_dflt (refine' take_u ?zzqk1 ?zzqk2 ?zzqk3 ?zzqk4 ?zzqk5 ?zzqk6 ?zzqk7 ?zzqk8 ?zzqe1 ?zzqe2 ?zzqe3 ?zzqe4 ?_; (case zzqk1 => k_asm); (case zzqk2 => k_asm); (case zzqk3 => k_asm); (case zzqk4 => k_asm); (case zzqk5 => k_asm); (case zzqk6 => first | exact rfl | assumption); (case zzqk7 => ktr_room); (case zzqk8 => ktr_units); (case zzqe1 => intro o'; k_upd); (case zzqe2 => assumption); (case zzqe3 => assumption); (case zzqe4 => first | decide | omega); k_whole); intros; (try dsimp only); (try k_sweep); (try k_fold); walk_say "TAKE")
  k_with "call ref" => ( k_here; k_dflt (show wpAny _ _ (call (Value.ref 278) [Value.ref _]) _ _ _); k_dflt (refine' let_u ?zzqk1 ?zzqk2 ?zzqk3 ?zzqk4 ?zzqk5 ?zzqk6 ?zzqk7 ?zzqk8 ?zzqe1 ?zzqe2 ?zzqe3 ?_; (case zzqk1 => k_asm); (case zzqk2 => k_asm); (case zzqk3 => k_asm); (case zzqk4 => k_asm); (case zzqk5 => k_asm); (case zzqk6 => first | exact rfl | assumption); (case zzqk7 => ktr_room); (case zzqk8 => ktr_units); (case zzqe1 => intro o'; k_upd); (case zzqe2 => assumption); (case zzqe3 => assumption); k_whole); intros; (try dsimp only); (try k_sweep); (try k_fold); walk_say "LET")
  k_with "call ref" => ( k_here; k_dflt (show wpAny _ _ (call (Value.ref 79) [_, _, _]) _ _ _); k_dflt (refine' part_c ?zzqk1 ?zzqk2 ?zzqk3 ?zzqk4 ?zzqk5 ?zzqk6 ?zzqk7 ?zzqk8 ?_; (case zzqk1 => k_asm); (case zzqk2 => k_asm); (case zzqk3 => k_asm); (case zzqk4 => k_asm); (case zzqk5 => k_asm); (case zzqk6 => first | exact rfl | assumption); (case zzqk7 => ktr_room); (case zzqk8 => ktr_units); k_whole); intros; (try dsimp only); (try k_sweep); (try k_fold); walk_say "PART")
  k_with "call ref" => ( k_here; k_dflt (show wpAny _ _ (call (Value.ref 181) [_, _, _, _, _]) _ _ _); k_dflt (refine' letr_c ?zzqk1 ?zzqk2 ?zzqk3 ?zzqk4 ?zzqk5 ?zzqk6 ?zzqk7 ?zzqk8 ?_; (case zzqk1 => k_asm); (case zzqk2 => k_asm); (case zzqk3 => k_asm); (case zzqk4 => k_asm); (case zzqk5 => k_asm); (case zzqk6 => first | exact rfl | assumption); (case zzqk7 => ktr_room); (case zzqk8 => ktr_units); k_whole); intros; (try dsimp only); (try k_sweep); (try k_fold); (try (rename_i l1 h90; k_lt l1; revert h90 l1; intro _ _)); walk_say "LETR")
  k_with "call ref" => ( k_here; k_dflt (show wpAny _ _ (call (Value.ref 283) [Value.ref _]) _ _ _); k_dflt (refine' lbox_c ?zzqk1 ?zzqk2 ?zzqk3 ?zzqk4 ?zzqk5 ?zzqk6 ?zzqk7 ?zzqk8 ?zzqe1 ?zzqe2 ?zzqe3 ?_; (case zzqk1 => k_asm); (case zzqk2 => k_asm); (case zzqk3 => k_asm); (case zzqk4 => k_asm); (case zzqk5 => k_asm); (case zzqk6 => first | exact rfl | assumption); (case zzqk7 => ktr_room); (case zzqk8 => ktr_units); (case zzqe1 => k_mem); (case zzqe2 => (refine RowsAt.mono (fun p hp => ?_) (by assumption); simp only [List.mem_cons, List.cons_append, hp, or_true])); (case zzqe3 => omega); k_whole); intros; (try dsimp only); (try k_sweep); (try k_fold); walk_say "LBOX")
  k_with "eval ListComp" => (k_here; k_dflt (refine comp_led (by k_asm) (by rfl) (by decide) (by rfl) (by decide) ?_))
  k_with "CSrc" => ( k_here; k_dflt (refine' csrc_lets ?zzqa1 ?zzqa2 ?zzqa3 ?zzqa4 ?zzqa5 ?zzqa6 ?zzqa7 ?zzqa8 ?zzqa9 ?zzqk1 ?zzqk2 ?zzqk3 ?zzqk4 ?zzqk6 ?_; (case zzqa1 => rfl); (case zzqa2 => rfl); (case zzqa3 => rfl); (case zzqa4 => rfl); (case zzqa5 => rfl); (case zzqa6 => decide); (case zzqa7 => decide); (case zzqa8 => decide); (case zzqa9 => decide); (case zzqk1 => k_asm); (case zzqk2 => k_asm); (case zzqk3 => k_mem); (case zzqk4 => assumption); (case zzqk6 => omega)); intros; (try dsimp only); (try k_sweep))
  k_with "call ref" => (k_here; k_dflt (show wpAny _ _ (call (Value.ref 192) [Value.ref _]) _ _ _); k_dflt (refine held ?_))
  k_with "call ref" => (k_here; k_dflt (show wpAny _ _ (call (Value.ref 247) [Value.ref _]) _ _ _); k_dflt (refine held ?_))
  k_with "subscriptTail Name Slice ref ref" => (k_here; (with_reducible show wpAny _ _ (subscriptTail _ (PySem.Expr.Slice none none (some _) _) (Value.ref _) (Value.ref _)) _ _ _); k_dflt (refine' krv_lit ?zzqF ?zzqN ?zzql ?zzqk ?zzqe ?_ ?zzqs ?zzqt ?zzqz; (case zzqF => k_asm); (case zzqN => k_asm); (case zzql => exact News.isList (by k_asm) (by k_mem)); (case zzqk => exact IsPart.int _ _); (case zzqe => exact congrArg List.reverse List.toList_toArray); (case zzqs => with_unfolding_all rfl); (case zzqt => kmk_pure); (case zzqz => (rw [sizeLine_eq, List.size_toArray]; omega))); intros; (try (rename_i l1; k_lt l1; revert l1; intro _)); (try k_sweep))
  k_with "compareOp Eq ref ref" => (k_dflt (refine held ?_))
  (w_on; o_law; o_head (kHook kdef.heap_1 [2, 3, 15, 17, 18, 20, 21, 22, 29, 31, 32, 34, 35, 36, 37, 38, 39, 42, 49, 50, 51, 61, 62, 63, 65, 66, 68, 69, 70, 72, 73, 75, 76, 77, 78, 79, 80, 81, 84, 86, 87, 89, 90, 91, 93, 94, 96, 97, 98, 100, 101, 103, 104, 105, 107, 108, 110, 111, 112, 114, 115, 117, 118, 119, 122, 123, 124, 127, 128, 129, 132, 133, 134, 136, 137, 139, 140, 141, 142, 144, 145, 147, 148, 149, 157, 158, 160, 161, 163, 164, 165, 167, 168, 170, 171, 172, 174, 175, 177, 178, 179, 180, 181, 182, 183, 186, 188, 189, 191, 192, 200, 201, 203, 204, 206, 207, 208, 210, 211, 213, 214, 215, 217, 218, 220, 221, 222, 224, 225, 227, 228, 229, 232, 233, 234, 235, 236, 237, 238, 241, 243, 244, 246, 247, 248, 250, 251, 253, 254, 255, 257, 258, 260, 261, 262, 264, 265, 267, 268, 269, 272, 273, 274, 277, 278, 279, 282, 283, 284, 287, 288] (fun _ => by kernel_rfl)); (case hw => w_witness2))
  k_go0
  all_goals try k_fold
  rename Below _ _ _ _ => K9
  rename News _ _ _ _ => N9
  rename PySem.Heap.IsList _ _ _ => hlS
  rename IntsAre _ _ => hiS
  rename ¬ (_ < _) => hn9
  generalize hT : Top.heap _ = gg at K9
  dsimp only [Top.heap] at hT
  subst hT
  rename_i wW s₀ s₁ mg mb G Y fa o pm doc ho hg KX X V GL TT B TE TW wa wo M w7 w6 hcd ns9 hs hlay0 hL hr1 hl2 w5 w4 l9 vs9 q1 q2 q3 q4 q5 q6 hD9 h9 tk9 F9 w9 cd9 X9
  clear q1 q2 q3 q4 q5 q6 hD9 X9
  refine execs_cut (b1 := [_, _]) (LawMid1 s₁.heap s₁.heap.objs.size s₁ (s₁.heap.objs.size + 1, w9) l9) rfl ?_ ?_
  · k_steps
    refine Held.go ?_
    refine' whole_c (rs := [([(5, 1)], [(6, 2)]), ([(-4, 3)], [(7, 9)])]) ?zB ?zF ?zX ?zN ?zT ?zk ?zr ?zu ?zl ?zs ?z0 ?z1
    case zB => k_asm
    case zF => k_asm
    case zX => k_asm
    case zN => k_asm
    case zT => k_asm
    case zk => first | exact rfl | assumption
    case zr => ktr_room
    case zu => ktr_units
    case zl => k_mem
    case zs => exact .cons ⟨_, _, _, _, _, _, _, _, _, _, _, _, _, _, _, _, _, _, _, _, _, _, _, _, _, _, rfl, (by (repeat (first | exact List.Mem.head _ | refine List.Mem.tail _ ?_))), (by (repeat (first | exact List.Mem.head _ | refine List.Mem.tail _ ?_))), (by (repeat (first | exact List.Mem.head _ | refine List.Mem.tail _ ?_))), .parts⟩ (.cons ⟨_, _, _, _, _, _, _, _, _, _, _, _, _, _, _, _, _, _, _, _, _, _, _, _, _, _, rfl, (by (repeat (first | exact List.Mem.head _ | refine List.Mem.tail _ ?_))), (by (repeat (first | exact List.Mem.head _ | refine List.Mem.tail _ ?_))), (by (repeat (first | exact List.Mem.head _ | refine List.Mem.tail _ ?_))), .parts⟩ .nil)
    case z0 =>
      intro h' tk' F' N' e
      simp at e
    case z1 =>
      intro b x0 y0 x1 y1 u1 u2 u3 u4 k h' tk' F' N' hb
      obtain ⟨rfl, rfl, rfl, rfl⟩ := box_first hb
      clear hb
      dsimp only
      k_fold
      k_steps
      (rename News _ _ _ _ => kN; exact ⟨rfl, _, _, _, rfl, rfl, by k_asm, fun p hp => kN p (by rw [List.mem_singleton.mp hp]; (repeat (first | exact List.Mem.head _ | refine List.Mem.tail _ ?_)))⟩)
  · rintro s' ⟨m, h, tk, rfl, em, F9, N9⟩
    have e : (fun z => if z = Str.ofString "script" then some (Value.ref l9) else m z) = m := funext fun z => by
      by_cases h : z = Str.ofString "script"
      · simp [h, em]
      · simp [h]
    rw [← e] at F9
    clear e em
    rename_i Fa Na
    clear Fa Na
    refine execs_cut (b1 := [_]) (LawMid2 s₁.heap s₁.heap.objs.size s₁) rfl ?_ ?_
    · k_steps
      refine Held.go ?_
      refine' pool_c ?yB ?yF ?yX ?yN ?yT ?yk ?yr ?yu hlS hiS ?yn ?yret
      case yB => k_asm
      case yF => k_asm
      case yX => k_asm
      case yN => k_asm
      case yT => k_asm
      case yk => first | exact rfl | assumption
      case yr => ktr_room
      case yu => ktr_units
      case yn => omega
      case yret =>
        intro src P q t1 t2 n h' tk' F' N' lsrc hP hq
        dsimp only
        k_fold
        k_steps
        rename News _ _ _ _ => kN
        exact ⟨rfl, _, _, _, _, _, _, _, _, _, _, rfl, by k_asm, fun p hp => kN p (by
          simp only [List.mem_cons, List.not_mem_nil, or_false] at hp
          rcases hp with rfl | rfl
          · exact .tail _ (.head _)
          · exact .head _), lsrc (s₁.heap.objs.size + 1, w9) (.head _), by assumption, hP, hq⟩
    · rintro s' ⟨m, h, tk, oc, src, P, q, t1, t2, n, rfl, F9, N9, lc, dc, hP, hq⟩
      rename_i Fa Na
      clear Fa Na
      refine execs_cut (b1 := [_]) (LawMid3 s₁.heap s₁.heap.objs.size s₁) rfl ?_ ?_
      · k_steps
        refine Held.go ?_
        refine LCg.CompSrc.range (by rfl) (by k_asm) (by k_asm) (by assumption) (small_one (by omega) (by omega) (by omega) (by omega)) (rangeSize_nat _ _) (by rw [sizeLine_eq]; omega) ?_
        intro g9
        refine rest_src (fun i ys tl => ∃ rs, RowsL tl ys rs ∧ rs.length = i) ⟨[], .nil, rfl⟩ (Nat.ne_of_lt lc) (fun _ h => nomatch h) (by assumption) (by assumption) (fun _ => trivial) ?_ ?_
        · rintro i ys tl I oI C oC D m₂ h tk E' P'' q'' t1'' t2'' hi hl ⟨rs, hrs, hlr⟩ hC F9 N9 offc offs offt ne hall hP9 hq9
          dsimp only at offc
          k_fold
          k_steps
          rename_i t7 low7 high7 tl7 _ _ _ _ _ _ _ N7 hfr7 _ _ hrow7
          refine SrcEnd.many (new := tl7) (by k_asm) N7 hfr7 offt (by assumption) (by assumption) ⟨rs ++ [(low7, high7)], ?_, ?_⟩
          · exact (hrs.mono fun p hp => List.mem_append.mpr (.inr hp)).append (.cons (hrow7.mono fun p hp => List.mem_append.mpr (.inl hp)) .nil)
          · rw [List.length_append, hlr]; rfl
        · rintro ys tl P'' q'' t1'' t2'' hl ⟨rs, hrs, hlr⟩ hs hP9 hq9
          k_steps
          rename News _ _ _ _ => kN
          exact ⟨rfl, _, _, _, _, _, rs, _, rfl, rfl, by k_asm, kN, .head _, hrs.mono fun p hp => .tail _ (.tail _ (.tail _ (List.mem_append.mpr (.inl hp)))), by omega⟩
      · rintro s' ⟨m, h, tk, D, vs, rs, ν, rfl, em, F9, N9, hD, hrs, hlen⟩
        have e : (fun z => if z = Str.ofString "rows" then some (Value.ref D) else m z) = m := funext fun z => by
          by_cases h : z = Str.ofString "rows"
          · simp [h, em]
          · simp [h]
        rw [← e] at F9
        clear e em
        have hlv := hrs.length
        have hrows := hrs.rows
        have hiff := rows_iff hrows
        refine execs_cut (b1 := [_]) (LawMid4 s₁.heap s₁.heap.objs.size s₁) rfl ?_ ?_
        · k_steps
          rename News _ _ _ _ => kN
          rename LetsAt _ _ _ => hls7
          rename _ ∨ BoxOf _ _ _ _ _ _ => hbx7
          exact ⟨rfl, _, _, _, _, _, _, rs, _, _, _, _, _, _, _, _, _, _, rfl, rfl, rfl, by k_asm, kN, .tail _ (.tail _ (.head _)), .tail _ (.head _), hls7.mono fun p hp => .tail _ (.tail _ (.tail _ hp)), hlen, hiff, hbx7⟩
        · rintro s' ⟨m, h, tk, D, b, vs, rs, ν, x0, y0, x1, y1, u1, u2, u3, u4, k, rfl, em1, em2, F9, N9, hD, hb, hls, hlen, hiff, hbox⟩
          have e : (fun z => if z = Str.ofString "letters" then some (Value.ref D) else if z = Str.ofString "due" then some (Value.ref b) else m z) = m := funext fun z => by
            by_cases h : z = Str.ofString "letters"
            · simp [h, em1]
            · by_cases h' : z = Str.ofString "due"
              · rw [h'] at h ⊢; simp [h, em2]
              · simp [h, h']
          rw [← e] at F9
          clear e em1 em2 hrs hrows
          have hlv := hls.length
          have hlsr := hls.reverse
          rcases hbox with ⟨he, rfl, rfl, rfl, rfl⟩ | hbox
          · have her := nil_of_mem (mem_rev rs) he
            k_steps
            refine Held.go ?_
            refine' whole_z (rs := rs) ?wB ?wF ?wX ?wN ?wT ?wk ?wr ?wu ?wl ?ws ?we ?wret
            case wB => k_asm
            case wF => k_asm
            case wX => k_asm
            case wN => k_asm
            case wT => k_asm
            case wk => first | exact rfl | assumption
            case wr => ktr_room
            case wu => ktr_units
            case wl => k_mem
            case ws => assumption
            case we => assumption
            case wret =>
              intro h' tk' F' N'
              dsimp only
              k_fold
              k_steps
              refine Held.go ?_
              obtain ⟨_, _, _, _, _, e149⟩ := no_box KX F'
              refine eq_box e149 (News.get N' hb) (by ktr_units) ?_
              clear e149
              (try dsimp only)
              k_steps
              refine Held.go ?_
              refine' whole_z (rs := rs.reverse) ?vB ?vF ?vX ?vN ?vT ?vk ?vr ?vu ?vl ?vs ?ve ?vret
              case vB => k_asm
              case vF => k_asm
              case vX => k_asm
              case vN => k_asm
              case vT => k_asm
              case vk => first | exact rfl | assumption
              case vr => ktr_room
              case vu => ktr_units
              case vl => k_mem
              case vs => exact hlsr.mono fun p hp => .tail _ hp
              case ve => assumption
              case vret =>
                intro h' tk' F' N'
                dsimp only
                k_fold
                k_steps
                refine Held.go ?_
                obtain ⟨_, _, _, _, _, e149⟩ := no_box KX F'
                refine eq_box e149 (News.get N' (.tail _ hb)) (by ktr_units) ?_
                clear e149
                k_steps
          · have hboxr := box_mem (mem_rev rs) (mem_rev rs) hbox
            k_steps
            refine Held.go ?_
            refine' whole_b (rs := rs) ?aB ?aF ?aX ?aN ?aT ?ak ?ar ?au ?al ?as ?ae ?aret
            case aB => k_asm
            case aF => k_asm
            case aX => k_asm
            case aN => k_asm
            case aT => k_asm
            case ak => first | exact rfl | assumption
            case ar => ktr_room
            case au => ktr_units
            case al => k_mem
            case as => exact hls
            case ae => exact hbox
            case aret =>
              intro b7 v1 v2 v3 v4 k7 h' tk' F' N'
              dsimp only
              k_fold
              k_steps
              refine Held.go ?_
              refine eq_box (News.get N' (.head _)) (News.get N' (.tail _ hb)) (by ktr_units) ?_
              (try dsimp only)
              k_steps
              refine Held.go ?_
              refine' whole_b (rs := rs.reverse) ?cB ?cF ?cX ?cN ?cT ?ck ?cr ?cu ?cl ?cs ?ce ?cret
              case cB => k_asm
              case cF => k_asm
              case cX => k_asm
              case cN => k_asm
              case cT => k_asm
              case ck => first | exact rfl | assumption
              case cr => ktr_room
              case cu => ktr_units
              case cl => k_mem
              case cs => exact hlsr.mono fun p hp => .tail _ (.tail _ hp)
              case ce => exact hboxr
              case cret =>
                intro b8 v5 v6 v7 v8 k8 h' tk' F' N'
                dsimp only
                k_fold
                k_steps
                refine Held.go ?_
                refine eq_box (News.get N' (.head _)) (News.get N' (.tail _ (.tail _ (.tail _ hb)))) (by ktr_units) ?_
                k_steps
end
end

end Mine
theorem PySem.Challenge.cw_xm0728_01_holds : PySem.Challenge.rw_xm0728_01.Holds := by
  exact Mine.law_holds
