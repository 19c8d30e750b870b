import PyProof.Rows.All
import Wide.All
import OpenK.AllK
import Wide.FinOn
import PyProof.EqAt
import PyProof.EqKinds
import PyProof.TupleCall
import Open.SpecLaws
import KE.OsGo
import KE.DataMinMax
import KE.DatumOrd
import HandS.ForSpec
import HandS.Comp
import HandS.Iter
import HandS.Dict
import HandS.Text
import HandS.Deep
import HandS.Zip
import HandS.ExcInit
import HandS.ExcField
import HandS.Style
import HandS.SortKw
import HandS.Walk
import HandS.Evl
import PySem.Challenge.RW_keptanswersdesk_s01_answers
set_option Elab.async false
set_option linter.all false
set_option maxRecDepth 100000
set_option maxHeartbeats 4000000
section
set_option autoImplicit false
/-! Mathematics 1: sizes, costs, rooms, goings. -/
namespace KA
open VamvsBase
open Vamvsa (Table Row Ask Grouping Group lexLess putGroup collect keyOf columnsOf width groupsOf sizeOf_ canFrom costOf reader better sortedKept groupings)
open Vamvse (setOf setsOf roomOf fitting dayCost goCost buildCost)

/-- the bit of a number, as Python asks for it -/
def bit (s i : Nat) : Bool := s / 2 ^ i % 2 == 1
theorem bit_testBit (s i : Nat) : bit s i = s.testBit i := by
  unfold bit
  rw [Nat.testBit_eq_decide_div_mod_eq]
  rfl

/-! ### lexLess -/
theorem lexLess_irrefl : ∀ a : List Nat, lexLess a a = false
  | [] => rfl
  | x :: r => by
    simp [lexLess, lexLess_irrefl r]
theorem lexLess_asymm : ∀ a b : List Nat, lexLess a b = true → lexLess b a = false
  | [], _, h => by simp [lexLess] at h
  | _ :: _, [], h => by simp [lexLess] at h
  | x :: r, y :: s, h => by
    simp only [lexLess, Bool.or_eq_true, decide_eq_true_eq, Bool.and_eq_true, beq_iff_eq, Bool.or_eq_false_iff, decide_eq_false_iff_not, Bool.and_eq_false_iff] at h ⊢
    rcases h with h | ⟨h1, h2⟩
    · exact ⟨by omega, .inl (by simp; omega)⟩
    · exact ⟨by omega, .inr (lexLess_asymm r s h2)⟩
theorem lexLess_trans : ∀ a b c : List Nat, lexLess a b = true → lexLess b c = true → lexLess a c = true
  | [], _, _, h, _ => by simp [lexLess] at h
  | _ :: _, [], _, h, _ => by simp [lexLess] at h
  | _ :: _, _ :: _, [], _, h => by simp [lexLess] at h
  | x :: r, y :: s, z :: t, h, g => by
    simp only [lexLess, Bool.or_eq_true, decide_eq_true_eq, Bool.and_eq_true, beq_iff_eq] at h g ⊢
    rcases h with h | ⟨h1, h2⟩
    · rcases g with g | ⟨g1, g2⟩
      · exact .inl (by omega)
      · exact .inl (by omega)
    · rcases g with g | ⟨g1, g2⟩
      · exact .inl (by omega)
      · exact .inr ⟨by omega, lexLess_trans r s t h2 g2⟩
theorem lexLess_total : ∀ a b : List Nat, a.length = b.length → a ≠ b → lexLess a b = false → lexLess b a = true
  | [], [], _, h, _ => absurd rfl h
  | [], _ :: _, h, _, _ => by simp at h
  | _ :: _, [], h, _, _ => by simp at h
  | x :: r, y :: s, hl, hne, h => by
    simp only [lexLess, Bool.or_eq_true, decide_eq_true_eq, Bool.and_eq_true, beq_iff_eq, Bool.or_eq_false_iff, decide_eq_false_iff_not, Bool.and_eq_false_iff] at h ⊢
    by_cases e : x = y
    · subst e
      refine .inr ⟨rfl, lexLess_total r s (by simpa using hl) (fun z => hne (by rw [z])) ?_⟩
      rcases h.2 with q | q
      · simp at q
      · exact q
    · exact .inl (by omega)

/-! ### the groups by keys -/
/-- sorted by the keys, all of one length -/
structure Sorted (L : Nat) (G : List Group) : Prop where
  len : ∀ x ∈ G, x.key.length = L
  ord : G.Pairwise fun x y => lexLess x.key y.key = true
theorem Sorted.tail {L : Nat} {y : Group} {G : List Group} (h : Sorted L (y :: G)) : Sorted L G :=
  ⟨fun x hx => h.len x (List.mem_cons_of_mem _ hx), (List.pairwise_cons.mp h.ord).2⟩
theorem put_mem {k : List Nat} (x : Group) : ∀ G : List Group, k ∈ (putGroup x G).map (·.key) ↔ k = x.key ∨ k ∈ G.map (·.key)
  | [] => by simp [putGroup]
  | y :: r => by
    unfold putGroup
    split
    · rename_i e
      simp [e]
    · split
      · simp
      · have ih := put_mem (k := k) x r
        simp only [List.map_cons, List.mem_cons, ih]
        constructor
        · rintro (h | h | h)
          · exact .inr (.inl h)
          · exact .inl h
          · exact .inr (.inr h)
        · rintro (h | h | h)
          · exact .inr (.inl h)
          · exact .inl h
          · exact .inr (.inr h)
theorem put_len {L : Nat} (x : Group) (hx : x.key.length = L) : ∀ G : List Group, (∀ y ∈ G, y.key.length = L) → ∀ y ∈ putGroup x G, y.key.length = L
  | [], _, y, hy => by
    simp [putGroup] at hy
    rw [hy, hx]
  | z :: r, h, y, hy => by
    unfold putGroup at hy
    split at hy
    · rcases List.mem_cons.mp hy with e | e
      · rw [e]
        exact h z (List.mem_cons_self ..)
      · exact h y (List.mem_cons_of_mem _ e)
    · split at hy
      · rcases List.mem_cons.mp hy with e | e
        · rw [e, hx]
        · exact h y e
      · rcases List.mem_cons.mp hy with e | e
        · rw [e]
          exact h z (List.mem_cons_self ..)
        · exact put_len x hx r (fun w hw => h w (List.mem_cons_of_mem _ hw)) y e
theorem put_sorted {L : Nat} (x : Group) (hx : x.key.length = L) : ∀ G : List Group, Sorted L G → Sorted L (putGroup x G)
  | [], _ => ⟨fun y hy => by
      simp [putGroup] at hy
      rw [hy, hx], by simp [putGroup]⟩
  | y :: r, h => by
    refine ⟨put_len x hx _ h.len, ?_⟩
    have ih := put_sorted x hx r h.tail
    obtain ⟨h1, h2⟩ := List.pairwise_cons.mp h.ord
    unfold putGroup
    split
    · exact List.pairwise_cons.mpr ⟨fun z hz => h1 z hz, h2⟩
    · rename_i hne
      split
      · rename_i hl
        refine List.pairwise_cons.mpr ⟨fun z hz => ?_, h.ord⟩
        rcases List.mem_cons.mp hz with e | e
        · rw [e]
          exact hl
        · exact lexLess_trans _ _ _ hl (h1 z e)
      · rename_i hl
        refine List.pairwise_cons.mpr ⟨fun z hz => ?_, ih.ord⟩
        have hk : z.key ∈ (putGroup x r).map (·.key) := List.mem_map.mpr ⟨z, hz, rfl⟩
        rcases (put_mem x r).mp hk with e | e
        · rw [e]
          exact lexLess_total _ _ (by rw [hx, h.len y (List.mem_cons_self ..)]) (fun q => hne q) (by simpa using hl)
        · obtain ⟨w, hw, e⟩ := List.mem_map.mp e
          rw [← e]
          exact h1 w hw
theorem put_length {L : Nat} (x : Group) (hx : x.key.length = L) : ∀ G : List Group, Sorted L G → (putGroup x G).length = if x.key ∈ G.map (·.key) then G.length else G.length + 1
  | [], _ => by simp [putGroup]
  | y :: r, h => by
    have ih := put_length x hx r h.tail
    obtain ⟨h1, h2⟩ := List.pairwise_cons.mp h.ord
    unfold putGroup
    split
    · rename_i e
      rw [if_pos (by simp [e])]
      rfl
    · rename_i hne
      split
      · rename_i hl
        rw [if_neg]
        · rfl
        · intro hm
          rcases List.mem_cons.mp hm with e | e
          · exact hne e
          · obtain ⟨w, hw, e⟩ := List.mem_map.mp e
            have a := h1 w hw
            rw [e] at a
            have b := lexLess_asymm _ _ a
            rw [hl] at b
            cases b
      · rw [List.length_cons, ih]
        by_cases hm : x.key ∈ r.map (·.key)
        · rw [if_pos hm, if_pos (by rw [List.map_cons]; exact List.mem_cons_of_mem _ hm)]
          rfl
        · rw [if_neg hm, if_neg (by
            rw [List.map_cons]
            intro q
            rcases List.mem_cons.mp q with e | e
            · exact hne e
            · exact hm e)]
          rfl

/-! ### the program's groups -/
/-- a row's numbers in a grouping's columns, as the program takes them -/
def grp (g : Nat) (vs : List Nat) : List Nat := (vs.zipIdx.filter fun x => bit g x.2).map (·.1)
/-- one row more -/
def putGrp (g : Nat) (gs : List (List Nat)) (vs : List Nat) : List (List Nat) := if grp g vs ∈ gs then gs else gs ++ [grp g vs]
def sizeM (rows : List (List Nat)) (g : Nat) : Nat := (rows.foldl (putGrp g) []).length
theorem grp_go (g : Nat) : ∀ (vs : List Nat) (k : Nat) (ws : List Nat), (∀ i, vs[i]? = ws[k + i]?) →
    ((vs.zipIdx k).filter fun x => bit g x.2).map (·.1) = ((List.range' k vs.length).filter fun i => g / 2 ^ i % 2 == 1).map fun i => ws.getD i 0
  | [], k, ws, _ => by simp
  | v :: r, k, ws, h => by
    have h0 := h 0
    have hr := grp_go g r (k + 1) ws (fun i => by
      have := h (i + 1)
      rw [show k + 1 + i = k + (i + 1) by omega, ← this]
      rfl)
    rw [List.zipIdx_cons, List.length_cons, List.range'_succ, List.filter_cons, List.filter_cons]
    have e : ws.getD k 0 = v := by
      rw [List.getD_eq_getElem?_getD, show ws[k]? = some v by rw [show k = k + 0 by omega, ← h0]; rfl]
      rfl
    by_cases hb : (g / 2 ^ k % 2 == 1) = true
    · rw [if_pos hb, if_pos (show bit g (v, k).2 = true from hb), List.map_cons, List.map_cons, hr, e]
    · rw [if_neg hb, if_neg (show ¬ bit g (v, k).2 = true from hb), hr]
theorem grp_key {n : Nat} {vs : List Nat} (g : Nat) (h : vs.length = n) : grp g vs = keyOf n g vs := by
  unfold grp keyOf columnsOf
  have e := grp_go g vs 0 vs (fun i => by rw [Nat.zero_add])
  rw [h] at e
  rw [List.range_eq_range']
  exact e
theorem key_length (n g : Nat) (vs : List Nat) : (keyOf n g vs).length = (columnsOf n g).length := by
  unfold keyOf
  rw [List.length_map]
/-- the two ways of grouping have as many groups -/
theorem size_go (n g : Nat) : ∀ (rs : List Row) (gs : List (List Nat)) (G : List Group), (∀ r ∈ rs, r.vs.length = n) → Sorted (columnsOf n g).length G → gs.length = G.length → (∀ k, k ∈ gs ↔ k ∈ G.map (·.key)) →
    ((rs.map (·.vs)).foldl (putGrp g) gs).length = ((rs.map fun r => (⟨keyOf n g r.vs, r.m, 1⟩ : Group)).foldl (fun r x => putGroup x r) G).length
  | [], _, _, _, _, hl, _ => hl
  | r :: rs, gs, G, h, hs, hl, hk => by
    rw [List.map_cons, List.map_cons, List.foldl_cons, List.foldl_cons]
    have hr := h r (List.mem_cons_self ..)
    have ek := grp_key g hr
    have hx : (⟨keyOf n g r.vs, r.m, 1⟩ : Group).key.length = (columnsOf n g).length := key_length n g r.vs
    refine size_go n g rs _ _ (fun q hq => h q (List.mem_cons_of_mem _ hq)) (put_sorted _ hx G hs) ?_ ?_
    · rw [put_length _ hx G hs]
      unfold putGrp
      by_cases hm : grp g r.vs ∈ gs
      · rw [if_pos hm, if_pos (by
          have := (hk _).mp hm
          rw [ek] at this
          exact this), hl]
      · rw [if_neg hm, if_neg (by
          intro q
          refine hm ((hk _).mpr ?_)
          rw [ek]
          exact q), List.length_append, hl]
        rfl
    · intro k
      rw [put_mem]
      unfold putGrp
      by_cases hm : grp g r.vs ∈ gs
      · rw [if_pos hm, hk]
        constructor
        · exact .inr
        · rintro (e | e)
          · rw [e]
            show keyOf n g r.vs ∈ _
            rw [← ek]
            exact (hk _).mp hm
          · exact e
      · rw [if_neg hm, List.mem_append, hk, List.mem_singleton, ek]
        constructor
        · rintro (e | e)
          · exact .inr e
          · exact .inl e
        · rintro (e | e)
          · exact .inr e
          · exact .inl e
theorem size_eq {t : Table} (g : Nat) (h : ∀ r ∈ t.rows, r.vs.length = width t) : sizeM (t.rows.map (·.vs)) g = sizeOf_ t g :=
  size_go (width t) g t.rows [] [] h ⟨(fun _ h => by cases h), List.Pairwise.nil⟩ rfl (fun k => by simp)

/-! ### costs -/
/-- the least of a list, or d -/
def minD (d : Nat) : List Nat → Nat
  | [] => d
  | x :: r => r.foldl min x
theorem foldl_min : ∀ (r : List Nat) (x : Nat), (r.foldl min x = x ∨ r.foldl min x ∈ r) ∧ r.foldl min x ≤ x ∧ ∀ y ∈ r, r.foldl min x ≤ y
  | [], x => ⟨.inl rfl, Nat.le_refl _, fun _ h => by cases h⟩
  | a :: r, x => by
    rw [List.foldl_cons]
    obtain ⟨h1, h2, h3⟩ := foldl_min r (min x a)
    refine ⟨?_, Nat.le_trans h2 (Nat.min_le_left ..), fun y hy => ?_⟩
    · rcases h1 with h1 | h1
      · rw [h1]
        rcases Nat.le_total x a with q | q
        · exact .inl (Nat.min_eq_left q)
        · rw [Nat.min_eq_right q]
          exact .inr (List.mem_cons_self ..)
      · exact .inr (List.mem_cons_of_mem _ h1)
    · rcases List.mem_cons.mp hy with e | e
      · rw [e]
        exact Nat.le_trans h2 (Nat.min_le_right ..)
      · exact h3 y e
theorem minD_mem {d : Nat} {l : List Nat} (h : l ≠ []) : minD d l ∈ l := by
  cases l with
  | nil => exact absurd rfl h
  | cons x r =>
    rcases (foldl_min r x).1 with e | e
    · show r.foldl min x ∈ _
      rw [e]
      exact List.mem_cons_self ..
    · exact List.mem_cons_of_mem _ e
theorem minD_le {d : Nat} {l : List Nat} {y : Nat} (h : y ∈ l) : minD d l ≤ y := by
  cases l with
  | nil => cases h
  | cons x r =>
    rcases List.mem_cons.mp h with e | e
    · rw [e]
      exact (foldl_min r x).2.1
    · exact (foldl_min r x).2.2 y e
/-- all that g has, c has -/
def subs (g c : Nat) : Bool := decide (g &&& c = g)
def someOf (cs ss : List Nat) (s g : Nat) : List Nat := ((cs.zip ss).zipIdx.filter fun x => bit s x.2 && subs g x.1.1).map (·.1.2)
theorem subs_iff (g c : Nat) : subs g c = true ↔ ∀ i, g.testBit i = true → c.testBit i = true := by
  unfold subs
  rw [decide_eq_true_eq]
  constructor
  · intro h i hi
    have e : (g &&& c).testBit i = g.testBit i := by rw [h]
    rw [Nat.testBit_and, hi] at e
    simpa using e
  · intro h
    refine Nat.eq_of_testBit_eq fun i => ?_
    rw [Nat.testBit_and]
    cases hg : g.testBit i with
    | true => rw [h i hg]; rfl
    | false => rfl
theorem mem_columns {n g i : Nat} : i ∈ columnsOf n g ↔ i < n ∧ g.testBit i = true := by
  unfold columnsOf
  rw [List.mem_filter, List.mem_range]
  show i < n ∧ bit g i = true ↔ _
  rw [bit_testBit]
theorem canFrom_iff {n g c : Nat} (hg : g < 2 ^ n) : canFrom n c g = subs g c := by
  have key : canFrom n c g = true ↔ subs g c = true := by
    unfold canFrom
    rw [subs_iff, List.all_eq_true]
    constructor
    · intro h i hi
      have hin : i < n := by
        apply Classical.byContradiction
        intro hlt
        have : g.testBit i = false := Nat.testBit_lt_two_pow (Nat.lt_of_lt_of_le hg (Nat.pow_le_pow_right (by decide) (by omega)))
        rw [this] at hi
        cases hi
      have := h i (mem_columns.mpr ⟨hin, hi⟩)
      rw [List.contains_iff_mem] at this
      exact (mem_columns.mp this).2
    · intro h i hi
      rw [List.contains_iff_mem]
      obtain ⟨h1, h2⟩ := mem_columns.mp hi
      exact mem_columns.mpr ⟨h1, h i h2⟩
  cases h : canFrom n c g with
  | true => exact (key.mp h).symm
  | false =>
    cases h2 : subs g c with
    | false => rfl
    | true =>
      have h3 := key.mpr h2
      rw [h] at h3
      exact h3
theorem reader_go (t : Table) (g : Nat) : ∀ (l : List Nat) (b : Option Nat),
    (∀ v, b = some v → canFrom (width t) v g = true) →
    match l.foldl (better t g) b with
    | none => b = none ∧ ∀ v ∈ l, canFrom (width t) v g = false
    | some v => canFrom (width t) v g = true ∧ (b = some v ∨ v ∈ l) ∧ (∀ u, b = some u → sizeOf_ t v ≤ sizeOf_ t u) ∧ ∀ u ∈ l, canFrom (width t) u g = true → sizeOf_ t v ≤ sizeOf_ t u
  | [], b, hb => by
    rw [List.foldl_nil]
    cases b with
    | none => exact ⟨rfl, fun _ h => by cases h⟩
    | some v => exact ⟨hb v rfl, .inl rfl, fun u e => by injection e with e; rw [e]; exact Nat.le_refl _, fun _ h => by cases h⟩
  | w :: l, b, hb => by
    rw [List.foldl_cons]
    have ih := reader_go t g l (better t g b w) (by
      intro v hv
      unfold better at hv
      split at hv
      · exact hb v hv
      · rename_i hc
        cases b with
        | none =>
          injection hv with e
          rw [← e]
          simpa using hc
        | some u =>
          dsimp only at hv
          split at hv
          · injection hv with e
            rw [← e]
            simpa using hc
          · exact hb v (by rw [← hv]))
    revert ih
    cases hf : l.foldl (better t g) (better t g b w) with
    | none =>
      rintro ⟨h1, h2⟩
      show _ ∧ _
      unfold better at h1
      split at h1
      · rename_i hc
        exact ⟨h1, fun v hv => by
          rcases List.mem_cons.mp hv with e | e
          · rw [e]; exact hc
          · exact h2 v e⟩
      · cases b with
        | none => cases h1
        | some u =>
          dsimp only at h1
          split at h1 <;> cases h1
    | some v =>
      rintro ⟨h1, h2, h3, h4⟩
      show _ ∧ _ ∧ _ ∧ _
      unfold better at h2 h3
      cases hc : canFrom (width t) w g with
      | false =>
        rw [if_pos hc] at h2 h3
        refine ⟨h1, ?_, h3, fun u hu hcu => ?_⟩
        · rcases h2 with e | e
          · exact .inl e
          · exact .inr (List.mem_cons_of_mem _ e)
        · rcases List.mem_cons.mp hu with e | e
          · rw [e, hc] at hcu
            cases hcu
          · exact h4 u e hcu
      | true =>
        rw [if_neg (by rw [hc]; decide)] at h2 h3
        cases b with
        | none =>
          dsimp only at h2 h3
          refine ⟨h1, ?_, (fun u e => by cases e), fun u hu hcu => ?_⟩
          · rcases h2 with e | e
            · injection e with e
              rw [e]
              exact .inr (List.mem_cons_self ..)
            · exact .inr (List.mem_cons_of_mem _ e)
          · rcases List.mem_cons.mp hu with e | e
            · rw [e]
              exact h3 w rfl
            · exact h4 u e hcu
        | some u0 =>
          dsimp only at h2 h3
          by_cases hlt : sizeOf_ t w < sizeOf_ t u0
          · rw [if_pos hlt] at h2 h3
            have hw := h3 w rfl
            refine ⟨h1, ?_, (fun u e => by injection e with e; rw [← e]; omega), fun u hu hcu => ?_⟩
            · rcases h2 with e | e
              · injection e with e
                rw [e]
                exact .inr (List.mem_cons_self ..)
              · exact .inr (List.mem_cons_of_mem _ e)
            · rcases List.mem_cons.mp hu with e | e
              · rw [e]
                exact hw
              · exact h4 u e hcu
          · rw [if_neg hlt] at h2 h3
            have hw := h3 u0 rfl
            refine ⟨h1, ?_, (fun u e => by injection e with e; rw [← e]; exact hw), fun u hu hcu => ?_⟩
            · rcases h2 with e | e
              · exact .inl e
              · exact .inr (List.mem_cons_of_mem _ e)
            · rcases List.mem_cons.mp hu with e | e
              · rw [e]
                omega
              · exact h4 u e hcu
theorem mem_setOf {cs : List Nat} {s c : Nat} : c ∈ setOf cs s ↔ ∃ i, cs[i]? = some c ∧ bit s i = true := by
  unfold setOf
  rw [List.mem_map]
  constructor
  · rintro ⟨⟨a, i⟩, h, e⟩
    rw [List.mem_filter, List.mem_zipIdx_iff_getElem?] at h
    exact ⟨i, by rw [← e]; exact h.1, h.2⟩
  · rintro ⟨i, h1, h2⟩
    exact ⟨(c, i), List.mem_filter.mpr ⟨List.mem_zipIdx_iff_getElem?.mpr h1, h2⟩, rfl⟩
theorem mem_someOf {cs ss : List Nat} {s g y : Nat} : y ∈ someOf cs ss s g ↔ ∃ i c, cs[i]? = some c ∧ ss[i]? = some y ∧ bit s i = true ∧ subs g c = true := by
  unfold someOf
  rw [List.mem_map]
  constructor
  · rintro ⟨⟨⟨a, b⟩, i⟩, h, e⟩
    rw [List.mem_filter, List.mem_zipIdx_iff_getElem?] at h
    obtain ⟨h1, h2⟩ := h
    rw [Bool.and_eq_true] at h2
    dsimp only at h1 h2 e
    rw [List.getElem?_zip_eq_some] at h1
    exact ⟨i, a, h1.1, by rw [← e]; exact h1.2, h2.1, h2.2⟩
  · rintro ⟨i, c, h1, h2, h3, h4⟩
    exact ⟨((c, y), i), List.mem_filter.mpr ⟨List.mem_zipIdx_iff_getElem?.mpr (List.getElem?_zip_eq_some.mpr ⟨h1, h2⟩), by rw [Bool.and_eq_true]; exact ⟨h3, h4⟩⟩, rfl⟩
theorem cost_eq {t : Table} {cs : List Nat} {s g : Nat} (hc : ∀ c ∈ cs, c < 2 ^ width t) (hg : g < 2 ^ width t) :
    minD t.rows.length (someOf cs (cs.map (sizeOf_ t)) s g) = costOf t (setOf cs s) g := by
  have R := reader_go t g (sortedKept t (setOf cs s)) none (fun _ h => by cases h)
  have ms : ∀ v, v ∈ sortedKept t (setOf cs s) ↔ v ∈ setOf cs s := by
    intro v
    unfold sortedKept groupings
    rw [List.mem_filter, List.mem_range, List.contains_iff_mem]
    constructor
    · exact fun h => h.2
    · intro h
      refine ⟨?_, h⟩
      obtain ⟨i, e, _⟩ := mem_setOf.mp h
      exact hc v (List.mem_of_getElem? e)
  have my : ∀ y, y ∈ someOf cs (cs.map (sizeOf_ t)) s g ↔ ∃ v ∈ sortedKept t (setOf cs s), canFrom (width t) v g = true ∧ y = sizeOf_ t v := by
    intro y
    rw [mem_someOf]
    constructor
    · rintro ⟨i, c, h1, h2, h3, h4⟩
      refine ⟨c, (ms c).mpr (mem_setOf.mpr ⟨i, h1, h3⟩), by rw [canFrom_iff hg]; exact h4, ?_⟩
      rw [List.getElem?_map, h1] at h2
      exact (Option.some.inj h2).symm
    · rintro ⟨v, hv, h4, e⟩
      obtain ⟨i, h1, h3⟩ := mem_setOf.mp ((ms v).mp hv)
      exact ⟨i, v, h1, by rw [List.getElem?_map, h1, e]; rfl, h3, by rw [← canFrom_iff hg]; exact h4⟩
  unfold costOf reader
  revert R
  cases hf : (sortedKept t (setOf cs s)).foldl (better t g) none with
  | none =>
    rintro ⟨_, h⟩
    have e : someOf cs (cs.map (sizeOf_ t)) s g = [] := by
      apply List.eq_nil_iff_forall_not_mem.mpr
      intro y hy
      obtain ⟨v, hv, h4, _⟩ := (my y).mp hy
      rw [h v hv] at h4
      cases h4
    rw [e]
    rfl
  | some v =>
    rintro ⟨h1, h2, _, h4⟩
    have hv : v ∈ sortedKept t (setOf cs s) := by
      rcases h2 with e | e
      · cases e
      · exact e
    show _ = sizeOf_ t v
    have hin := (my (sizeOf_ t v)).mpr ⟨v, hv, h1, rfl⟩
    have hne : someOf cs (cs.map (sizeOf_ t)) s g ≠ [] := fun e => by
      rw [e] at hin
      cases hin
    obtain ⟨u, hu, hcu, eu⟩ := (my _).mp (minD_mem (d := t.rows.length) hne)
    have a := minD_le (d := t.rows.length) hin
    have b := h4 u hu hcu
    omega
end KA
end
section
set_option autoImplicit false
/-! Mathematics 2: goings, plans, the best ones. -/
namespace KA
open VamvsBase
open Vamvsa (Table Row Ask Grouping width sizeOf_ costOf)
open Vamvse (setOf setsOf roomOf fitting dayCost goCost buildCost planBy planCost chooseBy tableBy bestPlan Times Plan Cands)

/-! ### sums over enumerated lists -/
theorem room_go (f : Nat → Nat) (s : Nat) : ∀ (cs : List Nat) (k : Nat), ((((cs.map f).zipIdx k).filter fun x => bit s x.2).map (·.1)).sum = ((((cs.zipIdx k).filter fun x => bit s x.2).map (·.1)).map f).sum
  | [], _ => rfl
  | c :: cs, k => by
    have ih := room_go f s cs (k + 1)
    rw [List.map_cons, List.zipIdx_cons, List.zipIdx_cons, List.filter_cons, List.filter_cons]
    by_cases h : bit s k = true
    · rw [if_pos h, if_pos h]
      simp only [List.map_cons, List.sum_cons, ih]
    · rw [if_neg h, if_neg h, ih]
/-- the sizes of a set's groupings -/
def roomM (ss : List Nat) (s : Nat) : List Nat := (ss.zipIdx.filter fun x => bit s x.2).map (·.1)
theorem room_eq (t : Table) (cs : List Nat) (s : Nat) : (roomM (cs.map (sizeOf_ t)) s).sum = roomOf t cs s := room_go (sizeOf_ t) s cs 0
/-- what goes on from one set to another -/
def goingM (f : Nat → Nat) (cs : List Nat) (old new : Nat) : List Nat := (cs.zipIdx.filter fun x => bit new x.2 && !bit old x.2).map fun x => f x.1
theorem going_go (P : Nat → Bool) (old new : Nat) : ∀ (cs : List Nat) (k : Nat), (∀ (i : Nat) (c : Nat), cs[i]? = some c → P c = bit old (k + i)) →
    (((cs.zipIdx k).filter fun x => bit new x.2).map (·.1)).filter (fun c => !P c) = ((cs.zipIdx k).filter fun x => bit new x.2 && !bit old x.2).map (·.1)
  | [], _, _ => rfl
  | c :: cs, k, h => by
    have h0 : P c = bit old k := h 0 c rfl
    have ih := going_go P old new cs (k + 1) (fun i x hx => by
      rw [h (i + 1) x hx]
      congr 1
      omega)
    rw [List.zipIdx_cons, List.filter_cons, List.filter_cons]
    by_cases hn : bit new k = true
    · rw [if_pos hn]
      cases hold : bit old k with
      | true =>
        rw [if_neg (by simp), List.map_cons, List.filter_cons, if_neg (by rw [h0, hold]; decide), ih]
      | false =>
        rw [if_pos (by simpa using hn), List.map_cons, List.map_cons, List.filter_cons, if_pos (by rw [h0, hold]; decide), ih]
    · rw [if_neg hn, if_neg (by
        show ¬ (bit new k && !bit old k) = true
        rw [Bool.and_eq_true]
        exact fun q => hn q.1), ih]
theorem nodup_ix {l : List Nat} (hN : l.Nodup) {i j : Nat} {x : Nat} (a : l[i]? = some x) (b : l[j]? = some x) : i = j := by
  obtain ⟨h1, e1⟩ := List.getElem?_eq_some_iff.mp a
  obtain ⟨h2, e2⟩ := List.getElem?_eq_some_iff.mp b
  exact (List.getElem_inj hN).mp (e1.trans e2.symm)
theorem going_eq (t : Table) {cs : List Nat} (hN : cs.Nodup) (old new : Nat) : (goingM (fun c => costOf t (setOf cs old) c) cs old new).sum = goCost t cs old new := by
  have e := going_go (fun c => (setOf cs old).contains c) old new cs 0 (fun i c hc => by
    rw [Nat.zero_add]
    cases hb : bit old i with
    | true => exact List.contains_iff_mem.mpr (mem_setOf.mpr ⟨i, hc, hb⟩)
    | false =>
      cases hq : (setOf cs old).contains c with
      | false => rfl
      | true =>
        obtain ⟨j, h1, h2⟩ := mem_setOf.mp (List.contains_iff_mem.mp hq)
        rw [nodup_ix hN hc h1, h2] at hb
        cases hb)
  unfold goCost goingM
  show _ = (((setOf cs new).filter fun g => !(setOf cs old).contains g).map (buildCost t cs old)).sum
  have e2 : (setOf cs new).filter (fun g => !(setOf cs old).contains g) = ((cs.zipIdx).filter fun x => bit new x.2 && !bit old x.2).map (·.1) := e
  rw [e2, List.map_map]
  rfl

/-! ### a plan's cost -/
def planStep (t : Table) (cs : Cands) (b : Nat × Nat) (x : Nat × Times) : Nat × Nat := (b.1 + (goCost t cs b.2 x.1 + dayCost t cs x.2 x.1), x.1)
theorem plan_go (t : Table) (cs : Cands) : ∀ (p : List Nat) (days : List Times) (f b : Nat), ((p.zip days).foldl (planStep t cs) (f, b)).1 = f + planBy t cs b days p
  | [], days, f, b => by cases days <;> rfl
  | s :: p, [], f, b => rfl
  | s :: p, ks :: r, f, b => by
    rw [List.zip_cons_cons, List.foldl_cons]
    show ((p.zip r).foldl (planStep t cs) (f + (goCost t cs b s + dayCost t cs ks s), s)).1 = _
    rw [plan_go t cs p r]
    show _ = f + (goCost t cs b s + (dayCost t cs ks s + planBy t cs s r p))
    omega
theorem plan_eq (t : Table) (cs : Cands) (p : List Nat) (days : List Times) : ((p.zip days).foldl (planStep t cs) (0, 0)).1 = planCost t cs days p := by
  rw [plan_go, Nat.zero_add]
  rfl

/-! ### the first least one -/
def pickMin (f : Nat → Nat) : Nat → List Nat → Nat
  | s, [] => s
  | s, x :: r => if f x < f s then pickMin f x r else pickMin f s r
theorem pickMin_mem (f : Nat → Nat) : ∀ (r : List Nat) (s : Nat), pickMin f s r = s ∨ pickMin f s r ∈ r
  | [], s => .inl rfl
  | x :: r, s => by
    unfold pickMin
    split
    · rcases pickMin_mem f r x with e | e
      · rw [e]
        exact .inr (List.mem_cons_self ..)
      · exact .inr (List.mem_cons_of_mem _ e)
    · rcases pickMin_mem f r s with e | e
      · exact .inl e
      · exact .inr (List.mem_cons_of_mem _ e)
theorem pickMin_le (f : Nat → Nat) : ∀ (r : List Nat) (s : Nat), f (pickMin f s r) ≤ f s ∧ ∀ x ∈ r, f (pickMin f s r) ≤ f x
  | [], s => ⟨Nat.le_refl _, fun _ h => by cases h⟩
  | x :: r, s => by
    unfold pickMin
    split
    · rename_i h
      obtain ⟨h1, h2⟩ := pickMin_le f r x
      refine ⟨by omega, fun y hy => ?_⟩
      rcases List.mem_cons.mp hy with e | e
      · rw [e]
        exact h1
      · exact h2 y e
    · rename_i h
      obtain ⟨h1, h2⟩ := pickMin_le f r s
      refine ⟨h1, fun y hy => ?_⟩
      rcases List.mem_cons.mp hy with e | e
      · rw [e]
        omega
      · exact h2 y e
/-- the first place that has the least -/
theorem pickMin_at (f : Nat → Nat) : ∀ (r : List Nat) (s : Nat), ∃ j : Nat, (s :: r)[j]? = some (pickMin f s r) ∧ ∀ (m : Nat) (z : Nat), m < j → (s :: r)[m]? = some z → f (pickMin f s r) < f z
  | [], s => ⟨0, rfl, fun m z h => absurd h (Nat.not_lt_zero m)⟩
  | x :: r, s => by
    unfold pickMin
    split
    · rename_i h
      obtain ⟨j, h1, h2⟩ := pickMin_at f r x
      refine ⟨j + 1, h1, fun m z hm hz => ?_⟩
      cases m with
      | zero =>
        have e : s = z := Option.some.inj hz
        rw [← e]
        exact Nat.lt_of_le_of_lt (pickMin_le f r x).1 h
      | succ m => exact h2 m z (by omega) hz
    · rename_i h
      obtain ⟨j, h1, h2⟩ := pickMin_at f r s
      cases j with
      | zero => exact ⟨0, h1, fun m z hm => absurd hm (Nat.not_lt_zero m)⟩
      | succ j =>
        refine ⟨j + 2, h1, fun m z hm hz => ?_⟩
        cases m with
        | zero => exact h2 0 z (by omega) hz
        | succ m =>
          cases m with
          | zero =>
            have e : x = z := Option.some.inj hz
            have h0 := h2 0 s (by omega) rfl
            rw [← e]
            omega
          | succ m => exact h2 (m + 1) z (by omega) hz
/-- the least value -/
theorem minD_pick (d : Nat) (f : Nat → Nat) (s : Nat) (r : List Nat) : minD d ((s :: r).map f) = f (pickMin f s r) := by
  obtain ⟨h1, h2⟩ := pickMin_le f r s
  have hm : f (pickMin f s r) ∈ (s :: r).map f := by
    refine List.mem_map.mpr ⟨pickMin f s r, ?_, rfl⟩
    rcases pickMin_mem f r s with e | e
    · rw [e]
      exact List.mem_cons_self ..
    · exact List.mem_cons_of_mem _ e
  have a := minD_le (d := d) hm
  have hne : (s :: r).map f ≠ [] := by simp
  obtain ⟨x, hx, e⟩ := List.mem_map.mp (minD_mem (d := d) hne)
  rcases List.mem_cons.mp hx with q | q
  · rw [q] at e
    omega
  · have := h2 x q
    omega

/-! ### the best plan -/
section
variable (t : Table) (cs : Cands) (f0 : Nat) (fr : List Nat)
/-- what a day's choice costs, from the sets f0 :: fr -/
def stepCost (ks : Times) (later : Nat → Nat) (b s : Nat) : Nat := goCost t cs b s + dayCost t cs ks s + later s
def restM : List Times → Nat → Nat
  | [], _ => 0
  | ks :: r, b => minD 0 ((f0 :: fr).map (stepCost t cs ks (restM r) b))
def planM : List Times → Nat → List Nat
  | [], _ => []
  | ks :: r, b => let s := pickMin (stepCost t cs ks (restM t cs f0 fr r) b) f0 fr; s :: planM r s
theorem choose_go (ks : Times) (later : List (Nat × Plan)) (old : Nat) : ∀ (l : List Nat) (s : Nat),
    l.foldl (fun (b : Option (Nat × Plan)) s => let x := later.getD s (0, []); let c := goCost t cs old s + (dayCost t cs ks s + x.1)
      match b with
        | none => some (c, s :: x.2)
        | some y => if c < y.1 then some (c, s :: x.2) else some y) (some (stepCost t cs ks (fun s => (later.getD s (0, [])).1) old s, s :: (later.getD s (0, [])).2)) =
      some (stepCost t cs ks (fun s => (later.getD s (0, [])).1) old (pickMin (stepCost t cs ks (fun s => (later.getD s (0, [])).1) old) s l), pickMin (stepCost t cs ks (fun s => (later.getD s (0, [])).1) old) s l :: (later.getD (pickMin (stepCost t cs ks (fun s => (later.getD s (0, [])).1) old) s l) (0, [])).2)
  | [], s => rfl
  | x :: l, s => by
    rw [List.foldl_cons]
    have e : ∀ z, goCost t cs old z + (dayCost t cs ks z + (later.getD z (0, [])).1) = stepCost t cs ks (fun s => (later.getD s (0, [])).1) old z := fun z =>
      (Nat.add_assoc _ _ _).symm
    dsimp only
    rw [e x]
    unfold pickMin
    by_cases h : stepCost t cs ks (fun s => (later.getD s (0, [])).1) old x < stepCost t cs ks (fun s => (later.getD s (0, [])).1) old s
    · rw [if_pos h, if_pos h]
      exact choose_go ks later old l x
    · rw [if_neg h, if_neg h]
      exact choose_go ks later old l s
theorem choose_eq (ks : Times) (later : List (Nat × Plan)) (old : Nat) : chooseBy t cs (f0 :: fr) ks later old =
    (stepCost t cs ks (fun s => (later.getD s (0, [])).1) old (pickMin (stepCost t cs ks (fun s => (later.getD s (0, [])).1) old) f0 fr), pickMin (stepCost t cs ks (fun s => (later.getD s (0, [])).1) old) f0 fr :: (later.getD (pickMin (stepCost t cs ks (fun s => (later.getD s (0, [])).1) old) f0 fr) (0, [])).2) := by
  unfold chooseBy
  rw [List.foldl_cons]
  have e : goCost t cs old f0 + (dayCost t cs ks f0 + (later.getD f0 (0, [])).1) = stepCost t cs ks (fun s => (later.getD s (0, [])).1) old f0 :=
    (Nat.add_assoc _ _ _).symm
  dsimp only
  rw [e]
  exact congrArg (fun o : Option (Nat × Plan) => o.getD (0, [])) (choose_go t cs ks later old fr f0)
theorem table_at (hf : ∀ s ∈ f0 :: fr, s < 2 ^ cs.length) : ∀ (days : List Times) (b : Nat), b < 2 ^ cs.length →
    (tableBy t cs (f0 :: fr) days).getD b (0, []) = (restM t cs f0 fr days b, planM t cs f0 fr days b)
  | [], b, hb => by
    unfold tableBy
    rw [List.getD_eq_getElem?_getD, List.getElem?_map]
    unfold setsOf
    rw [List.getElem?_range hb]
    rfl
  | ks :: r, b, hb => by
    have ih := table_at hf r
    unfold tableBy
    show ((setsOf cs).map (chooseBy t cs (f0 :: fr) ks (tableBy t cs (f0 :: fr) r))).getD b (0, []) = _
    rw [List.getD_eq_getElem?_getD, List.getElem?_map]
    unfold setsOf
    rw [List.getElem?_range hb]
    show chooseBy t cs (f0 :: fr) ks (tableBy t cs (f0 :: fr) r) b = _
    rw [choose_eq]
    have e : ∀ s ∈ f0 :: fr, stepCost t cs ks (fun s => ((tableBy t cs (f0 :: fr) r).getD s (0, [])).1) b s = stepCost t cs ks (restM t cs f0 fr r) b s := fun s hs => by
      unfold stepCost
      dsimp only
      rw [ih s (hf s hs)]
    have pk : ∀ (l : List Nat) (s : Nat), (∀ z ∈ s :: l, stepCost t cs ks (fun s => ((tableBy t cs (f0 :: fr) r).getD s (0, [])).1) b z = stepCost t cs ks (restM t cs f0 fr r) b z) →
        pickMin (stepCost t cs ks (fun s => ((tableBy t cs (f0 :: fr) r).getD s (0, [])).1) b) s l = pickMin (stepCost t cs ks (restM t cs f0 fr r) b) s l := by
      intro l
      induction l with
      | nil => exact fun _ _ => rfl
      | cons x l ihl =>
        intro s hz
        unfold pickMin
        rw [hz s (List.mem_cons_self ..), hz x (List.mem_cons_of_mem _ (List.mem_cons_self ..))]
        split
        · exact ihl x fun z hq => hz z (List.mem_cons_of_mem _ hq)
        · refine ihl s fun z hq => hz z ?_
          rcases List.mem_cons.mp hq with q | q
          · rw [q]
            exact List.mem_cons_self ..
          · exact List.mem_cons_of_mem _ (List.mem_cons_of_mem _ q)
    have hp := pk fr f0 e
    rw [hp]
    have hm : pickMin (stepCost t cs ks (restM t cs f0 fr r) b) f0 fr ∈ f0 :: fr := by
      rcases pickMin_mem (stepCost t cs ks (restM t cs f0 fr r) b) fr f0 with q | q
      · rw [q]
        exact List.mem_cons_self ..
      · exact List.mem_cons_of_mem _ q
    rw [e _ hm, ih _ (hf _ hm)]
    show _ = (minD 0 ((f0 :: fr).map (stepCost t cs ks (restM t cs f0 fr r) b)), _)
    rw [minD_pick]
    rfl
end
theorem bit_zero (i : Nat) : bit 0 i = false := by
  unfold bit
  rw [Nat.zero_div]
  rfl
theorem setOf_zero (cs : Cands) : setOf cs 0 = [] := by
  apply List.eq_nil_iff_forall_not_mem.mpr
  intro c h
  obtain ⟨i, _, hb⟩ := mem_setOf.mp h
  rw [bit_zero] at hb
  cases hb
/-- the empty set fits always, and stands first -/
theorem fitting_cons (t : Table) (cs : Cands) (room : Nat) : ∃ r, fitting t cs room = 0 :: r := by
  unfold fitting setsOf
  obtain ⟨m, hm⟩ : ∃ m, 2 ^ cs.length = m + 1 := ⟨2 ^ cs.length - 1, by have := Nat.two_pow_pos cs.length; omega⟩
  rw [hm, List.range_succ_eq_map, List.filter_cons, if_pos (by
    unfold roomOf
    rw [setOf_zero]
    simp)]
  exact ⟨_, rfl⟩
theorem fitting_lt {t : Table} {cs : Cands} {room s : Nat} (h : s ∈ fitting t cs room) : s < 2 ^ cs.length := by
  unfold fitting setsOf at h
  rw [List.mem_filter, List.mem_range] at h
  exact h.1
theorem best_eq {t : Table} {cs : Cands} {room : Nat} {r : List Nat} (h : fitting t cs room = 0 :: r) (days : List Times) : bestPlan t cs room days = (restM t cs 0 r days 0, planM t cs 0 r days 0) := by
  unfold bestPlan
  rw [h]
  have e := table_at t cs 0 r (fun s hs => fitting_lt (t := t) (room := room) (by rw [h]; exact hs)) days 0 (Nat.two_pow_pos _)
  rw [← e]
  cases (tableBy t cs (0 :: r) days) <;> rfl
/-- the same set on all days -/
theorem always_go (f : Nat → Nat) : ∀ (l : List Nat) (s : Nat), (l.map fun s => (f s, s)).foldl (fun (b : Nat × Nat) x => if x.1 < b.1 then x else b) (f s, s) = (f (pickMin f s l), pickMin f s l)
  | [], s => rfl
  | x :: l, s => by
    rw [List.map_cons, List.foldl_cons]
    unfold pickMin
    by_cases h : f x < f s
    · rw [if_pos h, if_pos h]
      exact always_go f l x
    · rw [if_neg h, if_neg h]
      exact always_go f l s
theorem always_eq {t : Table} {cs : Cands} {room : Nat} {r : List Nat} (h : fitting t cs room = 0 :: r) (days : List Times) :
    Vamvse.always t cs room days = ((fun s => planCost t cs days (days.map fun _ => s)) (pickMin (fun s => planCost t cs days (days.map fun _ => s)) 0 r), pickMin (fun s => planCost t cs days (days.map fun _ => s)) 0 r) := by
  unfold Vamvse.always
  rw [h]
  have e := always_go (fun s => planCost t cs days (days.map fun _ => s)) (0 :: r) 0
  have e2 : pickMin (fun s => planCost t cs days (days.map fun _ => s)) 0 (0 :: r) = pickMin (fun s => planCost t cs days (days.map fun _ => s)) 0 r := by
    show (if _ < _ then _ else _) = _
    rw [if_neg (Nat.lt_irrefl _)]
  rw [e2] at e
  exact e
end KA
end
section
set_option autoImplicit false
/-! Mathematics 3: the pieces. -/
namespace KA
open VamvsBase
open Vamvsa (Table)
open Vamvse (meets marks intoFracs bestAt valueAt putPiece Piece LARGEST lineOf pieces fitting)

/-! ### fractions from 0 on, in lowest terms -/
structure Red (x : Frac) : Prop where
  den : 0 < x.den
  num : 0 ≤ x.num
  co : Nat.gcd x.num.natAbs x.den = 1
theorem red_whole (n : Nat) : Red (whole (n : Int)) := ⟨Nat.one_pos, Int.natCast_nonneg n, Nat.gcd_one_right _⟩
/-- frac of a nonnegative over a positive -/
theorem frac_nat (a b : Nat) (hb : 0 < b) : frac (a : Int) b = ⟨((a / Nat.gcd a b : Nat) : Int), b / Nat.gcd a b⟩ := by
  have hg : 0 < Nat.gcd a b := Nat.gcd_pos_of_pos_right a hb
  unfold frac
  show (if Nat.gcd a b = 0 then _ else _) = _
  rw [if_neg (by omega)]
  rfl
theorem red_frac (a b : Nat) (hb : 0 < b) : Red (frac (a : Int) b) := by
  have hg : 0 < Nat.gcd a b := Nat.gcd_pos_of_pos_right a hb
  rw [frac_nat a b hb]
  refine ⟨Nat.div_pos (Nat.le_of_dvd hb (Nat.gcd_dvd_right a b)) hg, Int.natCast_nonneg _, ?_⟩
  show Nat.gcd (a / Nat.gcd a b) (b / Nat.gcd a b) = 1
  exact Nat.gcd_div_gcd_div_gcd_of_pos_right hb
theorem frac_eq (a b : Nat) (hb : 0 < b) : (frac (a : Int) b).num * (b : Int) = (a : Int) * ((frac (a : Int) b).den : Int) := by
  rw [frac_nat a b hb]
  show ((a / Nat.gcd a b : Nat) : Int) * (b : Int) = (a : Int) * ((b / Nat.gcd a b : Nat) : Int)
  obtain ⟨c, hc⟩ := Nat.gcd_dvd_left a b
  obtain ⟨d, hd⟩ := Nat.gcd_dvd_right a b
  have hg : 0 < Nat.gcd a b := Nat.gcd_pos_of_pos_right a hb
  have e1 : a / Nat.gcd a b = c := Nat.div_eq_of_eq_mul_right hg hc
  have e2 : b / Nat.gcd a b = d := Nat.div_eq_of_eq_mul_right hg hd
  rw [e1, e2]
  have : c * b = a * d := by
    rw [Nat.mul_comm c b]
    have h1 : b * c = Nat.gcd a b * d * c := congrArg (· * c) hd
    have h2 : a * d = Nat.gcd a b * c * d := congrArg (· * d) hc
    rw [h1, h2, Nat.mul_assoc, Nat.mul_assoc, Nat.mul_comm d c]
  exact_mod_cast this
/-- as two naturals -/
theorem Red.nat {x : Frac} (h : Red x) : ∃ p : Nat, x.num = (p : Int) := ⟨x.num.toNat, (Int.toNat_of_nonneg h.num).symm⟩
theorem less_iff {x y : Frac} : less x y = true ↔ x.num * (y.den : Int) < y.num * (x.den : Int) := by
  unfold less
  rw [decide_eq_true_eq]
theorem red_eq {x y : Frac} (hx : Red x) (hy : Red y) (h : x.num * (y.den : Int) = y.num * (x.den : Int)) : x = y := by
  obtain ⟨p, hp⟩ := hx.nat
  obtain ⟨q, hq⟩ := hy.nat
  obtain ⟨xn, xd⟩ := x
  obtain ⟨yn, yd⟩ := y
  dsimp only at hp hq h
  subst hp hq
  have h' : p * yd = q * xd := by exact_mod_cast h
  have c1 : Nat.gcd p xd = 1 := hx.co
  have c2 : Nat.gcd q yd = 1 := hy.co
  have d1 : xd ∣ yd := by
    have : xd ∣ p * yd := ⟨q, by rw [h', Nat.mul_comm]⟩
    exact Nat.Coprime.dvd_of_dvd_mul_left (show Nat.Coprime xd p by rw [Nat.coprime_comm]; exact c1) this
  have d2 : yd ∣ xd := by
    have : yd ∣ q * xd := ⟨p, by rw [← h', Nat.mul_comm]⟩
    exact Nat.Coprime.dvd_of_dvd_mul_left (show Nat.Coprime yd q by rw [Nat.coprime_comm]; exact c2) this
  have e : xd = yd := Nat.dvd_antisymm d1 d2
  subst e
  have hd : 0 < xd := hx.den
  have e2 : p = q := Nat.eq_of_mul_eq_mul_right hd h'
  rw [e2]
theorem lt_trans3 {x y z : Frac} (hy : 0 < y.den) (hx : 0 < x.den) (hz : 0 < z.den) (h1 : less x y = true) (h2 : less y z = true) : less x z = true := by
  rw [less_iff] at *
  have a : (0 : Int) < x.den := by exact_mod_cast hx
  have b : (0 : Int) < y.den := by exact_mod_cast hy
  have c : (0 : Int) < z.den := by exact_mod_cast hz
  have k1 := Int.mul_lt_mul_of_pos_right h1 c
  have k2 := Int.mul_lt_mul_of_pos_right h2 a
  have e : x.num * y.den * z.den < z.num * x.den * y.den := by
    have q1 : y.num * x.den * z.den = y.num * z.den * x.den := by rw [Int.mul_right_comm]
    have q2 : z.num * y.den * x.den = z.num * x.den * y.den := by rw [Int.mul_right_comm]
    omega
  have e' : x.num * z.den * y.den < z.num * x.den * y.den := by
    rw [Int.mul_right_comm] at e
    exact e
  exact Int.lt_of_mul_lt_mul_right e' (Int.le_of_lt b)
theorem less_irrefl (x : Frac) : less x x = false := by
  cases h : less x x with
  | false => rfl
  | true =>
    rw [less_iff] at h
    exact absurd h (Int.lt_irrefl _)
theorem less_asymm {x y : Frac} (h : less x y = true) : less y x = false := by
  cases h2 : less y x with
  | false => rfl
  | true =>
    rw [less_iff] at h h2
    omega
theorem less_total {x y : Frac} (hx : Red x) (hy : Red y) (hn : x ≠ y) (h : less x y = false) : less y x = true := by
  have h' : ¬ x.num * (y.den : Int) < y.num * (x.den : Int) := fun q => by
    rw [less_iff.mpr q] at h
    cases h
  rw [less_iff]
  have : x.num * (y.den : Int) ≠ y.num * (x.den : Int) := fun q => hn (red_eq hx hy q)
  omega
/-- not more than -/
def leq (x y : Frac) : Prop := less y x = false
theorem leq_iff {x y : Frac} : leq x y ↔ x.num * (y.den : Int) ≤ y.num * (x.den : Int) := by
  unfold leq
  constructor
  · intro h
    apply Classical.byContradiction
    intro q
    rw [less_iff.mpr (by omega)] at h
    cases h
  · intro h
    cases q : less y x with
    | false => rfl
    | true =>
      rw [less_iff] at q
      omega
theorem lt_leq {x y z : Frac} (hx : 0 < x.den) (hy : 0 < y.den) (hz : 0 < z.den) (h1 : less x y = true) (h2 : leq y z) : less x z = true := by
  rw [less_iff] at *
  rw [leq_iff] at h2
  have a : (0 : Int) < x.den := by exact_mod_cast hx
  have b : (0 : Int) < y.den := by exact_mod_cast hy
  have c : (0 : Int) < z.den := by exact_mod_cast hz
  have k1 := Int.mul_lt_mul_of_pos_right h1 c
  have k2 := Int.mul_le_mul_of_nonneg_right h2 (Int.le_of_lt a)
  have q1 : y.num * x.den * z.den = y.num * z.den * x.den := by rw [Int.mul_right_comm]
  have q2 : z.num * y.den * x.den = z.num * x.den * y.den := by rw [Int.mul_right_comm]
  have e' : x.num * z.den * y.den < z.num * x.den * y.den := by
    rw [Int.mul_right_comm x.num]
    omega
  exact Int.lt_of_mul_lt_mul_right e' (Int.le_of_lt b)
theorem leq_lt {x y z : Frac} (hx : 0 < x.den) (hy : 0 < y.den) (hz : 0 < z.den) (h1 : leq x y) (h2 : less y z = true) : less x z = true := by
  rw [less_iff] at *
  rw [leq_iff] at h1
  have a : (0 : Int) < x.den := by exact_mod_cast hx
  have b : (0 : Int) < y.den := by exact_mod_cast hy
  have c : (0 : Int) < z.den := by exact_mod_cast hz
  have k1 := Int.mul_le_mul_of_nonneg_right h1 (Int.le_of_lt c)
  have k2 := Int.mul_lt_mul_of_pos_right h2 a
  have q1 : y.num * x.den * z.den = y.num * z.den * x.den := by rw [Int.mul_right_comm]
  have q2 : z.num * y.den * x.den = z.num * x.den * y.den := by rw [Int.mul_right_comm]
  have e' : x.num * z.den * y.den < z.num * x.den * y.den := by
    rw [Int.mul_right_comm x.num]
    omega
  exact Int.lt_of_mul_lt_mul_right e' (Int.le_of_lt b)
/-! ### the middle -/
theorem plus_red {x y : Frac} (hx : Red x) (hy : Red y) : Red (plus x y) ∧ (plus x y).num * ((x.den * y.den : Nat) : Int) = (x.num * y.den + y.num * x.den) * ((plus x y).den : Int) := by
  obtain ⟨p, hp⟩ := hx.nat
  obtain ⟨q, hq⟩ := hy.nat
  have hd : 0 < x.den * y.den := Nat.mul_pos hx.den hy.den
  unfold plus
  rw [hp, hq]
  have e : ((p : Int) * (y.den : Int) + (q : Int) * (x.den : Int)) = ((p * y.den + q * x.den : Nat) : Int) := by
    push_cast
    rfl
  rw [e]
  exact ⟨red_frac _ _ hd, frac_eq _ _ hd⟩
theorem times_red {x y : Frac} (hx : Red x) (hy : Red y) : Red (times x y) ∧ (times x y).num * ((x.den * y.den : Nat) : Int) = (x.num * y.num) * ((times x y).den : Int) := by
  obtain ⟨p, hp⟩ := hx.nat
  obtain ⟨q, hq⟩ := hy.nat
  have hd : 0 < x.den * y.den := Nat.mul_pos hx.den hy.den
  unfold times
  rw [hp, hq]
  have e : ((p : Int) * (q : Int)) = ((p * q : Nat) : Int) := by
    push_cast
    rfl
  rw [e]
  exact ⟨red_frac _ _ hd, frac_eq _ _ hd⟩
def mid (x y : Frac) : Frac := times (frac 1 2) (plus x y)
theorem half : frac 1 2 = ⟨1, 2⟩ := by decide
theorem mid_red {x y : Frac} (hx : Red x) (hy : Red y) : Red (mid x y) := (times_red (by rw [half]; exact ⟨by decide, by decide, by decide⟩) (plus_red hx hy).1).1
theorem mid_eq {x y : Frac} (hx : Red x) (hy : Red y) : (mid x y).num * (2 * ((x.den : Int) * y.den)) = (x.num * y.den + y.num * x.den) * ((mid x y).den : Int) := by
  have h1 := (times_red (x := frac 1 2) (by rw [half]; exact ⟨by decide, by decide, by decide⟩) (plus_red hx hy).1).2
  have h2 := (plus_red hx hy).2
  rw [half] at h1
  have hpd : (0 : Int) < (plus x y).den := by exact_mod_cast (plus_red hx hy).1.den
  have e1 : (mid x y).num * ((2 : Int) * (plus x y).den) = (plus x y).num * (mid x y).den := by
    have : (mid x y).num * ((2 * (plus x y).den : Nat) : Int) = (1 * (plus x y).num) * ((mid x y).den : Int) := by
      unfold mid
      rw [half]
      exact h1
    rw [Int.one_mul] at this
    push_cast at this
    exact this
  push_cast at h2
  -- multiply
  have key : (mid x y).num * (2 * ((x.den : Int) * y.den)) * (plus x y).den = (x.num * y.den + y.num * x.den) * ((mid x y).den : Int) * (plus x y).den := by
    calc (mid x y).num * (2 * ((x.den : Int) * y.den)) * (plus x y).den
        = ((mid x y).num * ((2 : Int) * (plus x y).den)) * ((x.den : Int) * y.den) := by grind
      _ = ((plus x y).num * (mid x y).den) * ((x.den : Int) * y.den) := by rw [e1]
      _ = ((plus x y).num * ((x.den : Int) * y.den)) * (mid x y).den := by grind
      _ = ((x.num * y.den + y.num * x.den) * ((plus x y).den : Int)) * (mid x y).den := by rw [h2]
      _ = _ := by grind
  exact Int.eq_of_mul_eq_mul_right (Int.ne_of_gt hpd) key
theorem mid_lt {x y : Frac} (hx : Red x) (hy : Red y) (h : less x y = true) : less x (mid x y) = true ∧ less (mid x y) y = true := by
  have e := mid_eq hx hy
  have a : (0 : Int) < x.den := by exact_mod_cast hx.den
  have b : (0 : Int) < y.den := by exact_mod_cast hy.den
  have m : (0 : Int) < (mid x y).den := by exact_mod_cast (mid_red hx hy).den
  rw [less_iff] at h
  constructor
  · rw [less_iff]
    -- x.num * m.den < m.num * x.den
    refine Int.lt_of_mul_lt_mul_right (a := 2 * y.den) ?_ (by omega)
    have k := Int.mul_lt_mul_of_pos_right h m
    have q1 : (mid x y).num * (x.den : Int) * (2 * y.den) = (mid x y).num * (2 * ((x.den : Int) * y.den)) := by grind
    rw [q1, e]
    have q2 : x.num * ((mid x y).den : Int) * (2 * y.den) = x.num * y.den * (mid x y).den + x.num * y.den * (mid x y).den := by grind
    have q3 : (x.num * y.den + y.num * x.den) * ((mid x y).den : Int) = x.num * y.den * (mid x y).den + y.num * x.den * (mid x y).den := by grind
    omega
  · rw [less_iff]
    refine Int.lt_of_mul_lt_mul_right (a := 2 * x.den) ?_ (by omega)
    have k := Int.mul_lt_mul_of_pos_right h m
    have q1 : (mid x y).num * (y.den : Int) * (2 * x.den) = (mid x y).num * (2 * ((x.den : Int) * y.den)) := by grind
    rw [q1, e]
    have q2 : y.num * ((mid x y).den : Int) * (2 * x.den) = y.num * x.den * (mid x y).den + y.num * x.den * (mid x y).den := by grind
    have q3 : (x.num * y.den + y.num * x.den) * ((mid x y).den : Int) = x.num * y.den * (mid x y).den + y.num * x.den * (mid x y).den := by grind
    omega
end KA
end
section
set_option autoImplicit false
namespace KA
open VamvsBase
open Vamvsa (Table)
open Vamvse (meets marks intoFracs bestAt valueAt putPiece Piece LARGEST lineOf pieces fitting)

/-! ### a line at a place -/
/-- a set's number; what it costs at 0, the slope -/
abbrev LineM := Nat × (Nat × Nat)
def val (x : Frac) (l : Nat × Nat) : Int := (l.1 : Int) * x.den + (l.2 : Int) * x.num
theorem value_red {x : Frac} (hx : Red x) (l : Nat × Nat) : Red (valueAt x l) ∧ (valueAt x l).num * (x.den : Int) = val x l * ((valueAt x l).den : Int) := by
  obtain ⟨r1, e1⟩ := times_red hx (red_whole l.2)
  obtain ⟨r2, e2⟩ := plus_red (red_whole l.1) r1
  refine ⟨r2, ?_⟩
  show (plus (whole (l.1 : Int)) (times x (whole (l.2 : Int)))).num * (x.den : Int) = _ * ((plus (whole (l.1 : Int)) (times x (whole (l.2 : Int)))).den : Int)
  generalize plus (whole (l.1 : Int)) (times x (whole (l.2 : Int))) = V at e2 ⊢
  generalize times x (whole (l.2 : Int)) = T at e1 e2 r1
  have hT : (0 : Int) < T.den := by exact_mod_cast r1.den
  have e1' : T.num * (x.den : Int) = x.num * (l.2 : Int) * T.den := by
    have q : T.num * ((x.den * 1 : Nat) : Int) = x.num * (l.2 : Int) * T.den := e1
    rw [Nat.mul_one] at q
    exact q
  have e2' : V.num * (T.den : Int) = ((l.1 : Int) * T.den + T.num) * V.den := by
    have q : V.num * ((1 * T.den : Nat) : Int) = ((l.1 : Int) * T.den + T.num * ((1 : Nat) : Int)) * V.den := e2
    rw [Nat.one_mul] at q
    rw [q]
    grind
  refine Int.eq_of_mul_eq_mul_right (Int.ne_of_gt hT) ?_
  calc V.num * (x.den : Int) * T.den = (V.num * (T.den : Int)) * x.den := by grind
    _ = (((l.1 : Int) * T.den + T.num) * V.den) * x.den := by rw [e2']
    _ = ((l.1 : Int) * T.den * x.den + T.num * x.den) * V.den := by grind
    _ = ((l.1 : Int) * T.den * x.den + x.num * (l.2 : Int) * T.den) * V.den := by rw [e1']
    _ = val x l * V.den * T.den := by
      unfold val
      grind
theorem less_value {x : Frac} (hx : Red x) (a b : Nat × Nat) : less (valueAt x a) (valueAt x b) = true ↔ val x a < val x b := by
  obtain ⟨ra, ea⟩ := value_red hx a
  obtain ⟨rb, eb⟩ := value_red hx b
  have hd : (0 : Int) < x.den := by exact_mod_cast hx.den
  have ha : (0 : Int) < (valueAt x a).den := by exact_mod_cast ra.den
  have hb : (0 : Int) < (valueAt x b).den := by exact_mod_cast rb.den
  rw [less_iff]
  generalize valueAt x a = A at *
  generalize valueAt x b = B at *
  have hab : (0 : Int) < (A.den : Int) * B.den := Int.mul_pos ha hb
  have q1 : A.num * (B.den : Int) * x.den = val x a * ((A.den : Int) * B.den) := by
    calc A.num * (B.den : Int) * x.den = (A.num * (x.den : Int)) * B.den := by grind
      _ = _ := by rw [ea]; grind
  have q2 : B.num * (A.den : Int) * x.den = val x b * ((A.den : Int) * B.den) := by
    calc B.num * (A.den : Int) * x.den = (B.num * (x.den : Int)) * A.den := by grind
      _ = _ := by rw [eb]; grind
  constructor
  · intro h
    have k := Int.mul_lt_mul_of_pos_right h hd
    rw [q1, q2] at k
    exact Int.lt_of_mul_lt_mul_right k (Int.le_of_lt hab)
  · intro h
    have k := Int.mul_lt_mul_of_pos_right h hab
    rw [← q1, ← q2] at k
    exact Int.lt_of_mul_lt_mul_right k (Int.le_of_lt hd)
/-- where the line o, that rises less, meets l -/
def meetM (l o : Nat × Nat) : Frac := frac ((o.1 : Int) - (l.1 : Int)) (l.2 - o.2)
theorem meet_red {l o : Nat × Nat} (h1 : l.1 < o.1) (h2 : o.2 < l.2) : Red (meetM l o) ∧ (meetM l o).num * ((l.2 : Int) - o.2) = ((o.1 : Int) - l.1) * ((meetM l o).den : Int) := by
  unfold meetM
  have e : (o.1 : Int) - (l.1 : Int) = ((o.1 - l.1 : Nat) : Int) := by omega
  have e2 : (l.2 : Int) - (o.2 : Int) = ((l.2 - o.2 : Nat) : Int) := by omega
  rw [e, e2]
  exact ⟨red_frac _ _ (by omega), frac_eq _ _ (by omega)⟩
theorem less_meet {x : Frac} (hx : Red x) {l o : Nat × Nat} (h1 : l.1 < o.1) (h2 : o.2 < l.2) : less x (meetM l o) = true ↔ val x l < val x o := by
  obtain ⟨r, e⟩ := meet_red h1 h2
  have hD : (0 : Int) < (l.2 : Int) - o.2 := by omega
  have hm : (0 : Int) < (meetM l o).den := by exact_mod_cast r.den
  rw [less_iff]
  generalize meetM l o = M at *
  have q : (val x l < val x o) ↔ x.num * ((l.2 : Int) - o.2) < ((o.1 : Int) - l.1) * x.den := by
    unfold val
    have a : x.num * ((l.2 : Int) - o.2) = (l.2 : Int) * x.num - (o.2 : Int) * x.num := by grind
    have b : ((o.1 : Int) - l.1) * x.den = (o.1 : Int) * x.den - (l.1 : Int) * x.den := by grind
    omega
  rw [q]
  have a1 : x.num * (M.den : Int) * ((l.2 : Int) - o.2) = x.num * ((l.2 : Int) - o.2) * M.den := by grind
  have a2 : M.num * (x.den : Int) * ((l.2 : Int) - o.2) = ((o.1 : Int) - l.1) * x.den * M.den := by
    calc M.num * (x.den : Int) * ((l.2 : Int) - o.2) = (M.num * ((l.2 : Int) - o.2)) * x.den := by grind
      _ = _ := by rw [e]; grind
  constructor
  · intro h
    have k := Int.mul_lt_mul_of_pos_right h hD
    rw [a1, a2] at k
    exact Int.lt_of_mul_lt_mul_right k (Int.le_of_lt hm)
  · intro h
    have k := Int.mul_lt_mul_of_pos_right h hm
    rw [← a1, ← a2] at k
    exact Int.lt_of_mul_lt_mul_right k (Int.le_of_lt hD)
theorem val_meet {l o : Nat × Nat} (h1 : l.1 < o.1) (h2 : o.2 < l.2) : val (meetM l o) l = val (meetM l o) o := by
  obtain ⟨r, e⟩ := meet_red h1 h2
  unfold val
  generalize meetM l o = M at *
  have a : M.num * ((l.2 : Int) - o.2) = (l.2 : Int) * M.num - (o.2 : Int) * M.num := by grind
  have b : ((o.1 : Int) - l.1) * M.den = (o.1 : Int) * M.den - (l.1 : Int) * M.den := by grind
  omega
/-- further on, a line that rises more is dearer -/
theorem val_on {x y : Frac} (hx : Red x) (hy : Red y) (hxy : less x y = true) {l o : Nat × Nat} (h : val x l ≤ val x o) (hs : l.2 < o.2) : val y l < val y o := by
  rw [less_iff] at hxy
  have hX : (0 : Int) < x.den := by exact_mod_cast hx.den
  have hY : (0 : Int) < y.den := by exact_mod_cast hy.den
  have hD : (0 : Int) < (o.2 : Int) - l.2 := by omega
  unfold val at *
  have k1 := Int.mul_le_mul_of_nonneg_right h (Int.le_of_lt hY)
  have k2 := Int.mul_lt_mul_of_pos_right hxy hD
  refine Int.lt_of_mul_lt_mul_right (a := x.den) ?_ (Int.le_of_lt hX)
  have a1 : ((l.1 : Int) * x.den + (l.2 : Int) * x.num) * y.den = (l.1 : Int) * x.den * y.den + (l.2 : Int) * (x.num * y.den) := by grind
  have a2 : ((o.1 : Int) * x.den + (o.2 : Int) * x.num) * y.den = (o.1 : Int) * x.den * y.den + (o.2 : Int) * (x.num * y.den) := by grind
  have b1 : x.num * (y.den : Int) * ((o.2 : Int) - l.2) = (o.2 : Int) * (x.num * y.den) - (l.2 : Int) * (x.num * y.den) := by grind
  have b2 : y.num * (x.den : Int) * ((o.2 : Int) - l.2) = (o.2 : Int) * (y.num * x.den) - (l.2 : Int) * (y.num * x.den) := by grind
  have c1 : ((l.1 : Int) * y.den + (l.2 : Int) * y.num) * x.den = (l.1 : Int) * x.den * y.den + (l.2 : Int) * (y.num * x.den) := by grind
  have c2 : ((o.1 : Int) * y.den + (o.2 : Int) * y.num) * x.den = (o.1 : Int) * x.den * y.den + (o.2 : Int) * (y.num * x.den) := by grind
  omega
/-- lines of one slope keep their order -/
theorem val_same {x y : Frac} (hx : Red x) (hy : Red y) {l o : Nat × Nat} (h : val x l ≤ val x o) (hs : l.2 = o.2) : val y l ≤ val y o ∧ (val x l < val x o → val y l < val y o) := by
  have hX : (0 : Int) < x.den := by exact_mod_cast hx.den
  have hY : (0 : Int) < y.den := by exact_mod_cast hy.den
  unfold val at *
  rw [hs] at h ⊢
  have h' : (l.1 : Int) * x.den ≤ (o.1 : Int) * x.den := by omega
  have h1 : (l.1 : Int) ≤ o.1 := Int.le_of_mul_le_mul_right h' hX
  have h2 := Int.mul_le_mul_of_nonneg_right h1 (Int.le_of_lt hY)
  refine ⟨by omega, fun q => ?_⟩
  have q' : (l.1 : Int) * x.den < (o.1 : Int) * x.den := by omega
  have q1 : (l.1 : Int) < o.1 := Int.lt_of_mul_lt_mul_right q' (Int.le_of_lt hX)
  have q2 := Int.mul_lt_mul_of_pos_right q1 hY
  omega

/-! ### the best line right behind a place -/
def keyLe (x : Frac) (l o : LineM) : Prop := val x l.2 < val x o.2 ∨ (val x l.2 = val x o.2 ∧ (l.2.2 < o.2.2 ∨ (l.2.2 = o.2.2 ∧ l.1 ≤ o.1)))
def IsBest (ls : List LineM) (x : Frac) (l : LineM) : Prop := l ∈ ls ∧ ∀ o ∈ ls, keyLe x l o
theorem IsBest.begin {ls : List LineM} {x : Frac} {l : LineM} (hx : Red x) (h : IsBest ls x l) {o : LineM} (ho : o ∈ ls) (hs : o.2.2 < l.2.2) : val x l.2 < val x o.2 ∧ l.2.1 < o.2.1 := by
  have k : val x l.2 < val x o.2 := by
    rcases h.2 o ho with q | ⟨_, q | ⟨q, _⟩⟩
    · exact q
    · omega
    · omega
  refine ⟨k, ?_⟩
  obtain ⟨p, hp⟩ := hx.nat
  have hX : (0 : Int) < x.den := by exact_mod_cast hx.den
  unfold val at k
  rw [hp] at k
  have m : (o.2.2 : Int) * p ≤ (l.2.2 : Int) * p := Int.mul_le_mul_of_nonneg_right (by omega) (by omega)
  have k' : (l.2.1 : Int) * x.den < (o.2.1 : Int) * x.den := by omega
  have := Int.lt_of_mul_lt_mul_right k' (Int.le_of_lt hX)
  omega
/-- up to where it is -/
def endM (ls : List LineM) (l : LineM) : Frac := ls.foldl (fun e o => if o.2.2 < l.2.2 ∧ less (meetM l.2 o.2) e = true then meetM l.2 o.2 else e) (whole 100)
theorem end_go (l : LineM) : ∀ (os : List LineM) (e : Frac), 0 < e.den → (∀ o ∈ os, o.2.2 < l.2.2 → l.2.1 < o.2.1) →
    let r := os.foldl (fun e o => if o.2.2 < l.2.2 ∧ less (meetM l.2 o.2) e = true then meetM l.2 o.2 else e) e
    (r = e ∨ ∃ o ∈ os, o.2.2 < l.2.2 ∧ r = meetM l.2 o.2 ∧ less (meetM l.2 o.2) e = true) ∧ leq r e ∧ 0 < r.den ∧ ∀ o ∈ os, o.2.2 < l.2.2 → leq r (meetM l.2 o.2)
  | [], e, he, _ => ⟨.inl rfl, less_irrefl e, he, fun _ h => by cases h⟩
  | o :: os, e, he, h => by
    rw [List.foldl_cons]
    by_cases hc : o.2.2 < l.2.2 ∧ less (meetM l.2 o.2) e = true
    · rw [if_pos hc]
      have hm := (meet_red (h o (List.mem_cons_self ..) hc.1) hc.1).1
      obtain ⟨h1, h2, h3, h4⟩ := end_go l os (meetM l.2 o.2) hm.den (fun q hq => h q (List.mem_cons_of_mem _ hq))
      refine ⟨?_, ?_, h3, fun q hq hs => ?_⟩
      · rcases h1 with q | ⟨q, hq, hs, hr, hl⟩
        · exact .inr ⟨o, List.mem_cons_self .., hc.1, q, hc.2⟩
        · have hmq := (meet_red (h q (List.mem_cons_of_mem _ hq) hs) hs).1
          exact .inr ⟨q, List.mem_cons_of_mem _ hq, hs, hr, lt_trans3 hm.den hmq.den he hl hc.2⟩
      · exact less_asymm (leq_lt h3 hm.den he h2 hc.2)
      · rcases List.mem_cons.mp hq with q' | q'
        · rw [q']
          exact h2
        · exact h4 q q' hs
    · rw [if_neg hc]
      obtain ⟨h1, h2, h3, h4⟩ := end_go l os e he (fun q hq => h q (List.mem_cons_of_mem _ hq))
      refine ⟨?_, h2, h3, fun q hq hs => ?_⟩
      · rcases h1 with q | ⟨q, hq, hs, hr, hl⟩
        · exact .inl q
        · exact .inr ⟨q, List.mem_cons_of_mem _ hq, hs, hr, hl⟩
      · rcases List.mem_cons.mp hq with q' | q'
        · rw [q'] at hs ⊢
          have hm := (meet_red (h o (List.mem_cons_self ..) hs) hs).1
          have he2 : leq e (meetM l.2 o.2) := by
            cases q : less (meetM l.2 o.2) e with
            | false => exact q
            | true => exact absurd ⟨hs, q⟩ hc
          cases q : less (meetM l.2 o.2) (os.foldl (fun e o => if o.2.2 < l.2.2 ∧ less (meetM l.2 o.2) e = true then meetM l.2 o.2 else e) e) with
          | false => exact q
          | true =>
            have := lt_leq hm.den h3 he q h2
            have he2' : less (meetM l.2 o.2) e = false := he2
            rw [he2'] at this
            cases this
        · exact h4 q q' hs
theorem end_ok {ls : List LineM} {x : Frac} {l : LineM} (hx : Red x) (h : IsBest ls x l) :
    (endM ls l = whole 100 ∨ ∃ o ∈ ls, o.2.2 < l.2.2 ∧ l.2.1 < o.2.1 ∧ endM ls l = meetM l.2 o.2 ∧ less (meetM l.2 o.2) (whole 100) = true) ∧ leq (endM ls l) (whole 100) ∧ Red (endM ls l) ∧
      (∀ o ∈ ls, o.2.2 < l.2.2 → leq (endM ls l) (meetM l.2 o.2)) ∧ (less x (whole 100) = true → less x (endM ls l) = true) := by
  obtain ⟨h1, h2, h3, h4⟩ := end_go l ls (whole 100) Nat.one_pos (fun o ho hs => (h.begin hx ho hs).2)
  have h1' : endM ls l = whole 100 ∨ ∃ o ∈ ls, o.2.2 < l.2.2 ∧ l.2.1 < o.2.1 ∧ endM ls l = meetM l.2 o.2 ∧ less (meetM l.2 o.2) (whole 100) = true := by
    rcases h1 with q | ⟨o, ho, hs, hr, hl⟩
    · exact .inl q
    · exact .inr ⟨o, ho, hs, (h.begin hx ho hs).2, hr, hl⟩
  refine ⟨h1', h2, ?_, h4, fun hlt => ?_⟩
  · rcases h1' with q | ⟨o, ho, hs, hb, hr, hl⟩
    · rw [q]
      exact red_whole 100
    · rw [hr]
      exact (meet_red hb hs).1
  · rcases h1' with q | ⟨o, ho, hs, hb, hr, hl⟩
    · rw [q]
      exact hlt
    · rw [hr]
      exact (less_meet hx hb hs).mpr (h.begin hx ho hs).1
/-- all through its piece it is the best: against the lesser slopes, the same, the greater -/
theorem best_in {ls : List LineM} {x y : Frac} {l : LineM} (hx : Red x) (hy : Red y) (h : IsBest ls x l) (h1 : less x y = true) (h2 : less y (endM ls l) = true) {o : LineM} (ho : o ∈ ls) :
    val y l.2 ≤ val y o.2 ∧ (o.1 < l.1 → val y l.2 < val y o.2) := by
  obtain ⟨_, _, hR, h4, _⟩ := end_ok hx h
  rcases Nat.lt_trichotomy o.2.2 l.2.2 with hs | hs | hs
  · have hb := (h.begin hx ho hs).2
    have k := (less_meet hy hb hs).mp (lt_leq hy.den hR.den (meet_red hb hs).1.den h2 (h4 o ho hs))
    exact ⟨Int.le_of_lt k, fun _ => k⟩
  · have hle : val x l.2 ≤ val x o.2 := by
      rcases h.2 o ho with q | ⟨q, _⟩ <;> omega
    obtain ⟨a, b⟩ := val_same hx hy hle hs.symm
    refine ⟨a, fun hn => b ?_⟩
    rcases h.2 o ho with q | ⟨q, q2 | ⟨_, q2⟩⟩
    · exact q
    · omega
    · omega
  · have hle : val x l.2 ≤ val x o.2 := by
      rcases h.2 o ho with q | ⟨q, _⟩ <;> omega
    have k := val_on hx hy h1 hle hs
    exact ⟨Int.le_of_lt k, fun _ => k⟩
theorem exists_best (x : Frac) : ∀ (ls : List LineM), ls ≠ [] → ∃ l, IsBest ls x l := by
  have tot : ∀ a b : LineM, keyLe x a b ∨ keyLe x b a := fun a b => by
    unfold keyLe
    omega
  have tr : ∀ a b c : LineM, keyLe x a b → keyLe x b c → keyLe x a c := fun a b c => by
    unfold keyLe
    omega
  intro ls
  induction ls with
  | nil => exact fun h => absurd rfl h
  | cons a r ih =>
    intro _
    cases r with
    | nil => exact ⟨a, List.mem_cons_self .., fun o ho => by
        rw [List.mem_singleton] at ho
        rw [ho]
        rcases tot a a with q | q <;> exact q⟩
    | cons b r =>
      obtain ⟨l, h1, h2⟩ := ih (by simp)
      rcases tot a l with q | q
      · refine ⟨a, List.mem_cons_self .., fun o ho => ?_⟩
        rcases List.mem_cons.mp ho with e | e
        · rw [e]
          rcases tot a a with q | q <;> exact q
        · exact tr _ _ _ q (h2 o e)
      · refine ⟨l, List.mem_cons_of_mem _ h1, fun o ho => ?_⟩
        rcases List.mem_cons.mp ho with e | e
        · rw [e]
          exact q
        · exact h2 o e
/-- a best one is the only one -/
theorem best_unique {ls : List LineM} (hN : ∀ a ∈ ls, ∀ b ∈ ls, a.1 = b.1 → a = b) {x : Frac} {a b : LineM} (ha : IsBest ls x a) (hb : IsBest ls x b) : a = b := by
  have h1 := ha.2 b hb.1
  have h2 := hb.2 a ha.1
  unfold keyLe at h1 h2
  exact hN a ha.1 b hb.1 (by omega)
/-- at its end another is the best -/
theorem best_end {ls : List LineM} (hN : ∀ a ∈ ls, ∀ b ∈ ls, a.1 = b.1 → a = b) {x : Frac} {l l2 : LineM} (hx : Red x) (h : IsBest ls x l) (hlt : less (endM ls l) (whole 100) = true) (h2 : IsBest ls (endM ls l) l2) : l.1 ≠ l2.1 := by
  intro e
  have e2 := hN l h.1 l2 h2.1 e
  subst e2
  rcases (end_ok hx h).1 with q | ⟨o, ho, hs, hb, hr, _⟩
  · rw [q, less_irrefl] at hlt
    cases hlt
  · have k := (h2.begin (end_ok hx h).2.2.1 ho hs).1
    rw [hr, val_meet hb hs] at k
    exact absurd k (Int.lt_irrefl _)

/-! ### the program's run -/
inductive Run (ls : List LineM) : Frac → List Piece → Prop
  | done {x : Frac} : less x (whole 100) = false → Run ls x []
  | step {x : Frac} {l : LineM} {ps : List Piece} : less x (whole 100) = true → IsBest ls x l → Run ls (endM ls l) ps → Run ls x (⟨l.1, x, endM ls l⟩ :: ps)

/-! ### the marks -/
structure Marks (M : List Frac) : Prop where
  red : ∀ x ∈ M, Red x
  ord : M.Pairwise fun x y => less x y = true
theorem into_mem {x z : Frac} : ∀ M : List Frac, z ∈ intoFracs x M ↔ z = x ∨ z ∈ M
  | [] => by simp [intoFracs]
  | y :: r => by
    unfold intoFracs
    split
    · rename_i e
      rw [e]
      simp
    · split
      · simp
      · rw [List.mem_cons, into_mem r, List.mem_cons]
        constructor
        · rintro (h | h | h)
          · exact .inr (.inl h)
          · exact .inl h
          · exact .inr (.inr h)
        · rintro (h | h | h)
          · exact .inr (.inl h)
          · exact .inl h
          · exact .inr (.inr h)
theorem into_marks {x : Frac} (hx : Red x) : ∀ M : List Frac, Marks M → Marks (intoFracs x M)
  | [], _ => ⟨fun z hz => by
      simp [intoFracs] at hz
      rw [hz]
      exact hx, by simp [intoFracs]⟩
  | y :: r, h => by
    obtain ⟨h1, h2⟩ := List.pairwise_cons.mp h.ord
    have hy := h.red y (List.mem_cons_self ..)
    have ih := into_marks hx r ⟨fun z hz => h.red z (List.mem_cons_of_mem _ hz), h2⟩
    refine ⟨fun z hz => ?_, ?_⟩
    · rcases (into_mem _).mp hz with e | e
      · rw [e]
        exact hx
      · exact h.red z e
    · unfold intoFracs
      split
      · exact h.ord
      · rename_i hne
        split
        · rename_i hl
          refine List.pairwise_cons.mpr ⟨fun z hz => ?_, h.ord⟩
          rcases List.mem_cons.mp hz with e | e
          · rw [e]
            exact hl
          · exact lt_trans3 hy.den hx.den (h.red z (List.mem_cons_of_mem _ e)).den hl (h1 z e)
        · rename_i hl
          refine List.pairwise_cons.mpr ⟨fun z hz => ?_, ih.ord⟩
          rcases (into_mem _).mp hz with e | e
          · rw [e]
            exact less_total hx hy hne (by simpa using hl)
          · exact h1 z e
theorem fold_marks : ∀ (ts : List Frac) (M : List Frac), Marks M → (∀ x ∈ ts, Red x) → Marks (ts.foldl (fun r t => intoFracs t r) M) ∧ ∀ z, z ∈ ts.foldl (fun r t => intoFracs t r) M ↔ z ∈ M ∨ z ∈ ts
  | [], M, h, _ => ⟨h, fun z => by simp⟩
  | t :: ts, M, h, hr => by
    rw [List.foldl_cons]
    obtain ⟨a, b⟩ := fold_marks ts (intoFracs t M) (into_marks (hr t (List.mem_cons_self ..)) M h) (fun x hx => hr x (List.mem_cons_of_mem _ hx))
    refine ⟨a, fun z => ?_⟩
    rw [b, into_mem, List.mem_cons]
    constructor
    · rintro ((h | h) | h)
      · exact .inr (.inl h)
      · exact .inl h
      · exact .inr (.inr h)
    · rintro (h | h | h)
      · exact .inl (.inr h)
      · exact .inl (.inl h)
      · exact .inr h
theorem meets_ok {a b : Nat × Nat} {x : Frac} (h : x ∈ meets a b) : b.2 < a.2 ∧ a.1 < b.1 ∧ x = meetM a b ∧ less x (whole 100) = true ∧ less (whole 0) x = true := by
  unfold meets at h
  split at h
  · rename_i hc
    obtain ⟨h1, h2, h3⟩ := hc
    rw [List.mem_singleton] at h
    have e : x = meetM a b := by
      rw [h]
      unfold meetM
      congr 1
      omega
    obtain ⟨r, q⟩ := meet_red h2 h1
    rw [← e] at r q
    have hd : (0 : Int) < x.den := by exact_mod_cast r.den
    have hD : (0 : Int) < (a.2 : Int) - b.2 := by omega
    have h3' : (b.1 : Int) - a.1 < 100 * ((a.2 : Int) - b.2) := by
      have : b.1 - a.1 < 100 * (a.2 - b.2) := h3
      omega
    refine ⟨h1, h2, e, ?_, ?_⟩
    · rw [less_iff]
      show x.num * ((1 : Nat) : Int) < (100 : Int) * x.den
      refine Int.lt_of_mul_lt_mul_right (a := (a.2 : Int) - b.2) ?_ (Int.le_of_lt hD)
      have k := Int.mul_lt_mul_of_pos_right h3' hd
      have q1 : x.num * ((1 : Nat) : Int) * ((a.2 : Int) - b.2) = x.num * ((a.2 : Int) - b.2) := by grind
      rw [q1, q]
      have q2 : (100 : Int) * x.den * ((a.2 : Int) - b.2) = 100 * ((a.2 : Int) - b.2) * x.den := by grind
      omega
    · rw [less_iff]
      show (0 : Int) * x.den < x.num * ((1 : Nat) : Int)
      refine Int.lt_of_mul_lt_mul_right (a := (a.2 : Int) - b.2) ?_ (Int.le_of_lt hD)
      have h4 : (0 : Int) < (b.1 : Int) - a.1 := by omega
      have k := Int.mul_pos h4 hd
      have q1 : x.num * ((1 : Nat) : Int) * ((a.2 : Int) - b.2) = x.num * ((a.2 : Int) - b.2) := by grind
      rw [q1, q]
      have q2 : (0 : Int) * x.den * ((a.2 : Int) - b.2) = 0 := by grind
      omega
  · cases h
theorem marks_ok (ls : List (Nat × Nat)) : Marks (marks ls) ∧ (∀ x ∈ marks ls, x = whole 0 ∨ x = whole 100 ∨ (less (whole 0) x = true ∧ less x (whole 100) = true)) ∧ whole 0 ∈ marks ls ∧ whole 100 ∈ marks ls ∧
    ∀ a ∈ ls, ∀ b ∈ ls, b.2 < a.2 → a.1 < b.1 → less (meetM a b) (whole 100) = true → meetM a b ∈ marks ls := by
  have m0 : Marks [whole 0, whole 100] := ⟨fun x hx => by
    rcases List.mem_cons.mp hx with e | e
    · rw [e]
      exact red_whole 0
    · rw [List.mem_singleton] at e
      rw [e]
      exact red_whole 100, by
    refine List.pairwise_cons.mpr ⟨fun z hz => ?_, List.pairwise_singleton ..⟩
    rw [List.mem_singleton] at hz
    rw [hz]
    decide⟩
  have hmem : ∀ x, x ∈ (ls.flatMap fun a => ls.flatMap fun b => meets a b) ↔ ∃ a ∈ ls, ∃ b ∈ ls, x ∈ meets a b := fun x => by
    simp only [List.mem_flatMap]
  obtain ⟨h1, h2⟩ := fold_marks (ls.flatMap fun a => ls.flatMap fun b => meets a b) [whole 0, whole 100] m0 (fun x hx => by
    obtain ⟨a, _, b, _, h⟩ := (hmem x).mp hx
    obtain ⟨q1, q2, q3, _⟩ := meets_ok h
    rw [q3]
    exact (meet_red q2 q1).1)
  refine ⟨h1, fun x hx => ?_, (h2 _).mpr (.inl (List.mem_cons_self ..)), (h2 _).mpr (.inl (List.mem_cons_of_mem _ (List.mem_cons_self ..))), fun a ha b hb h3 h4 h5 => (h2 _).mpr (.inr ((hmem _).mpr ⟨a, ha, b, hb, ?_⟩))⟩
  · rcases (h2 x).mp hx with e | e
    · rcases List.mem_cons.mp e with e | e
      · exact .inl e
      · exact .inr (.inl (List.mem_singleton.mp e))
    · obtain ⟨a, _, b, _, h⟩ := (hmem x).mp e
      obtain ⟨_, _, _, q4, q5⟩ := meets_ok h
      exact .inr (.inr ⟨q5, q4⟩)
  · obtain ⟨r, q⟩ := meet_red h4 h3
    have hd : (0 : Int) < (meetM a b).den := by exact_mod_cast r.den
    have hD : (0 : Int) < (a.2 : Int) - b.2 := by omega
    rw [less_iff] at h5
    have h5' : (meetM a b).num < 100 * ((meetM a b).den : Int) := by
      have : (meetM a b).num * ((1 : Nat) : Int) < 100 * ((meetM a b).den : Int) := h5
      omega
    have k := Int.mul_lt_mul_of_pos_right h5' hD
    rw [q] at k
    have k' : ((b.1 : Int) - a.1) * ((meetM a b).den : Int) < (100 * ((a.2 : Int) - b.2)) * ((meetM a b).den : Int) := by
      have q2 : (100 * ((a.2 : Int) - b.2)) * ((meetM a b).den : Int) = 100 * ((meetM a b).den : Int) * ((a.2 : Int) - b.2) := by grind
      omega
    have k2 := Int.lt_of_mul_lt_mul_right k' (Int.le_of_lt hd)
    unfold meets
    rw [if_pos ⟨h3, h4, by
      show b.1 - a.1 < 100 * (a.2 - b.2)
      omega⟩, List.mem_singleton]
    unfold meetM
    congr 1
    omega

/-! ### the specification's best one -/
theorem best_post (x : Frac) (hx : Red x) (l : Nat × Nat) (s : Nat) : ∀ (post : List LineM), (∀ y ∈ post, val x l ≤ val x y.2) →
    post.foldl (fun (b : Option (Nat × Frac)) y => let v := valueAt x y.2; match b with
      | none => some (y.1, v)
      | some z => if less v z.2 = true then some (y.1, v) else some z) (some (s, valueAt x l)) = some (s, valueAt x l)
  | [], _ => rfl
  | y :: r, h => by
    rw [List.foldl_cons]
    have hn : ¬ less (valueAt x y.2) (valueAt x l) = true := fun q => by
      have a := (less_value hx _ _).mp q
      have b := h y (List.mem_cons_self ..)
      omega
    dsimp only
    rw [if_neg hn]
    exact best_post x hx l s r fun z hz => h z (List.mem_cons_of_mem _ hz)
theorem best_pre (x : Frac) : ∀ (pre : List LineM) (b : Option (Nat × Frac)), (∀ z, b = some z → ∃ y : Nat × Nat, z.2 = valueAt x y) →
    ∀ z, pre.foldl (fun (b : Option (Nat × Frac)) y => let v := valueAt x y.2; match b with
      | none => some (y.1, v)
      | some z => if less v z.2 = true then some (y.1, v) else some z) b = some z → (∃ y ∈ pre, z.2 = valueAt x y.2) ∨ b = some z
  | [], b, _, z, h => .inr h
  | y :: r, b, hb, z, h => by
    rw [List.foldl_cons] at h
    have key : ∀ b' : Option (Nat × Frac), (b' = some (y.1, valueAt x y.2) ∨ b' = b) → (r.foldl (fun (b : Option (Nat × Frac)) y => let v := valueAt x y.2; match b with
      | none => some (y.1, v)
      | some z => if less v z.2 = true then some (y.1, v) else some z) b' = some z) → (∃ y' ∈ y :: r, z.2 = valueAt x y'.2) ∨ b = some z := by
      intro b' hb' hf
      rcases best_pre x r b' (fun w hw => by
        rcases hb' with e | e
        · rw [e] at hw
          injection hw with hw
          exact ⟨y.2, by rw [← hw]⟩
        · rw [e] at hw
          exact hb w hw) z hf with ⟨q, hq, e⟩ | e
      · exact .inl ⟨q, List.mem_cons_of_mem _ hq, e⟩
      · rcases hb' with q | q
        · rw [q] at e
          injection e with e
          exact .inl ⟨y, List.mem_cons_self .., by rw [← e]⟩
        · rw [q] at e
          exact .inr e
    cases b with
    | none => exact key _ (.inl rfl) h
    | some w =>
      dsimp only at h
      by_cases hc : less (valueAt x y.2) w.2 = true
      · rw [if_pos hc] at h
        exact key _ (.inl rfl) h
      · rw [if_neg hc] at h
        exact key _ (.inr rfl) h
theorem bestAt_is {fs : List Nat} {ls : List (Nat × Nat)} {x : Frac} (hx : Red x) {pre post : List LineM} {l : LineM} (e : fs.zip ls = pre ++ l :: post) (h1 : ∀ y ∈ pre, val x l.2 < val x y.2) (h2 : ∀ y ∈ post, val x l.2 ≤ val x y.2) :
    bestAt fs ls x = some l.1 := by
  unfold bestAt
  rw [e, List.foldl_append, List.foldl_cons]
  have key : ∀ b' : Option (Nat × Frac), b' = some (l.1, valueAt x l.2) → ((post.foldl (fun (b : Option (Nat × Frac)) y => let v := valueAt x y.2; match b with
      | none => some (y.1, v)
      | some z => if less v z.2 = true then some (y.1, v) else some z) b').map fun z => z.1) = some l.1 := by
    intro b' hb'
    rw [hb', best_post x hx l.2 l.1 post h2]
    rfl
  refine key _ ?_
  cases hp : pre.foldl (fun (b : Option (Nat × Frac)) y => let v := valueAt x y.2; match b with
      | none => some (y.1, v)
      | some z => if less v z.2 = true then some (y.1, v) else some z) none with
  | none => rfl
  | some z =>
    rcases best_pre x pre none (fun _ q => by cases q) z hp with ⟨y, hy, ez⟩ | q
    · dsimp only
      rw [if_pos]
      rw [ez]
      exact (less_value hx _ _).mpr (h1 y hy)
    · cases q

/-! ### the specification's fold along the marks -/
def stepP (fs : List Nat) (ls : List (Nat × Nat)) (r : List Piece) (x : Frac × Frac) : List Piece := match bestAt fs ls (mid x.1 x.2) with
  | none => r
  | some s => putPiece r ⟨s, x.1, x.2⟩
theorem put_other {acc : List Piece} {p : Piece} (h : ∀ q, acc.getLast? = some q → q.s ≠ p.s) : putPiece acc p = acc ++ [p] := by
  unfold putPiece
  cases e : acc.getLast? with
  | none =>
    rw [List.getLast?_eq_none_iff] at e
    rw [e]
    rfl
  | some q =>
    dsimp only
    rw [if_neg (h q e)]
theorem put_same (acc : List Piece) (s : Nat) (a x y : Frac) : putPiece (acc ++ [⟨s, a, x⟩]) ⟨s, x, y⟩ = acc ++ [⟨s, a, y⟩] := by
  unfold putPiece
  rw [List.getLast?_concat]
  dsimp only
  rw [if_pos rfl, List.dropLast_concat]
section
variable {fs : List Nat} {ls : List (Nat × Nat)} (hfs : fs.Pairwise (· < ·)) (hlen : fs.length ≤ ls.length)
include hfs hlen
theorem zip_pre {pre post : List LineM} {l : LineM} (e : fs.zip ls = pre ++ l :: post) : (∀ y ∈ pre, y.1 < l.1) ∧ ∀ y ∈ post, l.1 < y.1 := by
  have h : (fs.zip ls).Pairwise fun a b => a.1 < b.1 := by
    have q : ((fs.zip ls).map (·.1)).Pairwise (· < ·) := by
      rw [List.map_fst_zip hlen]
      exact hfs
    exact List.pairwise_map.mp q
  rw [e, List.pairwise_append] at h
  obtain ⟨_, h2, h3⟩ := h
  exact ⟨fun y hy => h3 y hy l (List.mem_cons_self ..), fun y hy => (List.pairwise_cons.mp h2).1 y hy⟩
theorem zip_uniq : ∀ a ∈ fs.zip ls, ∀ b ∈ fs.zip ls, a.1 = b.1 → a = b := by
  intro a ha b hb e
  obtain ⟨pre, post, q⟩ := List.append_of_mem ha
  obtain ⟨h1, h2⟩ := zip_pre hfs hlen q
  rw [q] at hb
  rcases List.mem_append.mp hb with hb | hb
  · have := h1 b hb
    omega
  · rcases List.mem_cons.mp hb with hb | hb
    · exact hb.symm
    · have := h2 b hb
      omega
theorem mid_best {x y z : Frac} {l : LineM} (hx : Red x) (hy : Red y) (hz : Red z) (h : IsBest (fs.zip ls) x l) (hxy : leq x y) (hyz : less y z = true) (hze : leq z (endM (fs.zip ls) l)) : bestAt fs ls (mid y z) = some l.1 := by
  obtain ⟨pre, post, q⟩ := List.append_of_mem h.1
  obtain ⟨h1, h2⟩ := zip_pre hfs hlen q
  have hm := mid_red hy hz
  obtain ⟨m1, m2⟩ := mid_lt hy hz hyz
  have hE := (end_ok hx h).2.2.1
  have k1 := leq_lt hx.den hy.den hm.den hxy m1
  have k2 := lt_leq hm.den hz.den hE.den m2 hze
  refine bestAt_is hm q (fun o ho => ?_) (fun o ho => ?_)
  · exact (best_in hx hm h k1 k2 (by rw [q]; exact List.mem_append_left _ ho)).2 (h1 o ho)
  · exact (best_in hx hm h k1 k2 (by rw [q]; exact List.mem_append_right _ (List.mem_cons_of_mem _ ho))).1
/-- along one piece -/
theorem fold_in {x : Frac} {l : LineM} (hx : Red x) (h : IsBest (fs.zip ls) x l) : ∀ (r : List Frac) (y : Frac) (acc : List Piece), Marks (y :: r) → leq x y → endM (fs.zip ls) l ∈ y :: r →
    ∃ r', (∃ p, y :: r = p ++ endM (fs.zip ls) l :: r') ∧ ((y :: r).zip r).foldl (stepP fs ls) (acc ++ [⟨l.1, x, y⟩]) = ((endM (fs.zip ls) l :: r').zip r').foldl (stepP fs ls) (acc ++ [⟨l.1, x, endM (fs.zip ls) l⟩])
  | [], y, acc, _, _, he => by
    rw [List.mem_singleton] at he
    rw [he]
    exact ⟨[], ⟨[], rfl⟩, rfl⟩
  | z :: r, y, acc, hM, hxy, he => by
    rcases List.mem_cons.mp he with e | e
    · rw [e]
      exact ⟨z :: r, ⟨[], rfl⟩, rfl⟩
    · have hy := hM.red y (List.mem_cons_self ..)
      have hz := hM.red z (List.mem_cons_of_mem _ (List.mem_cons_self ..))
      obtain ⟨o1, o2⟩ := List.pairwise_cons.mp hM.ord
      have hyz := o1 z (List.mem_cons_self ..)
      have hM' : Marks (z :: r) := ⟨fun w hw => hM.red w (List.mem_cons_of_mem _ hw), o2⟩
      have hze : leq z (endM (fs.zip ls) l) := by
        rcases List.mem_cons.mp e with q | q
        · rw [q]
          exact less_irrefl _
        · exact less_asymm ((List.pairwise_cons.mp o2).1 _ q)
      have hb := mid_best hfs hlen hx hy hz h hxy hyz hze
      have hxz : leq x z := less_asymm (leq_lt hx.den hy.den hz.den hxy hyz)
      obtain ⟨r', ⟨p, hp⟩, hf⟩ := fold_in hx h r z acc hM' hxz e
      refine ⟨r', ⟨y :: p, by rw [hp]; rfl⟩, ?_⟩
      rw [List.zip_cons_cons, List.foldl_cons]
      have st : stepP fs ls (acc ++ [⟨l.1, x, y⟩]) (y, z) = acc ++ [⟨l.1, x, z⟩] := by
        unfold stepP
        rw [hb]
        exact put_same acc l.1 x y z
      rw [st]
      exact hf
theorem run_go (hne : fs.zip ls ≠ []) (hzip : ∀ a ∈ fs.zip ls, a.2 ∈ ls) : ∀ (n : Nat) (pre r : List Frac) (x : Frac) (acc : List Piece), r.length ≤ n → marks ls = pre ++ x :: r →
    (less x (whole 100) = true → ∀ q, acc.getLast? = some q → ∀ l, IsBest (fs.zip ls) x l → q.s ≠ l.1) → ∃ ps, Run (fs.zip ls) x ps ∧ ((x :: r).zip r).foldl (stepP fs ls) acc = acc ++ ps := by
  obtain ⟨M, hin, _, h100, hme⟩ := marks_ok ls
  intro n
  induction n with
  | zero =>
    intro pre r x acc hl he _
    have hr : r = [] := List.eq_nil_of_length_eq_zero (by omega)
    subst hr
    refine ⟨[], .done ?_, (List.append_nil _).symm⟩
    -- x is the last mark: 100 is not behind it
    have ho := M.ord
    rw [he, List.pairwise_append] at ho
    rw [he] at h100
    rcases List.mem_append.mp h100 with q | q
    · exact less_asymm (ho.2.2 _ q x (List.mem_cons_self ..))
    · rw [List.mem_singleton] at q
      rw [← q]
      exact less_irrefl _
  | succ n ih =>
    intro pre r x acc hl he hacc
    have hxM : x ∈ marks ls := by
      rw [he]
      exact List.mem_append_right _ (List.mem_cons_self ..)
    have hx := M.red x hxM
    have ho := M.ord
    rw [he, List.pairwise_append] at ho
    obtain ⟨_, ho2, ho3⟩ := ho
    have hMr : Marks (x :: r) := ⟨fun w hw => M.red w (by rw [he]; exact List.mem_append_right _ hw), ho2⟩
    obtain ⟨ho4, ho5⟩ := List.pairwise_cons.mp ho2
    cases hlt : less x (whole 100) with
    | false =>
      have hr : r = [] := by
        cases r with
        | nil => rfl
        | cons y r =>
          have h1 := ho4 y (List.mem_cons_self ..)
          have hyM : y ∈ marks ls := by
            rw [he]
            exact List.mem_append_right _ (List.mem_cons_of_mem _ (List.mem_cons_self ..))
          have hy := M.red y hyM
          have hle : leq y (whole 100) := by
            rcases hin y hyM with q | q | q
            · rw [q]
              show less (whole 100) (whole 0) = false
              decide
            · rw [q]
              exact less_irrefl _
            · exact less_asymm q.2
          rw [lt_leq hx.den hy.den Nat.one_pos h1 hle] at hlt
          cases hlt
      subst hr
      exact ⟨[], .done hlt, (List.append_nil _).symm⟩
    | true =>
      obtain ⟨l, hb⟩ := exists_best x (fs.zip ls) hne
      obtain ⟨e1, e2, e3, _, e5⟩ := end_ok hx hb
      have hlt2 := e5 hlt
      have heM : endM (fs.zip ls) l ∈ marks ls := by
        rcases e1 with q | ⟨o, ho, hs, hbg, hr, hq⟩
        · rw [q]
          exact h100
        · rw [hr]
          exact hme l.2 (hzip l hb.1) o.2 (hzip o ho) hs hbg hq
      have her : endM (fs.zip ls) l ∈ r := by
        rw [he] at heM
        rcases List.mem_append.mp heM with q | q
        · have := ho3 _ q x (List.mem_cons_self ..)
          rw [less_asymm hlt2] at this
          cases this
        · rcases List.mem_cons.mp q with q | q
          · rw [q, less_irrefl] at hlt2
            cases hlt2
          · exact q
      cases r with
      | nil => cases her
      | cons y r =>
        have hy := hMr.red y (List.mem_cons_of_mem _ (List.mem_cons_self ..))
        have hxy := ho4 y (List.mem_cons_self ..)
        have hye : leq y (endM (fs.zip ls) l) := by
          rcases List.mem_cons.mp her with q | q
          · rw [q]
            exact less_irrefl _
          · exact less_asymm ((List.pairwise_cons.mp ho5).1 _ q)
        have hbest := mid_best hfs hlen hx hx hy hb (less_irrefl x) hxy hye
        obtain ⟨r', ⟨p, hp⟩, hf⟩ := fold_in hfs hlen hx hb r y acc ⟨fun w hw => hMr.red w (List.mem_cons_of_mem _ hw), ho5⟩ (less_asymm hxy) her
        have st : stepP fs ls acc (x, y) = acc ++ [⟨l.1, x, y⟩] := by
          unfold stepP
          rw [hbest]
          exact put_other fun q hq => hacc hlt q hq l hb
        have hrl : r'.length ≤ n := by
          have := congrArg List.length hp
          rw [List.length_cons, List.length_append, List.length_cons] at this
          rw [List.length_cons] at hl
          omega
        obtain ⟨ps, hrun, hfold⟩ := ih (pre ++ x :: p) r' (endM (fs.zip ls) l) (acc ++ [⟨l.1, x, endM (fs.zip ls) l⟩]) hrl (by rw [he, hp, List.append_assoc]; rfl) (by
          intro hlt3 q hq l2 hl2
          rw [List.getLast?_concat] at hq
          injection hq with hq
          rw [← hq]
          exact best_end (zip_uniq hfs hlen) hx hb hlt3 hl2)
        refine ⟨_, .step hlt hb hrun, ?_⟩
        rw [List.zip_cons_cons, List.foldl_cons, st, hf, hfold, List.append_assoc]
        rfl
end
theorem mid_is (x y : Frac) : times (frac 1 2) (plus x y) = mid x y := rfl
/-- the program's run gives the specification's pieces -/
theorem run_pieces {t : Table} {cs : List Nat} {room q : Nat} (hfit : fitting t cs room ≠ []) : Run ((fitting t cs room).zip ((fitting t cs room).map (lineOf t cs q))) (whole 0) (pieces t cs room q) := by
  have hfs : (fitting t cs room).Pairwise (· < ·) := by
    unfold fitting Vamvse.setsOf
    exact List.Pairwise.filter _ List.pairwise_lt_range
  have hlen : (fitting t cs room).length ≤ ((fitting t cs room).map (lineOf t cs q)).length := by
    rw [List.length_map]
    exact Nat.le_refl _
  generalize hF : fitting t cs room = F at *
  generalize hL : F.map (lineOf t cs q) = L at *
  have hne : F.zip L ≠ [] := by
    rw [← hL]
    cases F with
    | nil => exact absurd rfl hfit
    | cons a r => simp
  have hzip : ∀ a ∈ F.zip L, a.2 ∈ L := fun a ha => (List.of_mem_zip ha).2
  obtain ⟨M, hin, h0, _, _⟩ := marks_ok L
  -- 0 stands first
  cases hm : marks L with
  | nil =>
    rw [hm] at h0
    cases h0
  | cons x r =>
    have hx0 : x = whole 0 := by
      rw [hm] at h0
      rcases List.mem_cons.mp h0 with e | e
      · exact e.symm
      · have ho := M.ord
        rw [hm] at ho
        have h1 := (List.pairwise_cons.mp ho).1 _ e
        have hx := M.red x (by rw [hm]; exact List.mem_cons_self ..)
        rw [less_iff] at h1
        have h2 : x.num * ((1 : Nat) : Int) < (0 : Int) * x.den := h1
        have := hx.num
        omega
    obtain ⟨ps, hrun, hf⟩ := run_go hfs hlen hne hzip r.length [] r x [] (Nat.le_refl _) (by rw [hm]; rfl) (fun _ q hq => by cases hq)
    rw [hx0] at hrun
    have e : pieces t cs room q = ps := by
      unfold pieces
      rw [hF]
      dsimp only
      rw [hL, hm]
      rw [List.nil_append] at hf
      exact hf
    rw [e]
    exact hrun
end KA
end
section
set_option autoImplicit false
/-! Mathematics 4: tokens. -/
namespace KA
open VamvsBase

/-! ### scanning -/
def sc (f : UInt8 → Bool) (b : Bytes) (p : Nat) : Nat := p + ((b.drop p).takeWhile f).length
theorem drop_at {b : Bytes} {p : Nat} {c : UInt8} (h : b[p]? = some c) : b.drop p = c :: b.drop (p + 1) := by
  obtain ⟨hl, e⟩ := List.getElem?_eq_some_iff.mp h
  rw [List.drop_eq_getElem_cons hl, e]
theorem sc_yes {f : UInt8 → Bool} {b : Bytes} {p : Nat} {c : UInt8} (h : b[p]? = some c) (hf : f c = true) : sc f b p = sc f b (p + 1) := by
  unfold sc
  rw [drop_at h, List.takeWhile_cons, if_pos hf, List.length_cons]
  omega
theorem sc_no {f : UInt8 → Bool} {b : Bytes} {p : Nat} {c : UInt8} (h : b[p]? = some c) (hf : f c = false) : sc f b p = p := by
  unfold sc
  rw [drop_at h, List.takeWhile_cons, if_neg (by rw [hf]; decide)]
  rfl
theorem sc_end {f : UInt8 → Bool} {b : Bytes} {p : Nat} (h : b.length ≤ p) : sc f b p = p := by
  unfold sc
  rw [List.drop_eq_nil_of_le h]
  rfl
theorem sc_le {f : UInt8 → Bool} {b : Bytes} {p : Nat} (h : p ≤ b.length) : sc f b p ≤ b.length := by
  unfold sc
  have h1 : ((b.drop p).takeWhile f).length ≤ (b.drop p).length := (List.takeWhile_prefix f).length_le
  rw [List.length_drop] at h1
  omega
theorem take_while (f : UInt8 → Bool) : ∀ l : Bytes, l.take (l.takeWhile f).length = l.takeWhile f ∧ l.drop (l.takeWhile f).length = l.dropWhile f
  | [] => ⟨rfl, rfl⟩
  | c :: r => by
    obtain ⟨h1, h2⟩ := take_while f r
    rw [List.takeWhile_cons, List.dropWhile_cons]
    by_cases h : f c = true
    · rw [if_pos h, if_pos h, List.length_cons, List.take_succ_cons, List.drop_succ_cons, h1, h2]
      exact ⟨rfl, rfl⟩
    · rw [if_neg h, if_neg h]
      exact ⟨rfl, rfl⟩
theorem sc_cut (f : UInt8 → Bool) (b : Bytes) (p : Nat) : (b.drop p).take (sc f b p - p) = (b.drop p).takeWhile f ∧ b.drop (sc f b p) = (b.drop p).dropWhile f := by
  unfold sc
  rw [Nat.add_sub_cancel_left, ← List.drop_drop]
  exact take_while f _

/-! ### the lexer without fuel -/
theorem token_pos {c : UInt8} {r : Bytes} {x : Tok × Nat} (h : token (c :: r) = some x) : 1 ≤ x.2 := by
  unfold token at h
  dsimp only at h
  split at h
  · rename_i hl
    split at h
    · cases h
    · injection h with h
      rw [← h]
      show 1 ≤ ((c :: r).takeWhile fun c => isLetter c || isDigit c).length
      rw [List.takeWhile_cons, if_pos (by rw [hl]; rfl), List.length_cons]
      omega
  · split at h
    · rename_i hd
      obtain ⟨n, _, e⟩ := Option.map_eq_some_iff.mp h
      rw [← e]
      show 1 ≤ ((c :: r).takeWhile isDigit).length
      rw [List.takeWhile_cons, if_pos hd, List.length_cons]
      omega
    · split at h
      · injection h with h
        rw [← h]
        exact Nat.le_refl _
      · cases h
theorem lex_fuel : ∀ (k : Nat) (rest : Bytes) (a n m : Nat), rest.length ≤ k → rest.length < n → rest.length < m → lex n a rest = lex m a rest
  | k, [], a, n, m, _, hn, hm => by
    cases n with
    | zero => cases hn
    | succ n =>
      cases m with
      | zero => cases hm
      | succ m => rfl
  | 0, c :: r, a, n, m, h, _, _ => by
    rw [List.length_cons] at h
    omega
  | k + 1, c :: r, a, n, m, h, hn, hm => by
    cases n with
    | zero => cases hn
    | succ n =>
      cases m with
      | zero => cases hm
      | succ m =>
        rw [List.length_cons] at h hn hm
        unfold lex
        by_cases hb : isBlank c = true
        · rw [if_pos hb, if_pos hb]
          exact lex_fuel k r (a + 1) n m (by omega) (by omega) (by omega)
        · rw [if_neg hb, if_neg hb]
          by_cases h35 : (c == 35) = true
          · rw [if_pos h35, if_pos h35]
            have h1 : (r.dropWhile (· != 10)).length ≤ r.length := (List.dropWhile_suffix _).length_le
            exact lex_fuel k _ _ n m (by omega) (by omega) (by omega)
          · rw [if_neg h35, if_neg h35]
            cases ht : token (c :: r) with
            | none => rfl
            | some x =>
              dsimp only
              have hx := token_pos ht
              have h1 : ((c :: r).drop x.2).length ≤ r.length := by
                rw [List.length_drop, List.length_cons]
                omega
              rw [lex_fuel k _ _ n m (by omega) (by omega) (by omega)]
/-- the tokens from a place on -/
def lexAt (b : Bytes) (p : Nat) : Except Fault Toks := lex ((b.drop p).length + 1) p (b.drop p)
theorem lex_eq (b : Bytes) (h : b.length ≤ TEXT) : tokens b = lexAt b 0 := by
  unfold tokens lexAt
  rw [if_neg (by omega), List.drop_zero]
theorem lexAt_end {b : Bytes} {p : Nat} (h : b.length ≤ p) : lexAt b p = .ok [⟨p, .last⟩] := by
  unfold lexAt
  rw [List.drop_eq_nil_of_le h]
  rfl
theorem lexAt_blank {b : Bytes} {p : Nat} {c : UInt8} (h : b[p]? = some c) (hb : isBlank c = true) : lexAt b p = lexAt b (p + 1) := by
  unfold lexAt
  rw [drop_at h, List.length_cons]
  show (if isBlank c = true then _ else _) = _
  rw [if_pos hb]
theorem lexAt_remark {b : Bytes} {p : Nat} (h : b[p]? = some 35) : lexAt b p = lexAt b (sc (· != 10) b p) := by
  have e := (sc_cut (· != 10) b p).2
  have e2 : sc (· != 10) b p = p + 1 + ((b.drop (p + 1)).takeWhile (· != 10)).length := by
    rw [sc_yes h (by decide)]
    rfl
  unfold lexAt
  rw [e, drop_at h, List.length_cons]
  show (if isBlank 35 = true then _ else if ((35 : UInt8) == 35) = true then _ else _) = _
  rw [if_neg (by decide), if_pos (by decide), e2]
  have e3 : ((35 : UInt8) :: b.drop (p + 1)).dropWhile (· != 10) = (b.drop (p + 1)).dropWhile (· != 10) := by
    rw [List.dropWhile_cons, if_pos (by decide)]
  rw [e3]
  have h1 : ((b.drop (p + 1)).dropWhile (· != 10)).length ≤ (b.drop (p + 1)).length := (List.dropWhile_suffix _).length_le
  exact lex_fuel _ _ _ _ _ (Nat.le_refl _) (by omega) (by omega)
theorem lexAt_token {b : Bytes} {p : Nat} {c : UInt8} (h : b[p]? = some c) (hb : isBlank c = false) (h35 : c ≠ 35) : lexAt b p = match token (b.drop p) with
    | none => .error ⟨2, p⟩
    | some x => (lexAt b (p + x.2)).map fun l => ⟨p, x.1⟩ :: l := by
  unfold lexAt
  rw [drop_at h, List.length_cons]
  show (if isBlank c = true then _ else if (c == 35) = true then _ else _) = _
  rw [if_neg (by rw [hb]; decide), if_neg (by simpa using h35)]
  cases ht : token (c :: b.drop (p + 1)) with
  | none => rfl
  | some x =>
    dsimp only
    have hx := token_pos ht
    have e : (c :: b.drop (p + 1)).drop x.2 = b.drop (p + x.2) := by
      rw [← drop_at h, List.drop_drop]
    rw [e]
    have h1 : (b.drop (p + x.2)).length ≤ (b.drop (p + 1)).length := by
      rw [List.length_drop, List.length_drop]
      omega
    rw [lex_fuel _ (b.drop (p + x.2)) _ _ ((b.drop (p + x.2)).length + 1) (Nat.le_refl _) (by omega) (by omega)]
theorem letter_not {c : UInt8} (h : isLetter c = true) : isBlank c = false ∧ c ≠ 35 ∧ isDigit c = false := by
  have hb : isLetter c = true → isBlank c = false ∧ c ≠ 35 ∧ isDigit c = false := by
    unfold isLetter isBlank isDigit
    intro h
    simp only [Bool.or_eq_true, decide_eq_true_eq] at h
    have n : ∀ k : UInt8, c = k → c.toNat = k.toNat := fun k e => by rw [e]
    refine ⟨?_, fun e => ?_, decide_eq_false fun q => ?_⟩
    · rw [Bool.or_eq_false_iff, Bool.or_eq_false_iff]
      refine ⟨?_, ?_, ?_⟩ <;> simp only [beq_eq_false_iff_ne] <;> intro e <;> have := n _ e <;> simp at this <;> omega
    · have := n _ e
      simp at this
      omega
    · omega
  exact hb h
theorem digit_not {c : UInt8} (h : isDigit c = true) : isBlank c = false ∧ c ≠ 35 ∧ isLetter c = false := by
  unfold isDigit at h
  simp only [decide_eq_true_eq] at h
  have n : ∀ k : UInt8, c = k → c.toNat = k.toNat := fun k e => by rw [e]
  refine ⟨?_, fun e => ?_, ?_⟩
  · unfold isBlank
    rw [Bool.or_eq_false_iff, Bool.or_eq_false_iff]
    refine ⟨?_, ?_, ?_⟩ <;> simp only [beq_eq_false_iff_ne] <;> intro e <;> have := n _ e <;> simp at this <;> omega
  · have := n _ e
    simp at this
    omega
  · unfold isLetter
    rw [Bool.or_eq_false_iff]
    exact ⟨decide_eq_false fun q => by omega, decide_eq_false fun q => by omega⟩
theorem lexAt_word {b : Bytes} {p : Nat} {c : UInt8} (h : b[p]? = some c) (hl : isLetter c = true) : lexAt b p =
    if NAME < ((b.drop p).takeWhile fun c => isLetter c || isDigit c).length then .error ⟨2, p⟩
    else (lexAt b (sc (fun c => isLetter c || isDigit c) b p)).map fun l => ⟨p, .name ((b.drop p).takeWhile fun c => isLetter c || isDigit c)⟩ :: l := by
  obtain ⟨h1, h2, h3⟩ := letter_not hl
  rw [lexAt_token h h1 h2]
  have e : token (b.drop p) = (if NAME < ((b.drop p).takeWhile fun c => isLetter c || isDigit c).length then none else some (.name ((b.drop p).takeWhile fun c => isLetter c || isDigit c), ((b.drop p).takeWhile fun c => isLetter c || isDigit c).length)) := by
    rw [drop_at h]
    unfold token
    dsimp only
    rw [if_pos hl]
  rw [e]
  by_cases hc : NAME < ((b.drop p).takeWhile fun c => isLetter c || isDigit c).length
  · rw [if_pos hc, if_pos hc]
  · rw [if_neg hc, if_neg hc]
    rfl
theorem lexAt_number {b : Bytes} {p : Nat} {c : UInt8} (h : b[p]? = some c) (hd : isDigit c = true) : lexAt b p = match numberOf ((b.drop p).takeWhile isDigit) with
    | none => .error ⟨2, p⟩
    | some n => (lexAt b (sc isDigit b p)).map fun l => ⟨p, .num n⟩ :: l := by
  obtain ⟨h1, h2, h3⟩ := digit_not hd
  rw [lexAt_token h h1 h2]
  have e : token (b.drop p) = (numberOf ((b.drop p).takeWhile isDigit)).map fun n => (.num n, ((b.drop p).takeWhile isDigit).length) := by
    rw [drop_at h]
    unfold token
    dsimp only
    rw [if_neg (by rw [h3]; decide), if_pos hd]
  rw [e]
  cases numberOf ((b.drop p).takeWhile isDigit) with
  | none => rfl
  | some n => rfl
theorem lexAt_sign {b : Bytes} {p : Nat} {c : UInt8} (h : b[p]? = some c) (hb : isBlank c = false) (h35 : c ≠ 35) (hl : isLetter c = false) (hd : isDigit c = false) : lexAt b p =
    if SIGNS.contains c = true then (lexAt b (p + 1)).map fun l => ⟨p, .sign c.toNat⟩ :: l else .error ⟨2, p⟩ := by
  rw [lexAt_token h hb h35]
  have e : token (b.drop p) = if SIGNS.contains c = true then some (.sign c.toNat, 1) else none := by
    rw [drop_at h]
    unfold token
    dsimp only
    rw [if_neg (by rw [hl]; decide), if_neg (by rw [hd]; decide)]
  rw [e]
  by_cases hc : SIGNS.contains c = true
  · rw [if_pos hc, if_pos hc]
  · rw [if_neg hc, if_neg hc]

/-! ### numbers -/
theorem dec_ge : ∀ (r : Bytes) (n : Nat), n * 10 ^ r.length ≤ r.foldl (fun n b => 10 * n + (b.toNat - 48)) n
  | [], n => by simp
  | c :: r, n => by
    rw [List.foldl_cons, List.length_cons, Nat.pow_succ]
    have h := dec_ge r (10 * n + (c.toNat - 48))
    refine Nat.le_trans ?_ h
    have e : n * (10 ^ r.length * 10) = (10 * n) * 10 ^ r.length := by
      rw [Nat.mul_comm (10 ^ r.length) 10, ← Nat.mul_assoc, Nat.mul_comm n 10]
    rw [e]
    exact Nat.mul_le_mul_right _ (Nat.le_add_right _ _)
/-- what the program asks of digits -/
theorem number_is {w : Bytes} (hw : ∀ c ∈ w, isDigit c = true) (hne : w ≠ []) : numberOf w = if NUMBER < decimal w ∨ (w.head? = some 48 ∧ 1 < w.length) then none else some (decimal w) := by
  unfold numberOf
  by_cases h : NUMBER < decimal w ∨ (w.head? = some 48 ∧ 1 < w.length)
  · rw [if_pos h, if_pos]
    rcases h with h | h
    · exact .inr (.inr (.inr h))
    · exact .inr (.inr (.inl ⟨h.2, h.1⟩))
  · rw [if_neg h, if_neg]
    rintro (q | q | q | q)
    · exact hne q
    · -- more than ten digits, none a zero in front
      cases w with
      | nil => exact hne rfl
      | cons c r =>
        have hd := hw c (List.mem_cons_self ..)
        unfold isDigit at hd
        simp only [decide_eq_true_eq] at hd
        have hc : c ≠ 48 := fun e => h (.inr ⟨by rw [e]; rfl, by rw [List.length_cons] at q ⊢; omega⟩)
        have hc2 : c.toNat ≠ 48 := fun e => hc (UInt8.toNat_inj.mp (by rw [e]; rfl))
        have h1 := dec_ge r (10 * 0 + (c.toNat - 48))
        have h2 : 10 ^ 10 ≤ 10 ^ r.length := Nat.pow_le_pow_right (by decide) (by rw [List.length_cons] at q; omega)
        have h3 : 1 * 10 ^ r.length ≤ (10 * 0 + (c.toNat - 48)) * 10 ^ r.length := Nat.mul_le_mul_right _ (by omega)
        have h4 : decimal (c :: r) = r.foldl (fun n b => 10 * n + (b.toNat - 48)) (10 * 0 + (c.toNat - 48)) := rfl
        exact h (.inl (by
          show 1000000000 < decimal (c :: r)
          rw [h4]
          omega))
    · exact h (.inr ⟨q.2, q.1⟩)
    · exact h (.inl q)
end KA
end
section
set_option autoImplicit false
/-! Mathematics 5: reading. -/
namespace KA
open VamvsBase
open Vamvsa (takeColumns takeNat takeValues takeInt takeAsked takeTimes takeAsk takeLines COLUMNS ROWS ASKS VALUE SIZE TIMES Row Ask Table)

def EndsL (l : Toks) : Prop := ∃ (m : Toks) (p : Nat), l = m ++ [⟨p, .last⟩]
theorem EndsL.cons {x : PTok} {r : Toks} (h : EndsL (x :: r)) (hx : x.tok ≠ .last) : EndsL r := by
  obtain ⟨m, p, e⟩ := h
  cases m with
  | nil =>
    rw [List.nil_append] at e
    injection e with e1 e2
    exact absurd (by rw [e1]) hx
  | cons y m =>
    rw [List.cons_append] at e
    injection e with e1 e2
    exact ⟨m, p, e2⟩
theorem EndsL.ne {l : Toks} (h : EndsL l) : ∃ x r, l = x :: r := by
  obtain ⟨m, p, e⟩ := h
  cases m with
  | nil => exact ⟨_, _, e⟩
  | cons y m => exact ⟨_, _, e⟩
theorem lex_ends : ∀ (n a : Nat) (b : Bytes) (l : Toks), lex n a b = .ok l → EndsL l
  | 0, a, b, l, h => by
    have e : Except.ok [⟨a, .last⟩] = Except.ok l := h
    injection e with e
    exact ⟨[], a, e.symm⟩
  | n + 1, a, [], l, h => by
    have e : Except.ok [⟨a, .last⟩] = Except.ok l := h
    injection e with e
    exact ⟨[], a, e.symm⟩
  | n + 1, a, c :: r, l, h => by
    unfold lex at h
    split at h
    · exact lex_ends n _ _ l h
    · split at h
      · exact lex_ends n _ _ l h
      · split at h
        · cases h
        · rename_i x hx
          cases q : lex n (a + x.2) ((c :: r).drop x.2) with
          | error f =>
            rw [q] at h
            cases h
          | ok l2 =>
            rw [q] at h
            have e : Except.ok (⟨a, x.1⟩ :: l2) = Except.ok l := h
            injection e with e
            obtain ⟨m, p, e2⟩ := lex_ends n _ _ l2 q
            exact ⟨⟨a, x.1⟩ :: m, p, by rw [← e, e2]; rfl⟩
theorem tokens_ends {b : Bytes} {l : Toks} (h : tokens b = .ok l) : EndsL l := by
  unfold tokens at h
  split at h
  · cases h
  · exact lex_ends _ _ _ _ h

/-! ### takers -/
def takeNum (lo hi : Nat) (l : Toks) : Except Fault (Nat × Toks) := match l with
  | ⟨q, .num n⟩ :: r => if n < lo ∨ hi < n then .error ⟨7, q⟩ else .ok (n, r)
  | m => wrong m
theorem nat_num (most : Nat) : ∀ l : Toks, takeNat most l = takeNum 0 most l
  | [] => rfl
  | ⟨q, .num n⟩ :: r => by
    show (if most < n then _ else _) = (if n < 0 ∨ most < n then _ else _)
    by_cases h : most < n
    · rw [if_pos h, if_pos (.inr h)]
    · rw [if_neg h, if_neg (fun y => by omega)]
  | ⟨_, .name _⟩ :: _ => rfl
  | ⟨_, .sign _⟩ :: _ => rfl
  | ⟨_, .last⟩ :: _ => rfl
theorem times_num (l : Toks) : takeTimes l = if nextWord "times" l = true then takeNum 1 TIMES (l.drop 1) else .ok (1, l) := rfl
def takeCol (cs : List Bytes) (l : Toks) : Except Fault (List Bytes × Toks) := (takeName l).bind fun x => if COLUMNS ≤ cs.length then .error ⟨4, x.1.place⟩ else if cs.contains x.1.name = true then .error ⟨5, x.1.place⟩ else .ok (cs ++ [x.1.name], x.2)
def contCols (n : Nat) (cs : List Bytes) (l : Toks) : Except Fault (List Bytes × Toks) := if next (.sign 44) l = true then takeColumns n cs (l.drop 1) else (takeSign 59 l).map fun m => (cs, m)
theorem cols_next (n : Nat) (cs : List Bytes) (l : Toks) : takeColumns (n + 1) cs l = (takeCol cs l).bind fun y => contCols n y.1 y.2 := by
  unfold takeColumns takeCol contCols
  cases takeName l with
  | error f => rfl
  | ok x =>
    show (if COLUMNS ≤ cs.length then _ else _) = Except.bind (if COLUMNS ≤ cs.length then _ else _) _
    split
    · rfl
    · split
      · rfl
      · rfl
def nameStep (cs : List Bytes) (g : Nat) (l : Toks) : Except Fault (Nat × Toks) := (takeName l).bind fun x => match cs.findIdx? fun c => c == x.1.name with
    | none => .error ⟨8, x.1.place⟩
    | some i => if g / 2 ^ i % 2 = 1 then .error ⟨6, x.1.place⟩ else .ok (2 ^ i, x.2)
def contAsked (cs : List Bytes) (n g : Nat) (l : Toks) : Except Fault (Nat × Toks) := if next (.sign 44) l = true then takeAsked cs n g (l.drop 1) else .ok (g, l)
theorem asked_next (cs : List Bytes) (n g : Nat) (l : Toks) : takeAsked cs (n + 1) g l = (nameStep cs g l).bind fun y => contAsked cs n (g + y.1) y.2 := by
  unfold takeAsked nameStep contAsked
  cases takeName l with
  | error f => rfl
  | ok x =>
    show (match cs.findIdx? fun c => c == x.1.name with | none => _ | some i => _) = Except.bind (match cs.findIdx? fun c => c == x.1.name with | none => _ | some i => _) _
    cases cs.findIdx? fun c => c == x.1.name with
    | none => rfl
    | some i =>
      dsimp only
      split
      · rfl
      · rfl
def rowOf (n : Nat) (l : Toks) : Except Fault ((List Nat × Int) × Toks) := (takeValues n [] l).bind fun v => (takeSign 58 v.2).bind fun r => (takeInt r).bind fun x => (takeSign 59 x.2).bind fun m => .ok ((v.1, x.1), m)
theorem lines_next (n : Nat) (t : Table) (l : Toks) : takeLines (n + 1) t l =
    if next .last l = true then .ok t
    else if nextWord "row" l = true then (if ROWS ≤ t.rows.length then .error ⟨4, here l⟩ else (rowOf t.cols.length (l.drop 1)).bind fun y => takeLines n { t with rows := t.rows ++ [⟨y.1.1, y.1.2⟩] } y.2)
    else (takeWord "ask" l).bind fun r => if ASKS ≤ t.asks.length then .error ⟨4, here l⟩ else (takeAsk t.cols r).bind fun a => takeLines n { t with asks := t.asks ++ [a.1] } a.2 := by
  conv => lhs; unfold takeLines
  by_cases h : next .last l = true
  · rw [if_pos h, if_pos h]
  · rw [if_neg h, if_neg h]
    by_cases h2 : nextWord "row" l = true
    · rw [if_pos h2, if_pos h2]
      by_cases h3 : ROWS ≤ t.rows.length
      · rw [if_pos h3, if_pos h3]
      · rw [if_neg h3, if_neg h3]
        unfold rowOf
        cases takeValues t.cols.length [] (l.drop 1) with
        | error f => rfl
        | ok v =>
          show Except.bind (takeSign 58 v.2) _ = Except.bind (Except.bind (takeSign 58 v.2) _) _
          cases takeSign 58 v.2 with
          | error f => rfl
          | ok r =>
            show Except.bind (takeInt r) _ = Except.bind (Except.bind (takeInt r) _) _
            cases takeInt r with
            | error f => rfl
            | ok x =>
              show Except.bind (takeSign 59 x.2) _ = Except.bind (Except.bind (takeSign 59 x.2) _) _
              cases takeSign 59 x.2 with
              | error f => rfl
              | ok m => rfl
    · rw [if_neg h2, if_neg h2]

/-! ### what is left is no longer -/
def Shr {α : Type} (x : Except Fault (α × Toks)) (l : Toks) : Prop := ∀ a, x = .ok a → a.2.length ≤ l.length
theorem Shr.bind {α β : Type} {x : Except Fault (α × Toks)} {l : Toks} {g : α × Toks → Except Fault (β × Toks)} (h : Shr x l) (hg : ∀ a, Shr (g a) a.2) : Shr (x.bind g) l := by
  intro b hb
  cases x with
  | error f => cases hb
  | ok a => exact Nat.le_trans (hg a b hb) (h a rfl)
theorem Shr.weak {α : Type} {x : Except Fault (α × Toks)} {l l' : Toks} (h : Shr x l) (hl : l.length ≤ l'.length) : Shr x l' := fun a ha => Nat.le_trans (h a ha) hl
theorem taken_len {t : Tok} {l l' : Toks} (h : taken t l = .ok l') : l' = l.drop 1 := by
  unfold taken at h
  split at h
  · injection h with h
    exact h.symm
  · cases h
theorem Shr.after {β : Type} {t : Tok} {l : Toks} {g : Toks → Except Fault (β × Toks)} (hg : ∀ r, Shr (g r) r) : Shr ((taken t l).bind g) l := by
  intro b hb
  cases q : taken t l with
  | error f =>
    rw [q] at hb
    cases hb
  | ok r =>
    rw [q] at hb
    have h1 := hg r b hb
    rw [taken_len q, List.length_drop] at h1
    omega
theorem Shr.ok {α : Type} {a : α} {l : Toks} : Shr (.ok (a, l)) l := fun b hb => by
  injection hb with hb
  rw [← hb]
  exact Nat.le_refl _
theorem shr_name (l : Toks) : ∀ a, takeName l = .ok a → a.2.length + 1 = l.length := by
  intro a h
  unfold takeName at h
  split at h
  · split at h
    · cases h
    · injection h with h
      rw [← h]
      rfl
  · cases h
theorem shr_num (lo hi : Nat) (l : Toks) : Shr (takeNum lo hi l) l := by
  intro a h
  unfold takeNum at h
  split at h
  · split at h
    · cases h
    · injection h with h
      rw [← h]
      exact Nat.le_succ _
  · cases h
theorem shr_values : ∀ (n : Nat) (vs : List Nat) (l : Toks), Shr (takeValues n vs l) l
  | 0, vs, l => Shr.ok
  | n + 1, vs, l => by
    intro b hb
    unfold takeValues at hb
    have go : ∀ r : Toks, Shr ((takeNat VALUE r).bind fun x => takeValues n (vs ++ [x.1]) x.2) r := fun r => by
      rw [nat_num]
      exact (shr_num _ _ r).bind fun a => shr_values n _ _
    by_cases h : vs.isEmpty = true
    · rw [if_pos h] at hb
      exact go l b hb
    · rw [if_neg h] at hb
      exact Shr.after go b hb
theorem shr_int (l : Toks) : Shr (takeInt l) l := by
  intro b hb
  unfold takeInt at hb
  dsimp only at hb
  rw [nat_num] at hb
  cases q : takeNum 0 SIZE (if next (.sign 45) l = true then l.drop 1 else l) with
  | error f =>
    rw [q] at hb
    cases hb
  | ok x =>
    rw [q] at hb
    injection hb with hb
    rw [← hb]
    have h := shr_num _ _ _ _ q
    show x.2.length ≤ _
    split at h
    · rw [List.length_drop] at h
      omega
    · exact h
theorem shr_row (n : Nat) (l : Toks) : Shr (rowOf n l) l := (shr_values n [] l).bind fun v => Shr.after fun r => (shr_int r).bind fun x => Shr.after fun m => Shr.ok
theorem shr_col (cs : List Bytes) (l : Toks) : ∀ a, takeCol cs l = .ok a → a.2.length + 1 = l.length := by
  intro a h
  unfold takeCol at h
  cases q : takeName l with
  | error f =>
    rw [q] at h
    cases h
  | ok x =>
    rw [q] at h
    have h' : (if COLUMNS ≤ cs.length then Except.error (⟨4, x.1.place⟩ : Fault) else if cs.contains x.1.name = true then Except.error (⟨5, x.1.place⟩ : Fault) else Except.ok (cs ++ [x.1.name], x.2)) = Except.ok a := h
    split at h'
    · cases h'
    · split at h'
      · cases h'
      · injection h' with h'
        rw [← h']
        exact shr_name l x q
theorem shr_step (cs : List Bytes) (g : Nat) (l : Toks) : ∀ a, nameStep cs g l = .ok a → a.2.length + 1 = l.length := by
  intro a h
  unfold nameStep at h
  cases q : takeName l with
  | error f =>
    rw [q] at h
    cases h
  | ok x =>
    rw [q] at h
    have h' : (match cs.findIdx? fun c => c == x.1.name with
      | none => Except.error (⟨8, x.1.place⟩ : Fault)
      | some i => if g / 2 ^ i % 2 = 1 then Except.error (⟨6, x.1.place⟩ : Fault) else Except.ok (2 ^ i, x.2)) = Except.ok a := h
    split at h'
    · cases h'
    · split at h'
      · cases h'
      · injection h' with h'
        rw [← h']
        exact shr_name l x q
theorem shr_asked (cs : List Bytes) : ∀ (n g : Nat) (l : Toks), Shr (takeAsked cs n g l) l
  | 0, g, l => fun a h => by cases h
  | n + 1, g, l => by
    rw [asked_next]
    refine Shr.bind (fun a h => by have := shr_step cs g l a h; omega) fun y => ?_
    unfold contAsked
    split
    · exact (shr_asked cs n _ _).weak (by rw [List.length_drop]; omega)
    · exact Shr.ok
theorem shr_times (l : Toks) : Shr (takeTimes l) l := by
  rw [times_num]
  split
  · exact (shr_num _ _ _).weak (by rw [List.length_drop]; omega)
  · exact Shr.ok
theorem shr_ask (cs : List Bytes) (l : Toks) : Shr (takeAsk cs l) l := by
  unfold takeAsk
  refine Shr.bind ?_ fun g => Shr.bind (shr_times g.2) fun k => ?_
  · split
    · exact Shr.ok
    · exact shr_asked _ _ _ _
  · intro b hb
    cases q : takeSign 59 k.2 with
    | error f =>
      rw [q] at hb
      cases hb
    | ok m =>
      rw [q] at hb
      injection hb with hb
      rw [← hb]
      show m.length ≤ _
      rw [taken_len q, List.length_drop]
      omega

/-! ### what a table that is read keeps -/
structure TableOk (t : Table) : Prop where
  cols : t.cols.length ≤ 4
  rows : ∀ r ∈ t.rows, r.vs.length = t.cols.length
  many : t.rows.length ≤ 16
  asks : t.asks.length ≤ 8
  asked : ∀ q ∈ t.asks, q.g < 2 ^ t.cols.length ∧ q.k ≤ 99
theorem bind_ok {α β : Type} {x : Except Fault α} {g : α → Except Fault β} {b : β} (h : x.bind g = .ok b) : ∃ a, x = .ok a ∧ g a = .ok b := by
  cases x with
  | error f => cases h
  | ok a => exact ⟨a, rfl, h⟩
theorem col_len {cs : List Bytes} {l : Toks} {a : List Bytes × Toks} (h : takeCol cs l = .ok a) : a.1.length ≤ 4 := by
  unfold takeCol at h
  obtain ⟨x, _, h⟩ := bind_ok h
  split at h
  · cases h
  · rename_i hn
    have hn' : ¬ 4 ≤ cs.length := hn
    split at h
    · cases h
    · injection h with h
      rw [← h]
      show (cs ++ [x.1.name]).length ≤ 4
      rw [List.length_append, List.length_singleton]
      omega
theorem cols_len : ∀ (n : Nat) (cs : List Bytes) (l : Toks) (a : List Bytes × Toks), takeColumns n cs l = .ok a → a.1.length ≤ 4
  | 0, cs, l, a, h => by cases h
  | n + 1, cs, l, a, h => by
    rw [cols_next] at h
    obtain ⟨y, hy, h⟩ := bind_ok h
    unfold contCols at h
    split at h
    · exact cols_len n _ _ a h
    · cases q : takeSign 59 y.2 with
      | error f =>
        rw [q] at h
        cases h
      | ok m =>
        rw [q] at h
        injection h with h
        rw [← h]
        show y.1.length ≤ 4
        exact col_len hy
theorem values_len : ∀ (n : Nat) (vs : List Nat) (l : Toks) (a : List Nat × Toks), takeValues n vs l = .ok a → a.1.length = vs.length + n
  | 0, vs, l, a, h => by
    injection h with h
    rw [← h]
    rfl
  | n + 1, vs, l, a, h => by
    unfold takeValues at h
    obtain ⟨r, _, h⟩ := bind_ok h
    obtain ⟨x, _, h⟩ := bind_ok h
    rw [values_len n _ _ a h, List.length_append, List.length_singleton]
    omega
theorem row_len {n : Nat} {l : Toks} {a : (List Nat × Int) × Toks} (h : rowOf n l = .ok a) : a.1.1.length = n := by
  unfold rowOf at h
  obtain ⟨v, hv, h⟩ := bind_ok h
  obtain ⟨_, _, h⟩ := bind_ok h
  obtain ⟨_, _, h⟩ := bind_ok h
  obtain ⟨_, _, h⟩ := bind_ok h
  injection h with h
  rw [← h]
  have := values_len _ _ _ _ hv
  simpa using this
theorem bit_room {g i n : Nat} (hg : g < 2 ^ n) (hi : i < n) (hb : ¬ g / 2 ^ i % 2 = 1) : g + 2 ^ i < 2 ^ n := by
  have h0 : g / 2 ^ i % 2 = 0 := by omega
  have h1 : g % 2 ^ (i + 1) = g % 2 ^ i + 2 ^ i * (g / 2 ^ i % 2) := Nat.mod_pow_succ
  rw [h0, Nat.mul_zero, Nat.add_zero] at h1
  have h2 : g % 2 ^ i < 2 ^ i := Nat.mod_lt _ (Nat.two_pow_pos i)
  have h3 := Nat.div_add_mod g (2 ^ (i + 1))
  have h4 : 2 ^ n = 2 ^ (i + 1) * 2 ^ (n - (i + 1)) := by
    rw [← Nat.pow_add]
    congr 1
    omega
  have h5 : g / 2 ^ (i + 1) < 2 ^ (n - (i + 1)) := by
    refine Nat.div_lt_of_lt_mul ?_
    rw [← h4]
    exact hg
  have h6 : 2 ^ (i + 1) * (g / 2 ^ (i + 1) + 1) ≤ 2 ^ n := by
    rw [h4]
    exact Nat.mul_le_mul_left _ h5
  rw [Nat.mul_add, Nat.mul_one] at h6
  have h7 : 2 ^ (i + 1) = 2 ^ i + 2 ^ i := by
    rw [Nat.pow_succ]
    omega
  rw [h1] at h3
  omega
theorem step_bit {cs : List Bytes} {g : Nat} {l : Toks} {a : Nat × Toks} (h : nameStep cs g l = .ok a) (hg : g < 2 ^ cs.length) : g + a.1 < 2 ^ cs.length := by
  unfold nameStep at h
  obtain ⟨x, _, h⟩ := bind_ok h
  split at h
  · cases h
  · rename_i i hi
    split at h
    · cases h
    · rename_i hb
      injection h with h
      rw [← h]
      refine bit_room hg ?_ hb
      obtain ⟨hl, _⟩ := List.findIdx?_eq_some_iff_getElem.mp hi
      exact hl
theorem asked_bit (cs : List Bytes) : ∀ (n g : Nat) (l : Toks) (a : Nat × Toks), takeAsked cs n g l = .ok a → g < 2 ^ cs.length → a.1 < 2 ^ cs.length
  | 0, g, l, a, h, _ => by cases h
  | n + 1, g, l, a, h, hg => by
    rw [asked_next] at h
    obtain ⟨y, hy, h⟩ := bind_ok h
    have h1 := step_bit hy hg
    unfold contAsked at h
    split at h
    · exact asked_bit cs n _ _ a h h1
    · injection h with h
      rw [← h]
      exact h1
theorem num_le {lo hi : Nat} {l : Toks} {a : Nat × Toks} (h : takeNum lo hi l = .ok a) : a.1 ≤ hi := by
  unfold takeNum at h
  split at h
  · split at h
    · cases h
    · rename_i hn
      injection h with h
      rw [← h]
      omega
  · cases h
theorem ask_ok {cs : List Bytes} {l : Toks} {a : Ask × Toks} (h : takeAsk cs l = .ok a) : a.1.g < 2 ^ cs.length ∧ a.1.k ≤ 99 := by
  unfold takeAsk at h
  obtain ⟨g, hg, h⟩ := bind_ok h
  obtain ⟨k, hk, h⟩ := bind_ok h
  cases q : takeSign 59 k.2 with
  | error f =>
    rw [q] at h
    cases h
  | ok m =>
    rw [q] at h
    injection h with h
    rw [← h]
    refine ⟨?_, ?_⟩
    · show g.1 < _
      split at hg
      · injection hg with hg
        rw [← hg]
        exact Nat.two_pow_pos _
      · exact asked_bit cs _ 0 _ g hg (Nat.two_pow_pos _)
    · show k.1 ≤ 99
      rw [times_num] at hk
      split at hk
      · exact num_le hk
      · injection hk with hk
        rw [← hk]
        show 1 ≤ 99
        decide
theorem lines_table : ∀ (n : Nat) (t : Table) (l : Toks) (t' : Table), takeLines n t l = .ok t' → TableOk t → TableOk t'
  | 0, t, l, t', h, _ => by cases h
  | n + 1, t, l, t', h, ht => by
    rw [lines_next] at h
    split at h
    · injection h with h
      rw [← h]
      exact ht
    · split at h
      · split at h
        · cases h
        · rename_i hr
          have hr' : ¬ 16 ≤ t.rows.length := hr
          obtain ⟨y, hy, h⟩ := bind_ok h
          refine lines_table n _ _ t' h ⟨ht.cols, fun r hr => ?_, ?_, ht.asks, ht.asked⟩
          · rcases List.mem_append.mp hr with e | e
            · exact ht.rows r e
            · rw [List.mem_singleton.mp e]
              exact row_len hy
          · show (t.rows ++ [_]).length ≤ 16
            rw [List.length_append, List.length_singleton]
            omega
      · obtain ⟨r, _, h⟩ := bind_ok h
        split at h
        · cases h
        · rename_i hr
          have hr' : ¬ 8 ≤ t.asks.length := hr
          obtain ⟨a, ha, h⟩ := bind_ok h
          refine lines_table n _ _ t' h ⟨ht.cols, ht.rows, ht.many, ?_, fun q hq => ?_⟩
          · show (t.asks ++ [_]).length ≤ 8
            rw [List.length_append, List.length_singleton]
            omega
          · rcases List.mem_append.mp hq with e | e
            · exact ht.asked q e
            · rw [List.mem_singleton.mp e]
              exact ask_ok ha
theorem read_ok {b : Bytes} {t : Table} (h : Vamvsa.read b = .ok t) : TableOk t := by
  unfold Vamvsa.read at h
  obtain ⟨l, _, h⟩ := bind_ok h
  obtain ⟨r, _, h⟩ := bind_ok h
  obtain ⟨x, hx, h⟩ := bind_ok h
  exact lines_table _ _ _ t h ⟨cols_len _ _ _ x hx, fun r hr => (List.not_mem_nil hr).elim, Nat.zero_le _, Nat.zero_le _, fun q hq => (List.not_mem_nil hq).elim⟩
end KA
end
section
set_option autoImplicit false
/-! Mathematics 6: calls, few pieces. -/
namespace KA
open VamvsBase Vamvse

/-! ### pieces: no more than lines -/
theorem slope_falls {ls : List LineM} {x : Frac} {l l2 : LineM} (hx : Red x) (h : IsBest ls x l) (hlx : less x (whole 100) = true) (hlt : less (endM ls l) (whole 100) = true) (h2 : IsBest ls (endM ls l) l2) : l2.2.2 < l.2.2 := by
  obtain ⟨h1, _, hR, _, hxe⟩ := end_ok hx h
  have hxe' := hxe hlx
  rcases h1 with q | ⟨o, ho, hs, hb, hr, _⟩
  · rw [q, less_irrefl] at hlt
    cases hlt
  · have hm : val (endM ls l) l.2 = val (endM ls l) o.2 := by
      rw [hr]
      exact val_meet hb hs
    refine Nat.lt_of_not_le fun hge => ?_
    have hxl : val x l.2 ≤ val x l2.2 := by
      rcases h.2 l2 h2.1 with q | ⟨q, _⟩ <;> omega
    have hyl : val (endM ls l) l.2 ≤ val (endM ls l) l2.2 := by
      rcases Nat.lt_or_eq_of_le hge with q | q
      · exact Int.le_of_lt (val_on hx hR hxe' hxl q)
      · exact (val_same hx hR hxl q).1
    have k := h2.2 o ho
    unfold keyLe at k
    omega
theorem run_len {ls : List LineM} : ∀ (ps : List Piece) (x : Frac) (l : LineM), Red x → Run ls x ps → IsBest ls x l → ps.length ≤ (ls.filter fun o => decide (o.2.2 ≤ l.2.2)).length
  | [], _, _, _, _, _ => Nat.zero_le _
  | p :: ps, x, l, hx, hR, hb => by
    cases hR with
    | @step _ l1 _ hlx hb1 hR1 =>
      have es : l1.2.2 = l.2.2 := by
        have a := hb1.2 l hb.1
        have b := hb.2 l1 hb1.1
        unfold keyLe at a b
        omega
      have hRe := (end_ok hx hb1).2.2.1
      cases ps with
      | nil =>
        have : l ∈ ls.filter fun o => decide (o.2.2 ≤ l.2.2) := List.mem_filter.mpr ⟨hb.1, decide_eq_true (Nat.le_refl _)⟩
        exact List.length_pos_of_mem this
      | cons p2 ps2 =>
        have hlt : less (endM ls l1) (whole 100) = true := by
          cases hR1 with
          | step h _ _ => exact h
        obtain ⟨l2, hb2⟩ := exists_best (endM ls l1) ls (fun e => by rw [e] at hb; exact (List.not_mem_nil hb.1).elim)
        have ih := run_len (p2 :: ps2) (endM ls l1) l2 hRe hR1 hb2
        have hs := slope_falls hx hb1 hlx hlt hb2
        have hsub : (ls.filter fun o => decide (o.2.2 ≤ l2.2.2)).length < (ls.filter fun o => decide (o.2.2 ≤ l.2.2)).length := by
          have e : (ls.filter fun o => decide (o.2.2 ≤ l2.2.2)) = ((ls.filter fun o => decide (o.2.2 ≤ l.2.2)).filter fun o => decide (o.2.2 ≤ l2.2.2)) := by
            rw [List.filter_filter]
            refine List.filter_congr fun o _ => ?_
            by_cases q : o.2.2 ≤ l2.2.2
            · rw [decide_eq_true q, decide_eq_true (show o.2.2 ≤ l.2.2 by omega)]
              rfl
            · rw [decide_eq_false q]
              rfl
          rw [e]
          have hm : l1 ∈ ls.filter fun o => decide (o.2.2 ≤ l.2.2) := List.mem_filter.mpr ⟨hb1.1, decide_eq_true (by omega)⟩
          refine Nat.lt_of_le_of_ne (List.length_filter_le _ _) fun e2 => ?_
          have := (List.length_filter_eq_length_iff.mp e2) l1 hm
          have := of_decide_eq_true this
          omega
        rw [List.length_cons]
        omega
theorem run_few {ls : List LineM} {ps : List Piece} (h : Run ls (whole 0) ps) : ps.length ≤ ls.length := by
  cases ls with
  | nil =>
    cases h with
    | done _ => exact Nat.le_refl _
    | step _ hb _ => exact (List.not_mem_nil hb.1).elim
  | cons a r =>
    obtain ⟨l, hl⟩ := exists_best (whole 0) (a :: r) (by simp)
    exact Nat.le_trans (run_len ps (whole 0) l (red_whole 0) h hl) (List.length_filter_le _ _)

/-! ### twice told -/
theorem dups_le (n : Nat) : ∀ l : List Int, l.length ≤ n → l.eraseDups.length ≤ l.length ∧ (l.eraseDups.length = l.length ↔ l.Nodup) := by
  induction n with
  | zero =>
    intro l h
    have : l = [] := List.length_eq_zero_iff.mp (by omega)
    subst this
    exact ⟨Nat.le_refl _, by simp⟩
  | succ n ih =>
    intro l h
    cases l with
    | nil => exact ⟨Nat.le_refl _, by simp⟩
    | cons a r =>
      rw [List.eraseDups_cons]
      have hf := List.length_filter_le (fun b => !b == a) r
      obtain ⟨h1, h2⟩ := ih (r.filter fun b => !b == a) (by rw [List.length_cons] at h; omega)
      rw [List.length_cons, List.length_cons]
      refine ⟨by omega, ?_⟩
      rw [List.nodup_cons]
      constructor
      · intro e
        have e1 : (r.filter fun b => !b == a).length = r.length := by omega
        have e2 := List.length_filter_eq_length_iff.mp e1
        have e3 : (r.filter fun b => !b == a) = r := List.filter_eq_self.mpr e2
        refine ⟨fun hm => ?_, ?_⟩
        · have := e2 a hm
          simp at this
        · rw [e3] at h2
          rw [e3] at e
          exact h2.mp (by omega)
      · intro ⟨hn, hd⟩
        have e3 : (r.filter fun b => !b == a) = r := List.filter_eq_self.mpr fun b hb => by
          have : b ≠ a := fun e => hn (e ▸ hb)
          simpa using this
        rw [e3] at h2 ⊢
        have := h2.mpr hd
        omega
theorem dups_lt (l : List Int) : l.eraseDups.length < l.length ↔ ¬ l.Nodup := by
  obtain ⟨h1, h2⟩ := dups_le l.length l (Nat.le_refl _)
  rw [← h2]
  omega

/-! ### calls -/
def enc : Vamvse.Call → Int × List Int × List Int
  | .load b => (0, [], b.map fun x => ((x.toNat : Nat) : Int))
  | .cands l => (1, [], l)
  | .days l => (2, [], l)
  | .best r => (3, [r], [])
  | .always r => (4, [r], [])
  | .check r l => (5, [r], l)
  | .day d s => (6, [d, s], [])
  | .go a b => (7, [a, b], [])
  | .ends r q => (8, [r, q], [])
def hasRow : Vamvse.Call → Bool
  | .load _ => true
  | .cands _ => true
  | .days _ => true
  | .check _ _ => true
  | _ => false
def flat (k : Vamvse.Call) : List Int := (enc k).1 :: ((enc k).2.1 ++ (if hasRow k = true then ((enc k).2.2.length : Int) :: (enc k).2.2 else []))
def ans (o : Obj) (k : Vamvse.Call) : List Int := VamvseNeutral.encode (Vamvse.step o k).2
def told1 (o : Obj) (k : Vamvse.Call) : List Int := ((ans o k).length : Int) :: ans o k
def st : Obj → List Vamvse.Call → Obj
  | o, [] => o
  | o, k :: r => st (Vamvse.step o k).1 r
def outM : Obj → List Vamvse.Call → List Int
  | _, [] => []
  | o, k :: r => told1 o k ++ outM (Vamvse.step o k).1 r
theorem st_snoc : ∀ (ks : List Vamvse.Call) (o : Obj) (k : Vamvse.Call), st o (ks ++ [k]) = (Vamvse.step (st o ks) k).1
  | [], _, _ => rfl
  | _ :: ks, _, k => st_snoc ks _ k
theorem out_snoc : ∀ (ks : List Vamvse.Call) (o : Obj) (k : Vamvse.Call), outM o (ks ++ [k]) = outM o ks ++ told1 (st o ks) k
  | [], o, k => by
    show told1 o k ++ [] = [] ++ told1 o k
    rw [List.append_nil, List.nil_append]
  | a :: ks, o, k => by
    show told1 o a ++ outM _ (ks ++ [k]) = told1 o a ++ outM _ ks ++ told1 _ k
    rw [out_snoc ks, List.append_assoc]
    rfl
theorem out_app : ∀ (ks ls : List Vamvse.Call) (o : Obj), outM o (ks ++ ls) = outM o ks ++ outM (st o ks) ls
  | [], ls, o => rfl
  | a :: ks, ls, o => by
    show told1 o a ++ outM _ (ks ++ ls) = told1 o a ++ outM _ ks ++ _
    rw [out_app ks ls, List.append_assoc]
    rfl
theorem bytes_back {l : List Int} (h : ∀ z ∈ l, 0 ≤ z ∧ z ≤ 255) : (VamvseNeutral.bytesOf l).map (fun x => ((x.toNat : Nat) : Int)) = l := by
  unfold VamvseNeutral.bytesOf
  rw [List.map_map]
  refine (List.map_congr_left fun z hz => ?_).trans (List.map_id l)
  obtain ⟨h1, h2⟩ := h z hz
  show (((UInt8.ofNat z.toNat).toNat : Nat) : Int) = z
  have : z.toNat % 2 ^ 8 = z.toNat := Nat.mod_eq_of_lt (by omega)
  rw [UInt8.toNat_ofNat', this]
  omega
theorem row_is {l x s : List Int} (h : PyFlat.row l = some (x, s)) : l = (x.length : Int) :: (x ++ s) := by
  cases l with
  | nil => cases h
  | cons n r =>
    have h0 : (if 0 ≤ n ∧ n.toNat ≤ r.length then some (r.take n.toNat, r.drop n.toNat) else none) = some (x, s) := h
    by_cases hc : 0 ≤ n ∧ n.toNat ≤ r.length
    · rw [if_pos hc] at h0
      injection h0 with h0
      injection h0 with h1 h2
      have hl : x.length = n.toNat := by
        rw [← h1, List.length_take]
        omega
      rw [← h1, ← h2, List.take_append_drop]
      have : ((r.take n.toNat).length : Int) = n := by
        rw [List.length_take]
        omega
      rw [this]
    · rw [if_neg hc] at h0
      cases h0
theorem rows1 {l : List Int} {xs : List (List Int)} {t : List Int} (h : PyFlat.rows 1 l = some (xs, t)) : ∃ x, xs = [x] ∧ l = (x.length : Int) :: (x ++ t) := by
  unfold PyFlat.rows at h
  cases q : PyFlat.row l with
  | none =>
    rw [q] at h
    cases h
  | some p =>
    obtain ⟨x, s⟩ := p
    rw [q] at h
    have h' : some ([x], s) = some (xs, t) := h
    injection h' with h'
    injection h' with h1 h2
    exact ⟨x, h1.symm, by rw [← h2]; exact row_is q⟩
theorem rows0 {l : List Int} {xs : List (List Int)} {t : List Int} (h : PyFlat.rows 0 l = some (xs, t)) : xs = [] ∧ l = t := by
  have h' : some (([] : List (List Int)), l) = some (xs, t) := h
  injection h' with h'
  injection h' with h1 h2
  exact ⟨h1.symm, h2⟩
theorem take1 {r : List Int} (h : ¬ r.length < 1) : ∃ a s, r = a :: s := by
  cases r with
  | nil => exact absurd (by decide : ([] : List Int).length < 1) h
  | cons a s => exact ⟨a, s, rfl⟩
theorem take2 {r : List Int} (h : ¬ r.length < 2) : ∃ a b s, r = a :: b :: s := by
  cases r with
  | nil => exact absurd (by decide : ([] : List Int).length < 2) h
  | cons a s =>
    cases s with
    | nil => exact absurd (by show 1 < 2; decide) h
    | cons b s => exact ⟨a, b, s, rfl⟩
theorem lists_one {lo hi : Int} {a b : Nat} {r : List Int} (h : PyInside.lists [(lo, hi, a, b)] [r] = true) : r.length ≤ b ∧ ∀ z ∈ r, lo ≤ z ∧ z ≤ hi := by
  unfold PyInside.lists at h
  simp only [Bool.and_eq_true, decide_eq_true_eq, List.all_eq_true] at h
  refine ⟨h.1.1.2, fun z hz => ?_⟩
  have := h.1.2 z hz
  unfold PyInside.within at this
  simp only [Bool.and_eq_true, decide_eq_true_eq] at this
  exact this
/-- one call of the list -/
theorem parse1 {l : List Int} {c : List (List Int)} {t : List Int} (h : PyFlat.call PyVamvse.shape l = some (c, t)) (hb : PyInside.call PyVamvse.bound c = true) :
    ∃ k : Vamvse.Call, l = flat k ++ t ∧ VamvseNeutral.callOf (PyVamvse.whole c) = some k ∧ (enc k).2.2.length ≤ 8192 := by
  cases l with
  | nil => cases h
  | cons p r =>
    have h0 : (match PyVamvse.shape p with
      | none => none
      | some (n, k) => if r.length < n then none else match PyFlat.rows k (r.drop n) with
        | none => none
        | some (xs, t) => some ((p :: r.take n) :: xs, t)) = some (c, t) := h
    have go : ∀ (n m : Nat), (if r.length < n then none else match PyFlat.rows m (r.drop n) with
        | none => none
        | some (xs, t) => some ((p :: r.take n) :: xs, t)) = some (c, t) → ¬ r.length < n ∧ ∃ xs, PyFlat.rows m (r.drop n) = some (xs, t) ∧ c = (p :: r.take n) :: xs := by
      intro n m h
      split at h
      · cases h
      · rename_i hn
        refine ⟨hn, ?_⟩
        cases q : PyFlat.rows m (r.drop n) with
        | none =>
          rw [q] at h
          cases h
        | some y =>
          obtain ⟨xs, t'⟩ := y
          rw [q] at h
          have h' : some ((p :: r.take n) :: xs, t') = some (c, t) := h
          injection h' with h'
          injection h' with h1 h2
          exact ⟨xs, by rw [h2], h1.symm⟩
    have sh := fun n m (e : PyVamvse.shape p = some (n, m)) => go n m (by rw [e] at h0; exact h0)
    by_cases e0 : p = 0
    · subst e0
      obtain ⟨_, xs, hx, rfl⟩ := sh 0 1 rfl
      obtain ⟨x, rfl, hl⟩ := rows1 hx
      have hi := lists_one (lo := 0) (hi := 255) (a := 0) (b := 8192) (r := x) (by
        have := hb
        unfold PyInside.call at this
        exact (Bool.and_eq_true_iff.mp this).2)
      refine ⟨.load (VamvseNeutral.bytesOf x), ?_, ?_, ?_⟩
      · have e := bytes_back hi.2
        show (0 : Int) :: r = (0 : Int) :: (((((VamvseNeutral.bytesOf x).map fun x => ((x.toNat : Nat) : Int)).length : Nat) : Int) :: ((VamvseNeutral.bytesOf x).map fun x => ((x.toNat : Nat) : Int)) ++ t)
        rw [e]
        rw [List.drop_zero] at hl
        rw [hl]
        rfl
      · show (if NeutralIO.bytes x = true then _ else _) = _
        rw [if_pos]
        unfold NeutralIO.bytes
        rw [List.all_eq_true]
        intro z hz
        have := hi.2 z hz
        simp only [Bool.and_eq_true, decide_eq_true_eq]
        exact this
      · show ((VamvseNeutral.bytesOf x).map fun x => ((x.toNat : Nat) : Int)).length ≤ 8192
        rw [bytes_back hi.2]
        exact hi.1
    by_cases e1 : p = 1
    · subst e1
      obtain ⟨_, xs, hx, rfl⟩ := sh 0 1 rfl
      obtain ⟨x, rfl, hl⟩ := rows1 hx
      have hi := lists_one (r := x) (by
        have := hb
        unfold PyInside.call at this
        exact (Bool.and_eq_true_iff.mp this).2)
      refine ⟨.cands x, ?_, rfl, Nat.le_trans hi.1 (by decide)⟩
      rw [List.drop_zero] at hl
      rw [hl]
      rfl
    by_cases e2 : p = 2
    · subst e2
      obtain ⟨_, xs, hx, rfl⟩ := sh 0 1 rfl
      obtain ⟨x, rfl, hl⟩ := rows1 hx
      have hi := lists_one (r := x) (by
        have := hb
        unfold PyInside.call at this
        exact (Bool.and_eq_true_iff.mp this).2)
      refine ⟨.days x, ?_, rfl, Nat.le_trans hi.1 (by decide)⟩
      rw [List.drop_zero] at hl
      rw [hl]
      rfl
    by_cases e3 : p = 3
    · subst e3
      obtain ⟨hn, xs, hx, rfl⟩ := sh 1 0 rfl
      obtain ⟨rfl, hl⟩ := rows0 hx
      obtain ⟨a, s, rfl⟩ := take1 hn
      refine ⟨.best a, ?_, rfl, Nat.zero_le _⟩
      rw [← hl]
      rfl
    by_cases e4 : p = 4
    · subst e4
      obtain ⟨hn, xs, hx, rfl⟩ := sh 1 0 rfl
      obtain ⟨rfl, hl⟩ := rows0 hx
      obtain ⟨a, s, rfl⟩ := take1 hn
      refine ⟨.always a, ?_, rfl, Nat.zero_le _⟩
      rw [← hl]
      rfl
    by_cases e5 : p = 5
    · subst e5
      obtain ⟨hn, xs, hx, rfl⟩ := sh 1 1 rfl
      obtain ⟨x, rfl, hl⟩ := rows1 hx
      obtain ⟨a, s, rfl⟩ := take1 hn
      have hi := lists_one (r := x) (by
        have := hb
        unfold PyInside.call at this
        exact (Bool.and_eq_true_iff.mp this).2)
      refine ⟨.check a x, ?_, rfl, Nat.le_trans hi.1 (by decide)⟩
      have hl' : s = (x.length : Int) :: (x ++ t) := hl
      rw [hl']
      rfl
    by_cases e6 : p = 6
    · subst e6
      obtain ⟨hn, xs, hx, rfl⟩ := sh 2 0 rfl
      obtain ⟨rfl, hl⟩ := rows0 hx
      obtain ⟨a, b, s, rfl⟩ := take2 hn
      refine ⟨.day a b, ?_, rfl, Nat.zero_le _⟩
      rw [← hl]
      rfl
    by_cases e7 : p = 7
    · subst e7
      obtain ⟨hn, xs, hx, rfl⟩ := sh 2 0 rfl
      obtain ⟨rfl, hl⟩ := rows0 hx
      obtain ⟨a, b, s, rfl⟩ := take2 hn
      refine ⟨.go a b, ?_, rfl, Nat.zero_le _⟩
      rw [← hl]
      rfl
    by_cases e8 : p = 8
    · subst e8
      obtain ⟨hn, xs, hx, rfl⟩ := sh 2 0 rfl
      obtain ⟨rfl, hl⟩ := rows0 hx
      obtain ⟨a, b, s, rfl⟩ := take2 hn
      refine ⟨.ends a b, ?_, rfl, Nat.zero_le _⟩
      rw [← hl]
      rfl
    have en : PyVamvse.shape p = none := by
      unfold PyVamvse.shape
      rw [if_neg e0, if_neg e1, if_neg e2, if_neg e3, if_neg e4, if_neg e5, if_neg e6, if_neg e7, if_neg e8]
    rw [en] at h0
    cases h0
/-- all calls of the list -/
theorem parse_all : ∀ (f : Nat) (l : List Int) (raw : List (List (List Int))), PyFlat.calls PyVamvse.shape f l = some raw → PyInside.calls PyVamvse.bound raw = true →
    ∃ ks : List Vamvse.Call, l = ks.flatMap flat ∧ ks.length = raw.length ∧ (∀ k ∈ ks, (enc k).2.2.length ≤ 8192) ∧ ∀ o : Obj, PyFlat.told (PyFlat.played VamvseNeutral.step o (raw.map PyVamvse.whole)) = outM o ks
  | f, [], raw, h, _ => by
    have h' : raw = [] := by
      cases f with
      | zero =>
        have : some ([] : List (List (List Int))) = some raw := h
        injection this with this
        exact this.symm
      | succ f =>
        have : some ([] : List (List (List Int))) = some raw := h
        injection this with this
        exact this.symm
    subst h'
    exact ⟨[], rfl, rfl, fun k hk => (List.not_mem_nil hk).elim, fun o => rfl⟩
  | 0, p :: r, raw, h, _ => by cases h
  | f + 1, p :: r, raw, h, hb => by
    unfold PyFlat.calls at h
    cases q : PyFlat.call PyVamvse.shape (p :: r) with
    | none =>
      rw [q] at h
      cases h
    | some y =>
      obtain ⟨c, t⟩ := y
      rw [q] at h
      have h2 : (match PyFlat.calls PyVamvse.shape f t with
        | none => none
        | some cs => some (c :: cs)) = some raw := h
      cases q2 : PyFlat.calls PyVamvse.shape f t with
      | none =>
        rw [q2] at h2
        cases h2
      | some cs =>
        rw [q2] at h2
        have h3 : some (c :: cs) = some raw := h2
        injection h3 with h3
        subst h3
        unfold PyInside.calls at hb
        rw [List.all_cons, Bool.and_eq_true] at hb
        obtain ⟨k, hk1, hk2, hk3⟩ := parse1 q hb.1
        obtain ⟨ks, h4, h5, h6, h7⟩ := parse_all f t cs q2 hb.2
        refine ⟨k :: ks, ?_, ?_, fun x hx => ?_, fun o => ?_⟩
        · rw [List.flatMap_cons, ← h4]
          exact hk1
        · rw [List.length_cons, List.length_cons, h5]
        · rcases List.mem_cons.mp hx with e | e
          · rw [e]
            exact hk3
          · exact h6 x e
        · have e : VamvseNeutral.step o (PyVamvse.whole c) = ((Vamvse.step o k).1, VamvseNeutral.encode (Vamvse.step o k).2) := by
            unfold VamvseNeutral.step
            rw [hk2]
          show PyFlat.told ((VamvseNeutral.step o (PyVamvse.whole c)).2 :: PyFlat.played VamvseNeutral.step (VamvseNeutral.step o (PyVamvse.whole c)).1 (cs.map PyVamvse.whole)) = _
          rw [e]
          unfold PyFlat.told
          rw [List.flatMap_cons]
          show (((ans o k).length : Int) :: ans o k) ++ PyFlat.told (PyFlat.played VamvseNeutral.step (Vamvse.step o k).1 (cs.map PyVamvse.whole)) = _
          rw [h7]
          rfl
theorem asked_is {l : List Int} (h : PyVamvse.answers_asked l = true) : ∃ ks : List Vamvse.Call, l = ks.flatMap flat ∧ ks.length ≤ 20 ∧ (∀ k ∈ ks, (enc k).2.2.length ≤ 8192) ∧ PyVamvse.answers l = outM none ks ∧ (outM none ks).length ≤ 10000000 := by
  unfold PyVamvse.answers_asked at h
  cases q : PyFlat.calls PyVamvse.shape l.length l with
  | none =>
    rw [q] at h
    cases h
  | some raw =>
    rw [q] at h
    have h' : (!raw.isEmpty && PyFlat.atMost 20 raw && PyInside.calls PyVamvse.bound raw && VamvseNeutral.asked (raw.map PyVamvse.whole) && PyFlat.short 10000000 (PyVamvse.answers l)) = true := h
    simp only [Bool.and_eq_true] at h'
    obtain ⟨⟨⟨⟨_, h1⟩, h2⟩, _⟩, h3⟩ := h'
    obtain ⟨ks, h4, h5, h6, h7⟩ := parse_all _ _ _ q h2
    have e : PyVamvse.answers l = outM none ks := by
      unfold PyVamvse.answers PyVamvse.calls
      rw [q]
      exact h7 none
    refine ⟨ks, h4, ?_, h6, e, ?_⟩
    · rw [h5]
      exact of_decide_eq_true h1
    · rw [← e]
      exact of_decide_eq_true h3
end KA
end
section

/-! # Rules that the layer lacks, short names -/
namespace KW
open PySem PySem.Spec PyProof.Rows L2
def kAdd : R2 := rI0 fun i j => .int (i + j)
def kSub : R2 := rI0 fun i j => .int (i - j)
def kMul : R2 := rI CMul fun i j => .int (i * j)
def kDiv : R2 := rI CDiv fun i j => .int (i / j)
def kMod : R2 := rI (fun _ j => 0 < j) fun i j => .int (i % j)
def kShl : R2 := rI CPow fun i j => .int (i * 2 ^ j.toNat)
def kShr : R2 := rI (fun _ j => 0 ≤ j) fun i j => .int (i / 2 ^ j.toNat)
def kAnd : R2 := rI0 fun i j => .int (Builtin.bitAnd i j)
def kLt : R2 := rI0 fun i j => .bl (decide (i < j))
def kLe : R2 := rI0 fun i j => .bl (decide (i ≤ j))
def kGt : R2 := rI0 fun i j => .bl (decide (j < i))
def kGe : R2 := rI0 fun i j => .bl (decide (j ≤ i))
def kNeg : V → Hp → VK → Prop := rU fun i => .int (-i)
def kCatS : R2 := fun x y H Q => ∃ i j, x = .str i ∧ y = .str j ∧ i.length + j.length ≤ sizeLine ∧ Q (.str (i ++ j)) H
def rIsNn : R2 := fun x y H Q => y = .non ∧ Q (.bl (decide (x = .non))) H
def rOrd : List V → Hp → VK → Prop := fun xs H Q => ∃ x, xs = [.str x] ∧ x.length = 1 ∧ Q (.int (x.cps.getD 0 0 : Nat)) H
def rDictP (K : PySem.W.Frag) : List V → Hp → VK → Prop := fun xs H Q => ∃ (a : Addr) (ps : List Addr) (kvs : List (Key × V)), xs = [.ref a] ∧ SqL K H a (ps.map V.ref) ∧ Paired (fun p kv => SqT K H p [kV kv.1, kv.2]) ps kvs ∧
    ∀ p, H p = none → Q (.ref p) (upd H p (.dK (mergeK [] kvs)))
def tRaiseO (C : Addr) (sp : Sp) (E : XK) (ta : TA) : TS := fun _ σ H => tMkO C sp [] ta σ H fun cls d H' => E cls d H'
theorem hu65 {A : Around} {k : Nat} (hr : Room k A) : A.units + 65 < cLine := by
  have := hr.un
  omega
section
variable {X : Cx}
theorem pe_gI {x : Str} {n : Int} {pos : Pos} (hg : Gl X x) (hm : ∃ t, X.mg x = some (.int n t)) (hd : (x == ("__debug__" : Str)) = false := by decide) : PE X (.Name x pos) (tC (.int n)) := by
  obtain ⟨t, e⟩ := hm
  exact pe_glob hg e ⟨t, rfl⟩ hd
theorem pe_gS {x : Str} {n : Str} {pos : Pos} (hg : Gl X x) (hm : ∃ t, X.mg x = some (.str n t)) (hd : (x == ("__debug__" : Str)) = false := by decide) : PE X (.Name x pos) (tC (.str n)) := by
  obtain ⟨t, e⟩ := hm
  exact pe_glob hg e ⟨t, rfl⟩ hd
/-! ### len(set(xs)), ints with or without repetition -/
def tLenSetG (K : PySem.W.Frag) (ta : TE) : TE := fun σ H Q => ta σ H fun x H1 => ∃ (l : Addr) (ns : List Int), x = .ref l ∧ SqL K H1 l (ns.map V.int) ∧ ns.length ≤ 4000 ∧ Q (.int ((PyProof.Rows.firstMet (fun i => ns.getD i 0) ns.length).length : Nat)) H1
theorem pe_lenSetG {a : Expr} {ta : TE} {p p2 q pos : Pos} (hg : Gl X "len") (hm : X.mg "len" = none) (hg2 : Gl X "set") (hm2 : X.mg "set" = none) (ha : PE X a ta) (hc : X.calm = true := by rfl)
    (na : starEach [a] X.env = (false, eval a X.env) :: starEach [] X.env := by rfl) : PE X (.Call (.Name "len" p) [.Call (.Name "set" p2) [a] [] q] [] pos) (tLenSetG X.K ta) := by
  refine ⟨fun pins s σ H Q I h => ?_⟩
  refine Call_ (ld_blt I hg hm boot_len ?_)
  refine PyProof.Rows.callWith_builtin1 (PyProof.Rows.args_cons ?_ rfl) rfl rfl
  refine Call_ (ld_blt I hg2 hm2 boot_set ?_)
  refine PyProof.Rows.callWith_type1 (PyProof.Rows.args_cons (thn (ha.run pins s σ H _ I h) fun v s1 ⟨x, H1, I1, r1, q1⟩ => PyProof.Rows.args_nil ?_) na) na rfl
  obtain ⟨l, ns, rfl, hq, hl, q1⟩ := q1
  cases r1
  obtain ⟨its, r, pl, hz⟩ := I1.list hq
  have hlen : its.toArray.size = ns.length := by rw [List.size_toArray, ← r.length, List.length_map]
  refine call_set_list (I1.ok.hd hc) pl.isList (by simpa using RZ.intsAre_vals r) (by rw [hlen]; unfold scanBound; omega) fun h' tk hS hk => ?_
  refine PyProof.Rows.args_nil ?_
  rw [hlen] at hS
  have hle := PyProof.Rows.firstMet_length_le (fun i => ns.getD i 0) ns.length
  obtain ⟨o, es, ep, t, ho, hex, hd, _, _, _, hf, hn⟩ := hS
  have I2 : Inv X pins σ H1 { s1 with heap := h', toks := tk } := I1.kept fun b o e => hk b o (Heap.lt_size e) e
  exact call_len_set ho hex hd hf (by rw [hn] <;> omega) ⟨.int _, H1, I2.tok _, ⟨_, by rw [hn]⟩, q1⟩
/-! ### min(xs, default=n), ints -/
def minI (n : Int) : List Int → Int
  | [] => n
  | x :: r => r.foldl min x
def rMinD (K : PySem.W.Frag) : List V → List V → Hp → VK → Prop := fun xs zs H Q => ∃ (a : Addr) (ns : List Int) (n : Int), xs = [.ref a] ∧ zs = [.int n] ∧ SqL K H a (ns.map V.int) ∧ Q (.int (minI n ns)) H
theorem reads_ints {h : Heap} : ∀ {ns : List Int} {us : List Value}, Vals (ns.map V.int) us → PySem.ReadsAll h us (ns.map PyData.int) []
  | [], _, .nil => .nil
  | n :: ns, _, .cons r t => by
    obtain ⟨k, rfl⟩ := r
    exact .cons (.int n k) (reads_ints t)
theorem alike_ints (ns : List Int) : PySem.W.AlikeAll (ns.map PyData.int) := PySem.W.alikeAll_datum (α := Int) ns
theorem depth_ints : ∀ ns : List Int, PyData.depthAll (ns.map PyData.int) = 0
  | [] => rfl
  | n :: ns => by
    rw [List.map_cons, PyData.depthAll, depth_ints ns]
    rfl
theorem cr_minD {k : Nat} (hr : Room k X.A) (hc : X.calm = true) : CallRK X (.builtin "min") ["default"] (rMinD X.K) := by
  intro pins s σ H xs zs us ws Q I rx rz h
  obtain ⟨a, ns, n, rfl, rfl, hs, q⟩ := h
  obtain ⟨its, rv, hl, _⟩ := I.list hs
  rw [Vals.ref1 rx]
  obtain ⟨u, rfl, ru⟩ := Vals.one rz
  obtain ⟨t, rfl⟩ := ru
  show wpAny _ _ (call (.builtin "min") [.ref a] [(Str.ofString "default", Value.int n t)]) _ _ _
  have hu : X.A.units + 1 + PyData.depthAll (ns.map PyData.int) < cLine := by
    rw [depth_ints]
    have := hr.un
    omega
  refine PySem.W.min_list_default (I.ok.hd hc) hl.isList (xs := ns.map PyData.int) (as := []) (by simpa using reads_ints rv) (alike_ints ns) hu (fun e h' tk hk => ?_) fun y ys i v h' tk bs e hv r hk => ?_
  · have e2 : ns = [] := List.map_eq_nil_iff.mp e
    subst e2
    exact ⟨.int n, H, I.kept hk, ⟨_, rfl⟩, q⟩
  · cases ns with
    | nil => cases e
    | cons m ms =>
      rw [List.map_cons] at e
      injection e with e1 e2
      subst e1 e2
      rw [PySem.W.minD_ints] at r
      cases r with
      | int i t => exact ⟨.int _, H, I.kept hk, ⟨t, rfl⟩, q⟩
/-! ### min(ts), ts a list of tuples of ints: the item itself -/
section
variable {prog : Program} {w : World} {A : Around} {E : Value → Shared → Prop} {s : Shared}
open PySem.W in
theorem min_list_ix {l : Addr} {vs : Array Value} {x : PyData} {xs : List PyData} {as : List Addr} {Q : Value → Shared → Prop} (hh : A.handled = none) (hl : s.heap.IsList l vs) (hr : ReadsAll s.heap vs.toList (x :: xs) as) (ha : AlikeAll (x :: xs)) (hu : A.units + 1 + PyData.depthAll (x :: xs) < cLine)
    (h : ∀ (i : Nat) v h' tk, vs[i]? = some v → i < (x :: xs).length → (x :: xs).getD i .none = PySem.W.minD x xs → (∀ b o, s.heap.get? b = some o → h'.get? b = some o) → Q v { s with heap := h', toks := tk }) :
    wpAny (model prog w) A (call (.builtin "min") [.ref l]) Q E s := by
  have hn : vs.size = xs.length + 1 := readsAll_len hr
  refine call_min_walkH (iter_listW (A := A.in1) hh hl fun s₂ e W st hfp hw hk => ?_)
  refine ⟨_, _, _, _, _, _, _, s.heap, _, rfl, W, st, hfp, by omega, hw, hk, cmpIn_lt (A := A.in1) hr ha (by show A.units + 1 + _ < _; exact hu), fun v s' hP m => ?_⟩
  obtain ⟨h', tk, rfl, hk'⟩ := moved_old e rfl m
  obtain ⟨bs, r, hlt, _, _⟩ := readsAll_atA hr _ v hP
  have e1 : vs.size - 1 = xs.length := by omega
  have e2 := (argBest_fold dataLt PyData.none x xs xs.length (Nat.le_refl _)).2
  rw [List.take_length] at e2
  rw [e1] at hP hlt
  exact h _ v h' tk hP hlt e2 hk'
end
def rMinT (K : PySem.W.Frag) : List V → Hp → VK → Prop := fun vs H Q => ∃ (a : Addr) (ps : List Addr) (zs : List (List Int)), vs = [V.ref a] ∧ SqL K H a (ps.map V.ref) ∧ Paired (fun p z => SqT K H p (z.map V.int)) ps zs ∧ zs ≠ [] ∧
  ∀ (i : Nat) (p : Addr) (x : List Int) (xs : List (List Int)), ps[i]? = some p → zs = x :: xs → zs[i]? = some (xs.foldl (fun a y => if PySem.W.listLt y a = true then y else a) x) → Q (.ref p) H
theorem dpAll_ints {K : PySem.W.Frag} {H : Hp} : ∀ ns : List Int, DpAll K H (ns.map V.int) (ns.map PyData.int)
  | [] => .nil
  | n :: ns => .cons (.int n) (dpAll_ints ns)
theorem dp_tups {K : PySem.W.Frag} {H : Hp} : ∀ {ps : List Addr} {zs : List (List Int)}, Paired (fun p z => SqT K H p (z.map V.int)) ps zs → DpAll K H (ps.map V.ref) (zs.map fun z => PyData.tuple (z.map PyData.int))
  | [], _, .nil => .nil
  | p :: ps, _, .cons h t => .cons (.tup h (dpAll_ints _)) (dp_tups t)
theorem depth_tups : ∀ zs : List (List Int), PyData.depthAll (zs.map fun z => PyData.tuple (z.map PyData.int)) ≤ 1
  | [] => Nat.zero_le _
  | z :: zs => by
    have ih := depth_tups zs
    rw [List.map_cons, PyData.depthAll, PyData.depth, depth_ints]
    omega
theorem paired_ix {α β : Type} {F : α → β → Prop} : ∀ {xs : List α} {ys : List β}, Paired F xs ys → xs.length = ys.length
  | _, _, .nil => rfl
  | _, _, .cons _ t => congrArg (· + 1) (paired_ix t)
theorem cr_minT {k : Nat} (hr : Room k X.A) (hc : X.calm = true) : CallR X (.builtin "min") (rMinT X.K) := by
  intro pins s σ H vs us Q I r h
  obtain ⟨a, ps, zs, rfl, hs, hp, hne, q⟩ := h
  obtain ⟨its, rv, hl, _⟩ := I.list hs
  rw [Vals.ref1 r]
  cases zs with
  | nil => exact absurd rfl hne
  | cons x xs =>
    obtain ⟨as, hreads⟩ := Dp.readsAll I _ _ _ (dp_tups hp) rv
    have hal : PySem.W.AlikeAll ((x :: xs).map fun z => PyData.tuple (z.map PyData.int)) := by
      have e := PySem.W.alikeAll_datum (α := PySem.W.Tup Int) ((x :: xs).map PySem.W.Tup.mk)
      rw [List.map_map] at e
      exact e
    have hu : X.A.units + 1 + PyData.depthAll ((x :: xs).map fun z => PyData.tuple (z.map PyData.int)) < cLine := by
      have h1 := depth_tups (x :: xs)
      have := hr.un
      omega
    rw [List.map_cons] at hreads hal hu
    refine min_list_ix (I.ok.hd hc) hl.isList (by simpa using hreads) hal hu fun i v h' tk hv hi hd hk => ?_
    have hlen : ps.length = (x :: xs).length := paired_ix hp
    have hi2 : i < (x :: xs).length := by simpa using hi
    obtain ⟨p, hpi⟩ : ∃ p, ps[i]? = some p := ⟨ps[i]'(by omega), List.getElem?_eq_getElem (by omega)⟩
    obtain ⟨u, hu1, hu2⟩ := Vals.get rv (i := i) (x := V.ref p) (by rw [List.getElem?_map, hpi]; rfl)
    have hv' : its[i]? = some v := by simpa using hv
    rw [hu1] at hv'
    injection hv' with hv'
    subst hv'
    obtain rfl : u = Value.ref p := hu2
    refine ⟨.ref p, H, I.kept hk, rfl, q i p x xs hpi rfl ?_⟩
    obtain ⟨z, hz⟩ : ∃ z, (x :: xs)[i]? = some z := ⟨(x :: xs)[i], List.getElem?_eq_getElem hi2⟩
    have e1 : ((x :: xs).map fun z => PyData.tuple (z.map PyData.int)).getD i .none = PyData.tuple (z.map PyData.int) := by
      rw [List.getD_eq_getElem?_getD, List.getElem?_map, hz]
      rfl
    have e2 := PySem.W.minD_map (α := PySem.W.Tup Int) (PySem.W.Tup.mk x) (xs.map PySem.W.Tup.mk)
    rw [List.map_map] at e2
    have e3 : PyData.tuple (z.map PyData.int) = PySem.W.Datum.toD (PySem.W.minOf (PySem.W.Tup.mk x) (xs.map PySem.W.Tup.mk)) := by
      rw [← e2, ← e1]
      exact hd
    have e4 : ∀ (ys : List (List Int)) (y : List Int), (PySem.W.minOf (PySem.W.Tup.mk y) (ys.map PySem.W.Tup.mk)) = PySem.W.Tup.mk (ys.foldl (fun a y => if PySem.W.listLt y a = true then y else a) y) := by
      intro ys
      induction ys with
      | nil => exact fun _ => rfl
      | cons c ys ih =>
        intro y
        unfold PySem.W.minOf
        rw [List.map_cons, List.foldl_cons, List.foldl_cons]
        show _ = PySem.W.Tup.mk (ys.foldl _ (if PySem.W.listLt c y = true then c else y))
        have e5 : (if PySem.W.DatumOrd.lt (PySem.W.Tup.mk c) (PySem.W.Tup.mk y) = true then PySem.W.Tup.mk c else PySem.W.Tup.mk y) = PySem.W.Tup.mk (if PySem.W.listLt c y = true then c else y) := by
          show (if PySem.W.listLt c y = true then PySem.W.Tup.mk c else PySem.W.Tup.mk y) = _
          split <;> rfl
        rw [e5]
        exact ih _
    rw [e4] at e3
    have inj : ∀ a b : List Int, a.map PyData.int = b.map PyData.int → a = b := by
      intro a
      induction a with
      | nil =>
        intro b h
        cases b with
        | nil => rfl
        | cons _ _ => cases h
      | cons c a ih =>
        intro b h
        cases b with
        | nil => cases h
        | cons d b =>
          rw [List.map_cons, List.map_cons] at h
          injection h with h1 h2
          injection h1 with h1
          rw [h1, ih b h2]
    have e6 : z = xs.foldl (fun a y => if PySem.W.listLt y a = true then y else a) x := by
      have e7 : PyData.tuple (z.map PyData.int) = PyData.tuple ((xs.foldl (fun a y => if PySem.W.listLt y a = true then y else a) x).map PyData.int) := e3
      injection e7 with e7
      exact inj _ _ e7
    rw [hz, e6]
end
/-! ### what evaluates to what: further rules -/
section
open Evl
variable {K : PySem.W.Frag} {σ : L2.St} {H H' : Hp} {ta tb tc te tl : TE} {t u : TT} {x y z v : V} {r : R2} {a b C dx : Addr} {fs : List (Str × V)} {f : Str}
theorem ev_fldG (h : Ev ta σ H (.ref a)) (ho : H a = some (.ins C dx fs)) (hc : Cls K C) (hn : NoAttr K C f) (hl : fs.lookup f = some v) : Ev (tFld K ta f) σ H v := fun H1 e Q q =>
  h H1 e _ fun H2 e2 => ⟨a, C, dx, fs, v, rfl, (e.trans e2) _ _ ho, hc, hn, hl, q H2 e2⟩
theorem ev_methG {m : Str} {sp : Sp} {dvs vs : List V} {E : XK} {tr : TA} (h : Ev ta σ H (.ref a)) (ho : H a = some (.ins C dx fs)) (hl : fs.lookup m = none) (hv : EvA tr σ H vs) (hs : SpV sp (.ref a :: (vs ++ dvs)) H z) : Ev (tMeth C m sp dvs E ta tr) σ H z := fun H1 e Q q =>
  h H1 e _ fun H2 e2 => ⟨a, dx, fs, rfl, (e.trans e2) _ _ ho, hl, hv H2 (e.trans e2) _ fun H3 e3 => hs H3 ((e.trans e2).trans e3) Q (fun H4 e4 => q H4 ((e2.trans e3).trans e4)) E⟩
theorem el_methG {m : Str} {sp : Sp} {dvs vs xs : List V} {E : XK} {tr : TA} (h : Ev ta σ H (.ref a)) (ho : H a = some (.ins C dx fs)) (hl : fs.lookup m = none) (hv : EvA tr σ H vs) (hs : SpL sp (.ref a :: (vs ++ dvs)) H xs) : EvL (tMeth C m sp dvs E ta tr) σ H xs := fun H1 e Q q =>
  h H1 e _ fun H2 e2 => ⟨a, dx, fs, rfl, (e.trans e2) _ _ ho, hl, hv H2 (e.trans e2) _ fun H3 e3 => hs H3 ((e.trans e2).trans e3) Q (fun p H4 hp e4 h4 => q p H4 (fresh_back (e2.trans e3) hp) ((e2.trans e3).trans e4) h4) E⟩
theorem ev_chainG {r' : R2} {b : Bool} (ha : Ev ta σ H x) (hb : Ev tb σ H y) (hr : RV r x y H (.bl b)) (hc : b = true → Ev tc σ H z) (hr' : b = true → RV r' y z H v) (hf : b = false → v = .bl false) : Ev (tChain r r' ta tb tc) σ H v := fun H1 e Q q =>
  ha H1 e _ fun H2 e2 => hb H2 (e.trans e2) _ fun H3 e3 => hr H3 ((e.trans e2).trans e3) _ fun H4 e4 => ⟨b, rfl, by
    have e4' := ((e.trans e2).trans e3).trans e4
    cases b with
    | true =>
      rw [if_pos rfl]
      exact hc rfl H4 e4' _ fun H5 e5 => hr' rfl H5 (e4'.trans e5) Q fun H6 e6 => q H6 ((((e2.trans e3).trans e4).trans e5).trans e6)
    | false =>
      rw [if_neg Bool.false_ne_true, ← hf rfl]
      exact q H4 ((e2.trans e3).trans e4)⟩
/-- a fact of an earlier heap -/
theorem _root_.Evl.Ex.at {o : HO} (e : Ex H H') (h : H a = some o) : H' a = some o := e _ _ h
/-! ### pairs that a loop takes apart -/
theorem g_pair {i j : Nat} {T : Addr} {Q : L2.St → Hp → Prop} (hT : H T = none) (q : ∀ H1, H1 = upd H T (.tup [x, y]) → Q ((σ.set i (some x)).set j (some y)) H1) : gTup K 2 (gCons (gName i) (gCons (gName j) gNil)) (.ref T) σ (upd H T (.tup [x, y])) Q :=
  ⟨T, [x, y], rfl, SqT.of upd_same, rfl, x, [y], rfl, y, [], rfl, rfl, q _ rfl⟩
/-- for i, x in enumerate(xs) -/
theorem s_forEn {l : Addr} {xs : List V} {i j : Nat} {tu : TS} {D : Ends} (h : Ev tl σ H (.ref l)) (hx : SqL K H l xs) (Pv : Nat → L2.St → Hp → Prop) (h0 : ∀ H1, Ex H H1 → Pv 0 σ H1) (hG : ∀ n σ' H', n ≤ xs.length → Pv n σ' H' → SqL K H' l xs)
    (hs : ∀ (n : Nat) (x : V) σ' H' H1, xs[n]? = some x → Pv n σ' H' → Ex H' H1 → tu { D with nx := Pv (n + 1), ct := Pv (n + 1), bk := D.nx } ((σ'.set i (some (.int (n : Nat)))).set j (some x)) H1) (hd : ∀ σ' H', Pv xs.length σ' H' → D.nx σ' H') :
    tFor (iEnum K (tCons tl tNil)) (gTup K 2 (gCons (gName i) (gCons (gName j) gNil))) tu D σ H :=
  h H (Ex.refl H) _ fun H1 e => ⟨l, xs, rfl, ex_l e hx, for_it walk_enum Pv (h0 H1 e) hG (fun n v σ' H' H2 hn hp hy => by
    obtain ⟨T, a1, a2, rfl, hT, rfl, h1, h2⟩ := hy
    injection h1 with h1
    subst h1
    refine g_pair hT fun H3 e3 => ?_
    subst e3
    exact hs n a2 σ' H' _ h2 hp (Ex.new hT)) hd⟩
/-- for x, y in zip(xs, ys) -/
theorem s_forZip {tl2 : TE} {l l2 : Addr} {xs ys : List V} {i j : Nat} {tu : TS} {D : Ends} (h : Ev tl σ H (.ref l)) (h2 : Ev tl2 σ H (.ref l2)) (hx : SqL K H l xs) (hy : SqL K H l2 ys) (Pv : Nat → L2.St → Hp → Prop) (h0 : ∀ H1, Ex H H1 → Pv 0 σ H1)
    (hG : ∀ n σ' H', n ≤ min xs.length ys.length → Pv n σ' H' → SqL K H' l xs ∧ SqL K H' l2 ys)
    (hs : ∀ (n : Nat) (x y : V) σ' H' H1, xs[n]? = some x → ys[n]? = some y → Pv n σ' H' → Ex H' H1 → tu { D with nx := Pv (n + 1), ct := Pv (n + 1), bk := D.nx } ((σ'.set i (some x)).set j (some y)) H1) (hd : ∀ σ' H', Pv (min xs.length ys.length) σ' H' → D.nx σ' H') :
    tFor (iZip K (tCons tl (tCons tl2 tNil))) (gTup K 2 (gCons (gName i) (gCons (gName j) gNil))) tu D σ H :=
  h H (Ex.refl H) _ fun H1 e => h2 H1 e _ fun H2 e2 => ⟨l, l2, xs, ys, rfl, ex_l (e.trans e2) hx, ex_l (e.trans e2) hy, for_it (walk_zip rfl) Pv (h0 H2 (e.trans e2)) hG (fun n v σ' H' H3 hn hp hyy => by
    obtain ⟨T, a1, a2, rfl, hT, rfl, q1, q2⟩ := hyy
    refine g_pair hT fun H4 e4 => ?_
    subst e4
    exact hs n a1 a2 σ' H' _ q1 q2 hp (Ex.new hT)) hd⟩
/-- [te for i, x in enumerate(xs) if t] -/
theorem el_lcEn {l : Addr} {xs : List V} {i j : Nat} (f : Nat → Bool) (w : Nat → V) (h : Ev tl σ H (.ref l)) (hx : SqL K H l xs) (hz : xs.length ≤ 40000) (hw : ∀ x y, wipe (((wipe σ [i, j]).set i (some x)).set j (some y)) [i, j] = wipe σ [i, j])
    (ht : ∀ (n : Nat) (x : V) H1, Ex H H1 → xs[n]? = some x → EvT t (((wipe σ [i, j]).set i (some (.int (n : Nat)))).set j (some x)) H1 (f n))
    (he : ∀ (n : Nat) (x : V) H1, Ex H H1 → xs[n]? = some x → f n = true → Ev te (((wipe σ [i, j]).set i (some (.int (n : Nat)))).set j (some x)) H1 (w n)) :
    EvL (tLc (iEnum K (tCons tl tNil)) (gTup K 2 (gCons (gName i) (gCons (gName j) gNil))) t te [i, j]) σ H (given xs.length f w) := fun H0 e Q q => h H0 e _ fun H1 e1 => ⟨l, xs, rfl, ex_l (e.trans e1) hx, fun Dl hD =>
  lc_it walk_enum (Cw H1 f w Dl) ⟨hD, Ex.new hD, upd_same⟩ (fun n H' _ p => ex_l ((e.trans e1).trans p.2.1) hx) (fun n v H' H2 hn p hy => by
    obtain ⟨T, a1, a2, rfl, hT, rfl, h1, h2⟩ := hy
    injection h1 with h1
    subst h1
    refine g_pair hT fun H3 e3 => ?_
    subst e3
    have p' : Cw H1 f w Dl n (upd H' T (.tup [.int (n : Nat), a2])) := ⟨p.1, p.2.1.trans (Ex.new hT), (Ex.new hT) _ _ p.2.2⟩
    exact ⟨hw _ _, cw_turn p' (by omega) (ht n a2 H1 (e.trans e1) h2) (fun hf => he n a2 H1 (e.trans e1) h2 hf)⟩) (fun H' p => q Dl H' (fresh_back e1 p.1) (e1.trans p.2.1) p.2.2)⟩
/-- [te for x in ..]: each item makes a new object; the n-th is o n -/
theorem lc_new {J : It} {n : Nat} {G : Hp → Prop} {Y : Nat → Hp → V → Hp → Prop} {okx : Nat → V → Prop} (w : Walk J n G Y) (hY : ∀ i H x H', Y i H x H' → H' = H ∧ okx i x) {H1 : Hp} {Dl : Addr} {j : Nat} {Qd : Hp → Prop} (o : Nat → HO) (hD : H1 Dl = none) (hz : n ≤ 40000)
    (hG : ∀ H', Ex H1 H' → G H') (hw : ∀ x, wipe ((wipe σ [j]).set j (some x)) [j] = wipe σ [j])
    (he : ∀ (i : Nat) (x : V) H', Ex H1 H' → i < n → okx i x → ∀ Q : VK, (∀ p H2, H' p = none → Ex H' H2 → H2 p = some (o i) → Q (.ref p) H2) → te ((wipe σ [j]).set j (some x)) H' Q)
    (hd : ∀ H' (ps : List Addr), Ex H1 H' → H' Dl = some (.lst (ps.map V.ref)) → ps.length = n → (∀ m p, ps[m]? = some p → H' p = some (o m) ∧ H1 p = none) → Qd H') :
    ∃ W : Nat → Nat → Hp → Prop, (∃ m, W 0 m (upd H1 Dl (.lst []))) ∧ ∀ i m H, W i m H →
      (J.stop i H ∧ Qd H) ∨ (J.go i H ∧ ∃ Nx : Hp → Prop, (∀ H', Nx H' → ∃ m', m' < m ∧ W (i + 1) m' H') ∧ ∀ x H', J.yld i H x H' → gName j x (wipe σ [j]) H' fun σ2 H2 => wipe σ2 [j] = wipe σ [j] ∧ tYes σ2 H2 fun b H3 =>
        if b = true then te σ2 H3 fun y H4 => ∃ acc, H4 Dl = some (.lst acc) ∧ acc.length < sizeLine ∧ Nx (upd H4 Dl (.lst (acc ++ [y]))) else Nx H3) := by
  refine lc_it w (fun i H' => Ex H1 H' ∧ ∃ ps : List Addr, H' Dl = some (.lst (ps.map V.ref)) ∧ ps.length = i ∧ ∀ m p, ps[m]? = some p → (H' p = some (o m) ∧ H1 p = none) ∧ p ≠ Dl)
    ⟨Ex.new hD, [], upd_same, rfl, fun m p hm => by simp at hm⟩ (fun i H' _ p => hG H' p.1) (fun i x H' H2 hi ⟨p1, ps, p2, p3, p4⟩ hy => ?_) (fun H' ⟨p1, ps, p2, p3, p4⟩ => hd H' ps p1 p2 p3 fun m p hm => (p4 m p hm).1)
  obtain ⟨rfl, hx⟩ := hY _ _ _ _ hy
  refine ⟨hw x, ?_⟩
  show te ((wipe σ [j]).set j (some x)) H2 _
  refine he i x H2 p1 hi hx _ fun p H3 hp e3 h3 => ⟨_, e3 _ _ p2, sz_lt (by rw [List.length_map]; omega), Ex.mut (p1.trans e3) hD, ps ++ [p], by rw [List.map_append]; exact upd_same, by rw [List.length_append, p3]; rfl, fun m q hm => ?_⟩
  have hpD : p ≠ Dl := fun z => by
    rw [z, p2] at hp
    cases hp
  rw [List.getElem?_append] at hm
  by_cases hlt : m < ps.length
  · rw [if_pos hlt] at hm
    obtain ⟨⟨a1, a0⟩, a2⟩ := p4 m q hm
    exact ⟨⟨by rw [upd_ne a2]; exact e3 _ _ a1, a0⟩, a2⟩
  · rw [if_neg hlt] at hm
    have hm0 : m - ps.length = 0 := by
      have := (List.getElem?_eq_some_iff.mp hm).1
      simp at this
      omega
    rw [hm0] at hm
    have e : p = q := Option.some.inj hm
    have e2 : m = i := by omega
    subst e e2
    exact ⟨⟨by rw [upd_ne hpD]; exact h3, fresh_back p1 hp⟩, hpD⟩
/-- what comes of it -/
def NewL (o : Nat → HO) (n : Nat) (H : Hp) (Q : VK) : Prop := ∀ D H2 (ps : List Addr), H D = none → Ex H H2 → H2 D = some (.lst (ps.map V.ref)) → ps.length = n → (∀ m p, ps[m]? = some p → H2 p = some (o m) ∧ H p = none) → Q (.ref D) H2
theorem el_lcNew {l : Addr} {xs : List V} {j : Nat} (o : Nat → HO) (h : Ev tl σ H (.ref l)) (hx : SqL K H l xs) (hz : xs.length ≤ 40000) (hw : ∀ x, wipe ((wipe σ [j]).set j (some x)) [j] = wipe σ [j])
    (he : ∀ (n : Nat) (x : V) H1, Ex H H1 → xs[n]? = some x → ∀ Q : VK, (∀ p H2, H1 p = none → Ex H1 H2 → H2 p = some (o n) → Q (.ref p) H2) → te ((wipe σ [j]).set j (some x)) H1 Q) :
    ∀ H0, Ex H H0 → ∀ Q : VK, NewL o xs.length H0 Q → tLc (iList K tl) (gName j) tYes te [j] σ H0 Q := fun H0 e Q q =>
  h H0 e _ fun H1 e1 => ⟨l, rfl, ⟨xs, ex_l (e.trans e1) hx⟩, fun Dl hD =>
    lc_new (okx := fun i x => xs[i]? = some x) walk_list (fun _ _ _ _ y => y) o hD hz (fun H' e' => ex_l ((e.trans e1).trans e') hx) hw (fun i x H' e' _ hi Q' q' => he i x H' ((e.trans e1).trans e') hi Q' q')
      fun H' ps p1 p2 p3 p4 => q Dl H' ps (fresh_back e1 hD) (e1.trans p1) p2 p3 fun m p hm => ⟨(p4 m p hm).1, fresh_back e1 (p4 m p hm).2⟩⟩
/-- the same over a new list -/
theorem el_lcNewN {xs : List V} {j : Nat} (o : Nat → HO) (h : EvL tl σ H xs) (hz : xs.length ≤ 40000) (hw : ∀ x, wipe ((wipe σ [j]).set j (some x)) [j] = wipe σ [j])
    (he : ∀ (n : Nat) (x : V) H1, Ex H H1 → xs[n]? = some x → ∀ Q : VK, (∀ p H2, H1 p = none → Ex H1 H2 → H2 p = some (o n) → Q (.ref p) H2) → te ((wipe σ [j]).set j (some x)) H1 Q) :
    ∀ H0, Ex H H0 → ∀ Q : VK, NewL o xs.length H0 Q → tLc (iList K tl) (gName j) tYes te [j] σ H0 Q := fun H0 e Q q =>
  h H0 e _ fun l H1 hl e1 hx => ⟨l, rfl, ⟨xs, sq_of hx⟩, fun Dl hD =>
    lc_new (okx := fun i x => xs[i]? = some x) walk_list (fun _ _ _ _ y => y) o hD hz (fun H' e' => sq_of (e' _ _ hx)) hw (fun i x H' e' _ hi Q' q' => he i x H' ((e.trans e1).trans e') hi Q' q')
      fun H' ps p1 p2 p3 p4 => q Dl H' ps (fresh_back e1 hD) (e1.trans p1) p2 p3 fun m p hm => ⟨(p4 m p hm).1, fresh_back e1 (p4 m p hm).2⟩⟩
/-- over range(lo, hi, c) -/
theorem el_lcNewR {ta : TA} {lo hi c : Int} {n : Nat} {j : Nat} (o : Nat → HO) (h : EvA ta σ H [.int lo, .int hi, .int c]) (hr : RgC lo hi c n) (hz : n ≤ 40000) (hw : ∀ x, wipe ((wipe σ [j]).set j (some x)) [j] = wipe σ [j])
    (he : ∀ (i : Nat) H1, Ex H H1 → i < n → ∀ Q : VK, (∀ p H2, H1 p = none → Ex H1 H2 → H2 p = some (o i) → Q (.ref p) H2) → te ((wipe σ [j]).set j (some (.int (lo + (i : Nat) * c)))) H1 Q) :
    ∀ H0, Ex H H0 → ∀ Q : VK, NewL o n H0 Q → tLc (iRng3 ta) (gName j) tYes te [j] σ H0 Q := fun H0 e Q q =>
  h H0 e _ fun H1 e1 => ⟨lo, hi, c, n, rfl, hr, fun Dl hD =>
    lc_new (okx := fun i x => x = .int (lo + (i : Nat) * c)) walk_rangeC (fun _ _ _ _ y => y) o hD hz (fun _ _ => trivial) hw (fun i x H' e' hi' hx Q' q' => by
      subst hx
      exact he i H' ((e.trans e1).trans e') hi' Q' q')
      fun H' ps p1 p2 p3 p4 => q Dl H' ps (fresh_back e1 hD) (e1.trans p1) p2 p3 fun m p hm => ⟨(p4 m p hm).1, fresh_back e1 (p4 m p hm).2⟩⟩
end
end KW
end
section
/-! Printed by gen.py from the linked program: the places of the defs, their names and scopes, the addresses, the facts, fields. -/
namespace KW
open PySem PySem.Spec PyProof.Rows L2
def top (i : Nat) : Stmt := PySem.Challenge.pw_keptanswersdesk_s01_answers.main.body.getD i (.Pass ⟨0, 0, 0, 0⟩)
abbrev s_Choice_init : Stmt := inClass (top 2) 0
abbrev N_Choice_init : List Str := ["self", "table"]
abbrev P_Choice_init : List Str := ["self", "table"]
theorem sc_Choice_init : FnScope N_Choice_init P_Choice_init (defScope s_Choice_init) := ⟨rfl, rfl, rfl, by decide +kernel, rfl, by decide +kernel, by decide +kernel⟩
abbrev s_Choice_put_candidates : Stmt := inClass (top 2) 1
abbrev N_Choice_put_candidates : List Str := ["self", "groupings", "grouping"]
abbrev P_Choice_put_candidates : List Str := ["self", "groupings"]
theorem sc_Choice_put_candidates : FnScope N_Choice_put_candidates P_Choice_put_candidates (defScope s_Choice_put_candidates) := ⟨rfl, rfl, rfl, by decide +kernel, rfl, by decide +kernel, by decide +kernel⟩
abbrev s_Choice_put_days : Stmt := inClass (top 2) 2
abbrev N_Choice_put_days : List Str := ["self", "times", "many", "place"]
abbrev P_Choice_put_days : List Str := ["self", "times"]
theorem sc_Choice_put_days : FnScope N_Choice_put_days P_Choice_put_days (defScope s_Choice_put_days) := ⟨rfl, rfl, rfl, by decide +kernel, rfl, by decide +kernel, by decide +kernel⟩
abbrev s_Choice_count_sets : Stmt := inClass (top 2) 3
abbrev N_Choice_count_sets : List Str := ["self"]
abbrev P_Choice_count_sets : List Str := ["self"]
theorem sc_Choice_count_sets : FnScope N_Choice_count_sets P_Choice_count_sets (defScope s_Choice_count_sets) := ⟨rfl, rfl, rfl, by decide +kernel, rfl, by decide +kernel, by decide +kernel⟩
abbrev s_Choice_room : Stmt := inClass (top 2) 4
abbrev N_Choice_room : List Str := ["self", "number", "place", "size"]
abbrev P_Choice_room : List Str := ["self", "number"]
theorem sc_Choice_room : FnScope N_Choice_room P_Choice_room (defScope s_Choice_room) := ⟨rfl, rfl, rfl, by decide +kernel, rfl, by decide +kernel, by decide +kernel⟩
abbrev s_Choice_fitting : Stmt := inClass (top 2) 5
abbrev N_Choice_fitting : List Str := ["self", "room", "number"]
abbrev P_Choice_fitting : List Str := ["self", "room"]
theorem sc_Choice_fitting : FnScope N_Choice_fitting P_Choice_fitting (defScope s_Choice_fitting) := ⟨rfl, rfl, rfl, by decide +kernel, rfl, by decide +kernel, by decide +kernel⟩
abbrev s_Choice_cost : Stmt := inClass (top 2) 6
abbrev N_Choice_cost : List Str := ["self", "grouping", "number", "some", "place", "candidate"]
abbrev P_Choice_cost : List Str := ["self", "grouping", "number"]
theorem sc_Choice_cost : FnScope N_Choice_cost P_Choice_cost (defScope s_Choice_cost) := ⟨rfl, rfl, rfl, by decide +kernel, rfl, by decide +kernel, by decide +kernel⟩
abbrev s_Choice_going : Stmt := inClass (top 2) 7
abbrev N_Choice_going : List Str := ["self", "old", "new", "found", "place", "candidate"]
abbrev P_Choice_going : List Str := ["self", "old", "new"]
theorem sc_Choice_going : FnScope N_Choice_going P_Choice_going (defScope s_Choice_going) := ⟨rfl, rfl, rfl, by decide +kernel, rfl, by decide +kernel, by decide +kernel⟩
abbrev s_Choice_day_cost : Stmt := inClass (top 2) 8
abbrev N_Choice_day_cost : List Str := ["self", "times", "number", "found", "question", "often"]
abbrev P_Choice_day_cost : List Str := ["self", "times", "number"]
theorem sc_Choice_day_cost : FnScope N_Choice_day_cost P_Choice_day_cost (defScope s_Choice_day_cost) := ⟨rfl, rfl, rfl, by decide +kernel, rfl, by decide +kernel, by decide +kernel⟩
abbrev s_Choice_plan_cost : Stmt := inClass (top 2) 9
abbrev N_Choice_plan_cost : List Str := ["self", "sets", "found", "before", "number", "times"]
abbrev P_Choice_plan_cost : List Str := ["self", "sets"]
theorem sc_Choice_plan_cost : FnScope N_Choice_plan_cost P_Choice_plan_cost (defScope s_Choice_plan_cost) := ⟨rfl, rfl, rfl, by decide +kernel, rfl, by decide +kernel, by decide +kernel⟩
abbrev s_Choice_rests : Stmt := inClass (top 2) 10
abbrev N_Choice_rests : List Str := ["self", "some", "found", "number", "times", "own", "row", "before"]
abbrev P_Choice_rests : List Str := ["self", "some"]
theorem sc_Choice_rests : FnScope N_Choice_rests P_Choice_rests (defScope s_Choice_rests) := ⟨rfl, rfl, rfl, by decide +kernel, rfl, by decide +kernel, by decide +kernel⟩
abbrev s_Choice_best : Stmt := inClass (top 2) 11
abbrev N_Choice_best : List Str := ["self", "room", "some", "rests", "sets", "before", "day", "times", "costs", "number"]
abbrev P_Choice_best : List Str := ["self", "room"]
theorem sc_Choice_best : FnScope N_Choice_best P_Choice_best (defScope s_Choice_best) := ⟨rfl, rfl, rfl, by decide +kernel, rfl, by decide +kernel, by decide +kernel⟩
abbrev s_Choice_same_always : Stmt := inClass (top 2) 12
abbrev N_Choice_same_always : List Str := ["self", "room", "some", "costs", "number"]
abbrev P_Choice_same_always : List Str := ["self", "room"]
theorem sc_Choice_same_always : FnScope N_Choice_same_always P_Choice_same_always (defScope s_Choice_same_always) := ⟨rfl, rfl, rfl, by decide +kernel, rfl, by decide +kernel, by decide +kernel⟩
abbrev s_greatest_divisor : Stmt := top 3
abbrev N_greatest_divisor : List Str := ["one", "other"]
abbrev P_greatest_divisor : List Str := ["one", "other"]
theorem sc_greatest_divisor : FnScope N_greatest_divisor P_greatest_divisor (defScope s_greatest_divisor) := ⟨rfl, rfl, rfl, by decide +kernel, rfl, by decide +kernel, by decide +kernel⟩
abbrev s_fraction : Stmt := top 4
abbrev N_fraction : List Str := ["above", "below", "divisor"]
abbrev P_fraction : List Str := ["above", "below"]
theorem sc_fraction : FnScope N_fraction P_fraction (defScope s_fraction) := ⟨rfl, rfl, rfl, by decide +kernel, rfl, by decide +kernel, by decide +kernel⟩
abbrev s_Line_init : Stmt := inClass (top 5) 0
abbrev N_Line_init : List Str := ["self", "number", "begin", "slope"]
abbrev P_Line_init : List Str := ["self", "number", "begin", "slope"]
theorem sc_Line_init : FnScope N_Line_init P_Line_init (defScope s_Line_init) := ⟨rfl, rfl, rfl, by decide +kernel, rfl, by decide +kernel, by decide +kernel⟩
abbrev s_Line_key_at : Stmt := inClass (top 5) 1
abbrev N_Line_key_at : List Str := ["self", "at"]
abbrev P_Line_key_at : List Str := ["self", "at"]
theorem sc_Line_key_at : FnScope N_Line_key_at P_Line_key_at (defScope s_Line_key_at) := ⟨rfl, rfl, rfl, by decide +kernel, rfl, by decide +kernel, by decide +kernel⟩
abbrev s_lines_of : Stmt := top 6
abbrev N_lines_of : List Str := ["choice", "room", "asked", "found", "number", "begin", "place", "question"]
abbrev P_lines_of : List Str := ["choice", "room", "asked"]
theorem sc_lines_of : FnScope N_lines_of P_lines_of (defScope s_lines_of) := ⟨rfl, rfl, rfl, by decide +kernel, rfl, by decide +kernel, by decide +kernel⟩
abbrev s_meeting : Stmt := top 7
abbrev N_meeting : List Str := ["line", "other"]
abbrev P_meeting : List Str := ["line", "other"]
theorem sc_meeting : FnScope N_meeting P_meeting (defScope s_meeting) := ⟨rfl, rfl, rfl, by decide +kernel, rfl, by decide +kernel, by decide +kernel⟩
abbrev s_is_less : Stmt := top 8
abbrev N_is_less : List Str := ["one", "other"]
abbrev P_is_less : List Str := ["one", "other"]
theorem sc_is_less : FnScope N_is_less P_is_less (defScope s_is_less) := ⟨rfl, rfl, rfl, by decide +kernel, rfl, by decide +kernel, by decide +kernel⟩
abbrev s_piece_end : Stmt := top 9
abbrev N_piece_end : List Str := ["lines", "line", "found", "other"]
abbrev P_piece_end : List Str := ["lines", "line"]
theorem sc_piece_end : FnScope N_piece_end P_piece_end (defScope s_piece_end) := ⟨rfl, rfl, rfl, by decide +kernel, rfl, by decide +kernel, by decide +kernel⟩
abbrev s_pieces_of : Stmt := top 10
abbrev N_pieces_of : List Str := ["lines", "found", "at", "keys", "line", "end"]
abbrev P_pieces_of : List Str := ["lines"]
theorem sc_pieces_of : FnScope N_pieces_of P_pieces_of (defScope s_pieces_of) := ⟨rfl, rfl, rfl, by decide +kernel, rfl, by decide +kernel, by decide +kernel⟩
abbrev s_Fault_init : Stmt := inClass (top 23) 0
abbrev N_Fault_init : List Str := ["self", "kind", "place"]
abbrev P_Fault_init : List Str := ["self", "kind", "place"]
theorem sc_Fault_init : FnScope N_Fault_init P_Fault_init (defScope s_Fault_init) := ⟨rfl, rfl, rfl, by decide +kernel, rfl, by decide +kernel, by decide +kernel⟩
abbrev s_Token_init : Stmt := inClass (top 24) 0
abbrev N_Token_init : List Str := ["self", "sort_told", "text", "number", "place"]
abbrev P_Token_init : List Str := ["self", "sort_told", "text", "number", "place"]
theorem sc_Token_init : FnScope N_Token_init P_Token_init (defScope s_Token_init) := ⟨rfl, rfl, rfl, by decide +kernel, rfl, by decide +kernel, by decide +kernel⟩
abbrev s_is_letter : Stmt := top 25
abbrev N_is_letter : List Str := ["byte"]
abbrev P_is_letter : List Str := ["byte"]
theorem sc_is_letter : FnScope N_is_letter P_is_letter (defScope s_is_letter) := ⟨rfl, rfl, rfl, by decide +kernel, rfl, by decide +kernel, by decide +kernel⟩
abbrev s_is_digit : Stmt := top 26
abbrev N_is_digit : List Str := ["byte"]
abbrev P_is_digit : List Str := ["byte"]
theorem sc_is_digit : FnScope N_is_digit P_is_digit (defScope s_is_digit) := ⟨rfl, rfl, rfl, by decide +kernel, rfl, by decide +kernel, by decide +kernel⟩
abbrev s_text_of : Stmt := top 27
abbrev N_text_of : List Str := ["data", "found", "byte"]
abbrev P_text_of : List Str := ["data"]
theorem sc_text_of : FnScope N_text_of P_text_of (defScope s_text_of) := ⟨rfl, rfl, rfl, by decide +kernel, rfl, by decide +kernel, by decide +kernel⟩
abbrev s_word_token : Stmt := top 28
abbrev N_word_token : List Str := ["data", "place", "text"]
abbrev P_word_token : List Str := ["data", "place"]
theorem sc_word_token : FnScope N_word_token P_word_token (defScope s_word_token) := ⟨rfl, rfl, rfl, by decide +kernel, rfl, by decide +kernel, by decide +kernel⟩
abbrev s_number_token : Stmt := top 29
abbrev N_number_token : List Str := ["data", "place", "number", "byte"]
abbrev P_number_token : List Str := ["data", "place"]
theorem sc_number_token : FnScope N_number_token P_number_token (defScope s_number_token) := ⟨rfl, rfl, rfl, by decide +kernel, rfl, by decide +kernel, by decide +kernel⟩
abbrev s_sign_token : Stmt := top 30
abbrev N_sign_token : List Str := ["byte", "place", "sign"]
abbrev P_sign_token : List Str := ["byte", "place"]
theorem sc_sign_token : FnScope N_sign_token P_sign_token (defScope s_sign_token) := ⟨rfl, rfl, rfl, by decide +kernel, rfl, by decide +kernel, by decide +kernel⟩
abbrev s_remark_end : Stmt := top 31
abbrev N_remark_end : List Str := ["text", "place"]
abbrev P_remark_end : List Str := ["text", "place"]
theorem sc_remark_end : FnScope N_remark_end P_remark_end (defScope s_remark_end) := ⟨rfl, rfl, rfl, by decide +kernel, rfl, by decide +kernel, by decide +kernel⟩
abbrev s_word_end : Stmt := top 32
abbrev N_word_end : List Str := ["text", "place"]
abbrev P_word_end : List Str := ["text", "place"]
theorem sc_word_end : FnScope N_word_end P_word_end (defScope s_word_end) := ⟨rfl, rfl, rfl, by decide +kernel, rfl, by decide +kernel, by decide +kernel⟩
abbrev s_number_end : Stmt := top 33
abbrev N_number_end : List Str := ["text", "place"]
abbrev P_number_end : List Str := ["text", "place"]
theorem sc_number_end : FnScope N_number_end P_number_end (defScope s_number_end) := ⟨rfl, rfl, rfl, by decide +kernel, rfl, by decide +kernel, by decide +kernel⟩
abbrev s_tokens_of : Stmt := top 34
abbrev N_tokens_of : List Str := ["text", "found", "place", "end"]
abbrev P_tokens_of : List Str := ["text"]
theorem sc_tokens_of : FnScope N_tokens_of P_tokens_of (defScope s_tokens_of) := ⟨rfl, rfl, rfl, by decide +kernel, rfl, by decide +kernel, by decide +kernel⟩
abbrev s_Question_init : Stmt := inClass (top 50) 0
abbrev N_Question_init : List Str := ["self", "grouping", "often"]
abbrev P_Question_init : List Str := ["self", "grouping", "often"]
theorem sc_Question_init : FnScope N_Question_init P_Question_init (defScope s_Question_init) := ⟨rfl, rfl, rfl, by decide +kernel, rfl, by decide +kernel, by decide +kernel⟩
abbrev s_Table_init : Stmt := inClass (top 51) 0
abbrev N_Table_init : List Str := ["self"]
abbrev P_Table_init : List Str := ["self"]
theorem sc_Table_init : FnScope N_Table_init P_Table_init (defScope s_Table_init) := ⟨rfl, rfl, rfl, by decide +kernel, rfl, by decide +kernel, by decide +kernel⟩
abbrev s_Table_size : Stmt := inClass (top 51) 1
abbrev N_Table_size : List Str := ["self", "grouping", "groups", "row", "group", "place", "value"]
abbrev P_Table_size : List Str := ["self", "grouping"]
theorem sc_Table_size : FnScope N_Table_size P_Table_size (defScope s_Table_size) := ⟨rfl, rfl, rfl, by decide +kernel, rfl, by decide +kernel, by decide +kernel⟩
abbrev s_Reader_init : Stmt := inClass (top 52) 0
abbrev N_Reader_init : List Str := ["self", "text"]
abbrev P_Reader_init : List Str := ["self", "text"]
theorem sc_Reader_init : FnScope N_Reader_init P_Reader_init (defScope s_Reader_init) := ⟨rfl, rfl, rfl, by decide +kernel, rfl, by decide +kernel, by decide +kernel⟩
abbrev s_Reader_here : Stmt := inClass (top 52) 1
abbrev N_Reader_here : List Str := ["self"]
abbrev P_Reader_here : List Str := ["self"]
theorem sc_Reader_here : FnScope N_Reader_here P_Reader_here (defScope s_Reader_here) := ⟨rfl, rfl, rfl, by decide +kernel, rfl, by decide +kernel, by decide +kernel⟩
abbrev s_Reader_fail_if : Stmt := inClass (top 52) 2
abbrev N_Reader_fail_if : List Str := ["self", "truth", "kind"]
abbrev P_Reader_fail_if : List Str := ["self", "truth", "kind"]
theorem sc_Reader_fail_if : FnScope N_Reader_fail_if P_Reader_fail_if (defScope s_Reader_fail_if) := ⟨rfl, rfl, rfl, by decide +kernel, rfl, by decide +kernel, by decide +kernel⟩
abbrev s_Reader_is_next : Stmt := inClass (top 52) 3
abbrev N_Reader_is_next : List Str := ["self", "sort_told", "text"]
abbrev P_Reader_is_next : List Str := ["self", "sort_told", "text"]
theorem sc_Reader_is_next : FnScope N_Reader_is_next P_Reader_is_next (defScope s_Reader_is_next) := ⟨rfl, rfl, rfl, by decide +kernel, rfl, by decide +kernel, by decide +kernel⟩
abbrev s_Reader_look_for : Stmt := inClass (top 52) 4
abbrev N_Reader_look_for : List Str := ["self", "sort_told", "text"]
abbrev P_Reader_look_for : List Str := ["self", "sort_told", "text"]
theorem sc_Reader_look_for : FnScope N_Reader_look_for P_Reader_look_for (defScope s_Reader_look_for) := ⟨rfl, rfl, rfl, by decide +kernel, rfl, by decide +kernel, by decide +kernel⟩
abbrev s_Reader_want : Stmt := inClass (top 52) 5
abbrev N_Reader_want : List Str := ["self", "sort_told", "text"]
abbrev P_Reader_want : List Str := ["self", "sort_told", "text"]
theorem sc_Reader_want : FnScope N_Reader_want P_Reader_want (defScope s_Reader_want) := ⟨rfl, rfl, rfl, by decide +kernel, rfl, by decide +kernel, by decide +kernel⟩
abbrev s_Reader_read_number : Stmt := inClass (top 52) 6
abbrev N_Reader_read_number : List Str := ["self", "low", "high"]
abbrev P_Reader_read_number : List Str := ["self", "low", "high"]
theorem sc_Reader_read_number : FnScope N_Reader_read_number P_Reader_read_number (defScope s_Reader_read_number) := ⟨rfl, rfl, rfl, by decide +kernel, rfl, by decide +kernel, by decide +kernel⟩
abbrev s_Reader_read_column : Stmt := inClass (top 52) 7
abbrev N_Reader_read_column : List Str := ["self", "columns"]
abbrev P_Reader_read_column : List Str := ["self"]
theorem sc_Reader_read_column : FnScope N_Reader_read_column P_Reader_read_column (defScope s_Reader_read_column) := ⟨rfl, rfl, rfl, by decide +kernel, rfl, by decide +kernel, by decide +kernel⟩
abbrev s_Reader_read_columns : Stmt := inClass (top 52) 8
abbrev N_Reader_read_columns : List Str := ["self"]
abbrev P_Reader_read_columns : List Str := ["self"]
theorem sc_Reader_read_columns : FnScope N_Reader_read_columns P_Reader_read_columns (defScope s_Reader_read_columns) := ⟨rfl, rfl, rfl, by decide +kernel, rfl, by decide +kernel, by decide +kernel⟩
abbrev s_Reader_read_row : Stmt := inClass (top 52) 9
abbrev N_Reader_read_row : List Str := ["self", "found", "place"]
abbrev P_Reader_read_row : List Str := ["self"]
theorem sc_Reader_read_row : FnScope N_Reader_read_row P_Reader_read_row (defScope s_Reader_read_row) := ⟨rfl, rfl, rfl, by decide +kernel, rfl, by decide +kernel, by decide +kernel⟩
abbrev s_Reader_read_name : Stmt := inClass (top 52) 10
abbrev N_Reader_read_name : List Str := ["self", "grouping", "text", "bit"]
abbrev P_Reader_read_name : List Str := ["self", "grouping"]
theorem sc_Reader_read_name : FnScope N_Reader_read_name P_Reader_read_name (defScope s_Reader_read_name) := ⟨rfl, rfl, rfl, by decide +kernel, rfl, by decide +kernel, by decide +kernel⟩
abbrev s_Reader_read_question : Stmt := inClass (top 52) 11
abbrev N_Reader_read_question : List Str := ["self", "grouping", "often"]
abbrev P_Reader_read_question : List Str := ["self"]
theorem sc_Reader_read_question : FnScope N_Reader_read_question P_Reader_read_question (defScope s_Reader_read_question) := ⟨rfl, rfl, rfl, by decide +kernel, rfl, by decide +kernel, by decide +kernel⟩
abbrev s_Reader_read : Stmt := inClass (top 52) 12
abbrev N_Reader_read : List Str := ["self", "table"]
abbrev P_Reader_read : List Str := ["self"]
theorem sc_Reader_read : FnScope N_Reader_read P_Reader_read (defScope s_Reader_read) := ⟨rfl, rfl, rfl, by decide +kernel, rfl, by decide +kernel, by decide +kernel⟩
abbrev s_table_of : Stmt := top 53
abbrev N_table_of : List Str := ["text"]
abbrev P_table_of : List Str := ["text"]
theorem sc_table_of : FnScope N_table_of P_table_of (defScope s_table_of) := ⟨rfl, rfl, rfl, by decide +kernel, rfl, by decide +kernel, by decide +kernel⟩
abbrev s_Refused_init : Stmt := inClass (top 69) 0
abbrev N_Refused_init : List Str := ["self", "why"]
abbrev P_Refused_init : List Str := ["self", "why"]
theorem sc_Refused_init : FnScope N_Refused_init P_Refused_init (defScope s_Refused_init) := ⟨rfl, rfl, rfl, by decide +kernel, rfl, by decide +kernel, by decide +kernel⟩
abbrev s_refuse_if : Stmt := top 70
abbrev N_refuse_if : List Str := ["truth", "why"]
abbrev P_refuse_if : List Str := ["truth", "why"]
theorem sc_refuse_if : FnScope N_refuse_if P_refuse_if (defScope s_refuse_if) := ⟨rfl, rfl, rfl, by decide +kernel, rfl, by decide +kernel, by decide +kernel⟩
abbrev s_Desk_init : Stmt := inClass (top 71) 0
abbrev N_Desk_init : List Str := ["self"]
abbrev P_Desk_init : List Str := ["self"]
theorem sc_Desk_init : FnScope N_Desk_init P_Desk_init (defScope s_Desk_init) := ⟨rfl, rfl, rfl, by decide +kernel, rfl, by decide +kernel, by decide +kernel⟩
abbrev s_Desk_load : Stmt := inClass (top 71) 1
abbrev N_Desk_load : List Str := ["self", "text", "table", "e"]
abbrev P_Desk_load : List Str := ["self", "text"]
theorem sc_Desk_load : FnScope N_Desk_load P_Desk_load (defScope s_Desk_load) := ⟨rfl, rfl, rfl, by decide +kernel, rfl, by decide +kernel, by decide +kernel⟩
abbrev s_Desk_look_at_room : Stmt := inClass (top 71) 2
abbrev N_Desk_look_at_room : List Str := ["self", "room"]
abbrev P_Desk_look_at_room : List Str := ["self", "room"]
theorem sc_Desk_look_at_room : FnScope N_Desk_look_at_room P_Desk_look_at_room (defScope s_Desk_look_at_room) := ⟨rfl, rfl, rfl, by decide +kernel, rfl, by decide +kernel, by decide +kernel⟩
abbrev s_Desk_look_at_set : Stmt := inClass (top 71) 3
abbrev N_Desk_look_at_set : List Str := ["self", "number"]
abbrev P_Desk_look_at_set : List Str := ["self", "number"]
theorem sc_Desk_look_at_set : FnScope N_Desk_look_at_set P_Desk_look_at_set (defScope s_Desk_look_at_set) := ⟨rfl, rfl, rfl, by decide +kernel, rfl, by decide +kernel, by decide +kernel⟩
abbrev s_Desk_cands : Stmt := inClass (top 71) 4
abbrev N_Desk_cands : List Str := ["self", "groupings", "most", "grouping"]
abbrev P_Desk_cands : List Str := ["self", "groupings"]
theorem sc_Desk_cands : FnScope N_Desk_cands P_Desk_cands (defScope s_Desk_cands) := ⟨rfl, rfl, rfl, by decide +kernel, rfl, by decide +kernel, by decide +kernel⟩
abbrev s_Desk_put_days : Stmt := inClass (top 71) 5
abbrev N_Desk_put_days : List Str := ["self", "times", "many", "often"]
abbrev P_Desk_put_days : List Str := ["self", "times"]
theorem sc_Desk_put_days : FnScope N_Desk_put_days P_Desk_put_days (defScope s_Desk_put_days) := ⟨rfl, rfl, rfl, by decide +kernel, rfl, by decide +kernel, by decide +kernel⟩
abbrev s_Desk_best : Stmt := inClass (top 71) 6
abbrev N_Desk_best : List Str := ["self", "room"]
abbrev P_Desk_best : List Str := ["self", "room"]
theorem sc_Desk_best : FnScope N_Desk_best P_Desk_best (defScope s_Desk_best) := ⟨rfl, rfl, rfl, by decide +kernel, rfl, by decide +kernel, by decide +kernel⟩
abbrev s_Desk_always : Stmt := inClass (top 71) 7
abbrev N_Desk_always : List Str := ["self", "room"]
abbrev P_Desk_always : List Str := ["self", "room"]
theorem sc_Desk_always : FnScope N_Desk_always P_Desk_always (defScope s_Desk_always) := ⟨rfl, rfl, rfl, by decide +kernel, rfl, by decide +kernel, by decide +kernel⟩
abbrev s_Desk_check : Stmt := inClass (top 71) 8
abbrev N_Desk_check : List Str := ["self", "room", "sets", "number", "day"]
abbrev P_Desk_check : List Str := ["self", "room", "sets"]
theorem sc_Desk_check : FnScope N_Desk_check P_Desk_check (defScope s_Desk_check) := ⟨rfl, rfl, rfl, by decide +kernel, rfl, by decide +kernel, by decide +kernel⟩
abbrev s_Desk_day : Stmt := inClass (top 71) 9
abbrev N_Desk_day : List Str := ["self", "number", "kept"]
abbrev P_Desk_day : List Str := ["self", "number", "kept"]
theorem sc_Desk_day : FnScope N_Desk_day P_Desk_day (defScope s_Desk_day) := ⟨rfl, rfl, rfl, by decide +kernel, rfl, by decide +kernel, by decide +kernel⟩
abbrev s_Desk_go : Stmt := inClass (top 71) 10
abbrev N_Desk_go : List Str := ["self", "old", "new"]
abbrev P_Desk_go : List Str := ["self", "old", "new"]
theorem sc_Desk_go : FnScope N_Desk_go P_Desk_go (defScope s_Desk_go) := ⟨rfl, rfl, rfl, by decide +kernel, rfl, by decide +kernel, by decide +kernel⟩
abbrev s_Desk_ends : Stmt := inClass (top 71) 11
abbrev N_Desk_ends : List Str := ["self", "room", "asked", "pieces", "found", "number", "begin", "end"]
abbrev P_Desk_ends : List Str := ["self", "room", "asked"]
theorem sc_Desk_ends : FnScope N_Desk_ends P_Desk_ends (defScope s_Desk_ends) := ⟨rfl, rfl, rfl, by decide +kernel, rfl, by decide +kernel, by decide +kernel⟩
abbrev s_call_told : Stmt := top 72
abbrev N_call_told : List Str := ["desk", "call", "numbers", "row"]
abbrev P_call_told : List Str := ["desk", "call", "numbers", "row"]
theorem sc_call_told : FnScope N_call_told P_call_told (defScope s_call_told) := ⟨rfl, rfl, rfl, by decide +kernel, rfl, by decide +kernel, by decide +kernel⟩
abbrev s_answer_of : Stmt := top 73
abbrev N_answer_of : List Str := ["desk", "call", "numbers", "row", "e"]
abbrev P_answer_of : List Str := ["desk", "call", "numbers", "row"]
theorem sc_answer_of : FnScope N_answer_of P_answer_of (defScope s_answer_of) := ⟨rfl, rfl, rfl, by decide +kernel, rfl, by decide +kernel, by decide +kernel⟩
abbrev s_CallReader_init : Stmt := inClass (top 74) 0
abbrev N_CallReader_init : List Str := ["self", "calls"]
abbrev P_CallReader_init : List Str := ["self", "calls"]
theorem sc_CallReader_init : FnScope N_CallReader_init P_CallReader_init (defScope s_CallReader_init) := ⟨rfl, rfl, rfl, by decide +kernel, rfl, by decide +kernel, by decide +kernel⟩
abbrev s_CallReader_is_done : Stmt := inClass (top 74) 1
abbrev N_CallReader_is_done : List Str := ["self"]
abbrev P_CallReader_is_done : List Str := ["self"]
theorem sc_CallReader_is_done : FnScope N_CallReader_is_done P_CallReader_is_done (defScope s_CallReader_is_done) := ⟨rfl, rfl, rfl, by decide +kernel, rfl, by decide +kernel, by decide +kernel⟩
abbrev s_CallReader_next_some : Stmt := inClass (top 74) 2
abbrev N_CallReader_next_some : List Str := ["self", "many"]
abbrev P_CallReader_next_some : List Str := ["self", "many"]
theorem sc_CallReader_next_some : FnScope N_CallReader_next_some P_CallReader_next_some (defScope s_CallReader_next_some) := ⟨rfl, rfl, rfl, by decide +kernel, rfl, by decide +kernel, by decide +kernel⟩
abbrev s_answers : Stmt := top 75
abbrev N_answers : List Str := ["calls", "desk", "reader", "found", "call", "numbers", "row", "answer"]
abbrev P_answers : List Str := ["calls"]
theorem sc_answers : FnScope N_answers P_answers (defScope s_answers) := ⟨rfl, rfl, rfl, by decide +kernel, rfl, by decide +kernel, by decide +kernel⟩
/-- the addresses of what the top has written -/
structure Ad where
  cChoice : Addr
  cLine : Addr
  cFault : Addr
  cToken : Addr
  cQuestion : Addr
  cTable : Addr
  cReader : Addr
  cRefused : Addr
  cDesk : Addr
  cCallReader : Addr
  k_BLANKS : Addr
  k_WORDS : Addr
  k_NUMBERS : Addr
  k_ROWS : Addr
  f_Choice_init : Addr
  fd_Choice_init : FuncData
  f_Choice_put_candidates : Addr
  fd_Choice_put_candidates : FuncData
  f_Choice_put_days : Addr
  fd_Choice_put_days : FuncData
  f_Choice_count_sets : Addr
  fd_Choice_count_sets : FuncData
  f_Choice_room : Addr
  fd_Choice_room : FuncData
  f_Choice_fitting : Addr
  fd_Choice_fitting : FuncData
  f_Choice_cost : Addr
  fd_Choice_cost : FuncData
  f_Choice_going : Addr
  fd_Choice_going : FuncData
  f_Choice_day_cost : Addr
  fd_Choice_day_cost : FuncData
  f_Choice_plan_cost : Addr
  fd_Choice_plan_cost : FuncData
  f_Choice_rests : Addr
  fd_Choice_rests : FuncData
  f_Choice_best : Addr
  fd_Choice_best : FuncData
  f_Choice_same_always : Addr
  fd_Choice_same_always : FuncData
  f_greatest_divisor : Addr
  fd_greatest_divisor : FuncData
  f_fraction : Addr
  fd_fraction : FuncData
  f_Line_init : Addr
  fd_Line_init : FuncData
  f_Line_key_at : Addr
  fd_Line_key_at : FuncData
  f_lines_of : Addr
  fd_lines_of : FuncData
  f_meeting : Addr
  fd_meeting : FuncData
  f_is_less : Addr
  fd_is_less : FuncData
  f_piece_end : Addr
  fd_piece_end : FuncData
  f_pieces_of : Addr
  fd_pieces_of : FuncData
  f_Fault_init : Addr
  fd_Fault_init : FuncData
  f_Token_init : Addr
  fd_Token_init : FuncData
  f_is_letter : Addr
  fd_is_letter : FuncData
  f_is_digit : Addr
  fd_is_digit : FuncData
  f_text_of : Addr
  fd_text_of : FuncData
  f_word_token : Addr
  fd_word_token : FuncData
  f_number_token : Addr
  fd_number_token : FuncData
  f_sign_token : Addr
  fd_sign_token : FuncData
  f_remark_end : Addr
  fd_remark_end : FuncData
  f_word_end : Addr
  fd_word_end : FuncData
  f_number_end : Addr
  fd_number_end : FuncData
  f_tokens_of : Addr
  fd_tokens_of : FuncData
  f_Question_init : Addr
  fd_Question_init : FuncData
  f_Table_init : Addr
  fd_Table_init : FuncData
  f_Table_size : Addr
  fd_Table_size : FuncData
  f_Reader_init : Addr
  fd_Reader_init : FuncData
  f_Reader_here : Addr
  fd_Reader_here : FuncData
  f_Reader_fail_if : Addr
  fd_Reader_fail_if : FuncData
  f_Reader_is_next : Addr
  fd_Reader_is_next : FuncData
  f_Reader_look_for : Addr
  fd_Reader_look_for : FuncData
  f_Reader_want : Addr
  fd_Reader_want : FuncData
  f_Reader_read_number : Addr
  fd_Reader_read_number : FuncData
  f_Reader_read_column : Addr
  fd_Reader_read_column : FuncData
  f_Reader_read_columns : Addr
  fd_Reader_read_columns : FuncData
  f_Reader_read_row : Addr
  fd_Reader_read_row : FuncData
  f_Reader_read_name : Addr
  fd_Reader_read_name : FuncData
  f_Reader_read_question : Addr
  fd_Reader_read_question : FuncData
  f_Reader_read : Addr
  fd_Reader_read : FuncData
  f_table_of : Addr
  fd_table_of : FuncData
  f_Refused_init : Addr
  fd_Refused_init : FuncData
  f_refuse_if : Addr
  fd_refuse_if : FuncData
  f_Desk_init : Addr
  fd_Desk_init : FuncData
  f_Desk_load : Addr
  fd_Desk_load : FuncData
  f_Desk_look_at_room : Addr
  fd_Desk_look_at_room : FuncData
  f_Desk_look_at_set : Addr
  fd_Desk_look_at_set : FuncData
  f_Desk_cands : Addr
  fd_Desk_cands : FuncData
  f_Desk_put_days : Addr
  fd_Desk_put_days : FuncData
  f_Desk_best : Addr
  fd_Desk_best : FuncData
  f_Desk_always : Addr
  fd_Desk_always : FuncData
  f_Desk_check : Addr
  fd_Desk_check : FuncData
  f_Desk_day : Addr
  fd_Desk_day : FuncData
  f_Desk_go : Addr
  fd_Desk_go : FuncData
  f_Desk_ends : Addr
  fd_Desk_ends : FuncData
  f_call_told : Addr
  fd_call_told : FuncData
  f_answer_of : Addr
  fd_answer_of : FuncData
  f_CallReader_init : Addr
  fd_CallReader_init : FuncData
  f_CallReader_is_done : Addr
  fd_CallReader_is_done : FuncData
  f_CallReader_next_some : Addr
  fd_CallReader_next_some : FuncData
  f_answers : Addr
  fd_answers : FuncData
structure TxtG (K : PySem.W.Frag) (mg : Str → Option Value) (d : Ad) : Prop where
  m_TIMES_END : ∃ t, mg "TIMES_END" = some (.int 100 t)
  m_BAD_TOKEN : ∃ t, mg "BAD_TOKEN" = some (.int 2 t)
  m_MOST_NAME : ∃ t, mg "MOST_NAME" = some (.int 16 t)
  m_MOST_NUMBER : ∃ t, mg "MOST_NUMBER" = some (.int 1000000000 t)
  m_BLANKS : mg "BLANKS" = some (.ref d.k_BLANKS)
  m_REMARK : ∃ t, mg "REMARK" = some (.int 35 t)
  m_ROW_END : ∃ t, mg "ROW_END" = some (.int 10 t)
  m_SIGNS : ∃ t, mg "SIGNS" = some (.str ",:;-" t)
  m_WORDS : mg "WORDS" = some (.ref d.k_WORDS)
  m_CAPITALS : ∃ t, mg "CAPITALS" = some (.str "ABCDEFGHIJKLMNOPQRSTUVWXYZ" t)
  m_SMALLS : ∃ t, mg "SMALLS" = some (.str "abcdefghijklmnopqrstuvwxyz" t)
  m_DIGITS : ∃ t, mg "DIGITS" = some (.str "0123456789" t)
  m_TOO_LONG : ∃ t, mg "TOO_LONG" = some (.int 1 t)
  m_NOT_HERE : ∃ t, mg "NOT_HERE" = some (.int 3 t)
  m_TOO_MANY : ∃ t, mg "TOO_MANY" = some (.int 4 t)
  m_COLUMN_TWICE : ∃ t, mg "COLUMN_TWICE" = some (.int 5 t)
  m_NAME_TWICE : ∃ t, mg "NAME_TWICE" = some (.int 6 t)
  m_OUT_OF_RANGE : ∃ t, mg "OUT_OF_RANGE" = some (.int 7 t)
  m_NO_COLUMN : ∃ t, mg "NO_COLUMN" = some (.int 8 t)
  m_MOST_BYTES : ∃ t, mg "MOST_BYTES" = some (.int 4096 t)
  m_MOST_COLUMNS : ∃ t, mg "MOST_COLUMNS" = some (.int 4 t)
  m_MOST_ROWS : ∃ t, mg "MOST_ROWS" = some (.int 16 t)
  m_MOST_QUESTIONS : ∃ t, mg "MOST_QUESTIONS" = some (.int 8 t)
  m_MOST_VALUE : ∃ t, mg "MOST_VALUE" = some (.int 9 t)
  m_MOST_SUMMED : ∃ t, mg "MOST_SUMMED" = some (.int 1000 t)
  m_MOST_TIMES : ∃ t, mg "MOST_TIMES" = some (.int 99 t)
  m_LOAD : ∃ t, mg "LOAD" = some (.int 0 t)
  m_CANDS : ∃ t, mg "CANDS" = some (.int 1 t)
  m_DAYS : ∃ t, mg "DAYS" = some (.int 2 t)
  m_BEST : ∃ t, mg "BEST" = some (.int 3 t)
  m_ALWAYS : ∃ t, mg "ALWAYS" = some (.int 4 t)
  m_CHECK : ∃ t, mg "CHECK" = some (.int 5 t)
  m_DAY : ∃ t, mg "DAY" = some (.int 6 t)
  m_GO : ∃ t, mg "GO" = some (.int 7 t)
  m_MOST_CANDIDATES : ∃ t, mg "MOST_CANDIDATES" = some (.int 4 t)
  m_MOST_DAYS : ∃ t, mg "MOST_DAYS" = some (.int 8 t)
  m_MOST_OFTEN : ∃ t, mg "MOST_OFTEN" = some (.int 99 t)
  m_MOST_ROOM : ∃ t, mg "MOST_ROOM" = some (.int 1000 t)
  m_NUMBERS : mg "NUMBERS" = some (.ref d.k_NUMBERS)
  m_ROWS : mg "ROWS" = some (.ref d.k_ROWS)
  b_len : mg "len" = none
  b_sum : mg "sum" = none
  b_min : mg "min" = none
  b_dict : mg "dict" = none
  b_list : mg "list" = none
  b_ord : mg "ord" = none
  b_enumerate : mg "enumerate" = none
  b_zip : mg "zip" = none
  b_range : mg "range" = none
  b_set : mg "set" = none
  g_Choice : mg "Choice" = some (.ref d.cChoice)
  g_Line : mg "Line" = some (.ref d.cLine)
  g_Fault : mg "Fault" = some (.ref d.cFault)
  g_Token : mg "Token" = some (.ref d.cToken)
  g_Question : mg "Question" = some (.ref d.cQuestion)
  g_Table : mg "Table" = some (.ref d.cTable)
  g_Reader : mg "Reader" = some (.ref d.cReader)
  g_Refused : mg "Refused" = some (.ref d.cRefused)
  g_Desk : mg "Desk" = some (.ref d.cDesk)
  g_CallReader : mg "CallReader" = some (.ref d.cCallReader)
  g_greatest_divisor : mg "greatest_divisor" = some (.ref d.f_greatest_divisor)
  g_fraction : mg "fraction" = some (.ref d.f_fraction)
  g_lines_of : mg "lines_of" = some (.ref d.f_lines_of)
  g_meeting : mg "meeting" = some (.ref d.f_meeting)
  g_is_less : mg "is_less" = some (.ref d.f_is_less)
  g_piece_end : mg "piece_end" = some (.ref d.f_piece_end)
  g_pieces_of : mg "pieces_of" = some (.ref d.f_pieces_of)
  g_is_letter : mg "is_letter" = some (.ref d.f_is_letter)
  g_is_digit : mg "is_digit" = some (.ref d.f_is_digit)
  g_text_of : mg "text_of" = some (.ref d.f_text_of)
  g_word_token : mg "word_token" = some (.ref d.f_word_token)
  g_number_token : mg "number_token" = some (.ref d.f_number_token)
  g_sign_token : mg "sign_token" = some (.ref d.f_sign_token)
  g_remark_end : mg "remark_end" = some (.ref d.f_remark_end)
  g_word_end : mg "word_end" = some (.ref d.f_word_end)
  g_number_end : mg "number_end" = some (.ref d.f_number_end)
  g_tokens_of : mg "tokens_of" = some (.ref d.f_tokens_of)
  g_table_of : mg "table_of" = some (.ref d.f_table_of)
  g_refuse_if : mg "refuse_if" = some (.ref d.f_refuse_if)
  g_call_told : mg "call_told" = some (.ref d.f_call_told)
  g_answer_of : mg "answer_of" = some (.ref d.f_answer_of)
  g_answers : mg "answers" = some (.ref d.f_answers)
structure TxtK (K : PySem.W.Frag) (d : Ad) : Prop where
  t_BLANKS : ∀ H : Hp, SqT K H d.k_BLANKS [.int 9, .int 10, .int 32]
  t_WORDS : ∀ H : Hp, SqT K H d.k_WORDS [.str "columns", .str "row", .str "ask", .str "times"]
  t_NUMBERS : ∀ H : Hp, SqT K H d.k_NUMBERS [.int 0, .int 0, .int 0, .int 1, .int 1, .int 1, .int 2, .int 2, .int 2]
  t_ROWS : ∀ H : Hp, SqT K H d.k_ROWS [.int 1, .int 1, .int 1, .int 0, .int 0, .int 1, .int 0, .int 0, .int 0]
structure TxtC (K : PySem.W.Frag) (d : Ad) : Prop where
  cl_Choice : Cls K d.cChoice
  mk_Choice : Mk K d.cChoice d.f_Choice_init
  n_Choice_table : NoAttr K d.cChoice "table"
  n_Choice_candidates : NoAttr K d.cChoice "candidates"
  n_Choice_sizes : NoAttr K d.cChoice "sizes"
  n_Choice_days : NoAttr K d.cChoice "days"
  me_Choice_put_candidates : Meth K d.cChoice "put_candidates" d.f_Choice_put_candidates
  me_Choice_put_days : Meth K d.cChoice "put_days" d.f_Choice_put_days
  me_Choice_count_sets : Meth K d.cChoice "count_sets" d.f_Choice_count_sets
  me_Choice_room : Meth K d.cChoice "room" d.f_Choice_room
  me_Choice_fitting : Meth K d.cChoice "fitting" d.f_Choice_fitting
  me_Choice_cost : Meth K d.cChoice "cost" d.f_Choice_cost
  me_Choice_going : Meth K d.cChoice "going" d.f_Choice_going
  me_Choice_day_cost : Meth K d.cChoice "day_cost" d.f_Choice_day_cost
  me_Choice_plan_cost : Meth K d.cChoice "plan_cost" d.f_Choice_plan_cost
  me_Choice_rests : Meth K d.cChoice "rests" d.f_Choice_rests
  me_Choice_best : Meth K d.cChoice "best" d.f_Choice_best
  me_Choice_same_always : Meth K d.cChoice "same_always" d.f_Choice_same_always
  cl_Line : Cls K d.cLine
  mk_Line : Mk K d.cLine d.f_Line_init
  n_Line_number : NoAttr K d.cLine "number"
  n_Line_begin : NoAttr K d.cLine "begin"
  n_Line_slope : NoAttr K d.cLine "slope"
  me_Line_key_at : Meth K d.cLine "key_at" d.f_Line_key_at
  cl_Token : Cls K d.cToken
  mk_Token : Mk K d.cToken d.f_Token_init
  n_Token_sort_told : NoAttr K d.cToken "sort_told"
  n_Token_text : NoAttr K d.cToken "text"
  n_Token_number : NoAttr K d.cToken "number"
  n_Token_place : NoAttr K d.cToken "place"
  cl_Question : Cls K d.cQuestion
  mk_Question : Mk K d.cQuestion d.f_Question_init
  n_Question_grouping : NoAttr K d.cQuestion "grouping"
  n_Question_often : NoAttr K d.cQuestion "often"
  cl_Table : Cls K d.cTable
  mk_Table : Mk K d.cTable d.f_Table_init
  n_Table_columns : NoAttr K d.cTable "columns"
  n_Table_rows : NoAttr K d.cTable "rows"
  n_Table_questions : NoAttr K d.cTable "questions"
  me_Table_size : Meth K d.cTable "size" d.f_Table_size
  cl_Reader : Cls K d.cReader
  mk_Reader : Mk K d.cReader d.f_Reader_init
  n_Reader_tokens : NoAttr K d.cReader "tokens"
  n_Reader_at : NoAttr K d.cReader "at"
  n_Reader_table : NoAttr K d.cReader "table"
  me_Reader_here : Meth K d.cReader "here" d.f_Reader_here
  me_Reader_fail_if : Meth K d.cReader "fail_if" d.f_Reader_fail_if
  me_Reader_is_next : Meth K d.cReader "is_next" d.f_Reader_is_next
  me_Reader_look_for : Meth K d.cReader "look_for" d.f_Reader_look_for
  me_Reader_want : Meth K d.cReader "want" d.f_Reader_want
  me_Reader_read_number : Meth K d.cReader "read_number" d.f_Reader_read_number
  me_Reader_read_column : Meth K d.cReader "read_column" d.f_Reader_read_column
  me_Reader_read_columns : Meth K d.cReader "read_columns" d.f_Reader_read_columns
  me_Reader_read_row : Meth K d.cReader "read_row" d.f_Reader_read_row
  me_Reader_read_name : Meth K d.cReader "read_name" d.f_Reader_read_name
  me_Reader_read_question : Meth K d.cReader "read_question" d.f_Reader_read_question
  me_Reader_read : Meth K d.cReader "read" d.f_Reader_read
  cl_Desk : Cls K d.cDesk
  mk_Desk : Mk K d.cDesk d.f_Desk_init
  n_Desk_held : NoAttr K d.cDesk "held"
  me_Desk_load : Meth K d.cDesk "load" d.f_Desk_load
  me_Desk_look_at_room : Meth K d.cDesk "look_at_room" d.f_Desk_look_at_room
  me_Desk_look_at_set : Meth K d.cDesk "look_at_set" d.f_Desk_look_at_set
  me_Desk_cands : Meth K d.cDesk "cands" d.f_Desk_cands
  me_Desk_put_days : Meth K d.cDesk "put_days" d.f_Desk_put_days
  me_Desk_best : Meth K d.cDesk "best" d.f_Desk_best
  me_Desk_always : Meth K d.cDesk "always" d.f_Desk_always
  me_Desk_check : Meth K d.cDesk "check" d.f_Desk_check
  me_Desk_day : Meth K d.cDesk "day" d.f_Desk_day
  me_Desk_go : Meth K d.cDesk "go" d.f_Desk_go
  me_Desk_ends : Meth K d.cDesk "ends" d.f_Desk_ends
  cl_CallReader : Cls K d.cCallReader
  mk_CallReader : Mk K d.cCallReader d.f_CallReader_init
  n_CallReader_calls : NoAttr K d.cCallReader "calls"
  n_CallReader_at : NoAttr K d.cCallReader "at"
  me_CallReader_is_done : Meth K d.cCallReader "is_done" d.f_CallReader_is_done
  me_CallReader_next_some : Meth K d.cCallReader "next_some" d.f_CallReader_next_some
structure TxtE (K : PySem.W.Frag) (d : Ad) : Prop where
  ox_Fault : OexC K d.cFault
  in_Fault : PySem.W.findIn K (.ref d.cFault) "__init__" = some (some (.ref d.f_Fault_init))
  ti_Fault : PySem.W.typeIn K (.ref d.f_Fault_init) = some (.type "function")
  xf_Fault : XfC K d.cFault
  ex_Fault : PySem.W.exmOne K (.ref d.cFault) (.ref d.cFault) = some true
  n_Fault_kind : PySem.W.findIn K (.ref d.cFault) "kind" = some none
  n_Fault_place : PySem.W.findIn K (.ref d.cFault) "place" = some none
  ox_Refused : OexC K d.cRefused
  in_Refused : PySem.W.findIn K (.ref d.cRefused) "__init__" = some (some (.ref d.f_Refused_init))
  ti_Refused : PySem.W.typeIn K (.ref d.f_Refused_init) = some (.type "function")
  xf_Refused : XfC K d.cRefused
  ex_Refused : PySem.W.exmOne K (.ref d.cRefused) (.ref d.cRefused) = some true
  n_Refused_why : PySem.W.findIn K (.ref d.cRefused) "why" = some none
structure TxtF (K : PySem.W.Frag) (d : Ad) : Prop where
  F_Choice_init : Fun K "__init__" "Choice.__init__" s_Choice_init d.f_Choice_init d.fd_Choice_init
  F_Choice_put_candidates : Fun K "put_candidates" "Choice.put_candidates" s_Choice_put_candidates d.f_Choice_put_candidates d.fd_Choice_put_candidates
  F_Choice_put_days : Fun K "put_days" "Choice.put_days" s_Choice_put_days d.f_Choice_put_days d.fd_Choice_put_days
  F_Choice_count_sets : Fun K "count_sets" "Choice.count_sets" s_Choice_count_sets d.f_Choice_count_sets d.fd_Choice_count_sets
  F_Choice_room : Fun K "room" "Choice.room" s_Choice_room d.f_Choice_room d.fd_Choice_room
  F_Choice_fitting : Fun K "fitting" "Choice.fitting" s_Choice_fitting d.f_Choice_fitting d.fd_Choice_fitting
  F_Choice_cost : Fun K "cost" "Choice.cost" s_Choice_cost d.f_Choice_cost d.fd_Choice_cost
  F_Choice_going : Fun K "going" "Choice.going" s_Choice_going d.f_Choice_going d.fd_Choice_going
  F_Choice_day_cost : Fun K "day_cost" "Choice.day_cost" s_Choice_day_cost d.f_Choice_day_cost d.fd_Choice_day_cost
  F_Choice_plan_cost : Fun K "plan_cost" "Choice.plan_cost" s_Choice_plan_cost d.f_Choice_plan_cost d.fd_Choice_plan_cost
  F_Choice_rests : Fun K "rests" "Choice.rests" s_Choice_rests d.f_Choice_rests d.fd_Choice_rests
  F_Choice_best : Fun K "best" "Choice.best" s_Choice_best d.f_Choice_best d.fd_Choice_best
  F_Choice_same_always : Fun K "same_always" "Choice.same_always" s_Choice_same_always d.f_Choice_same_always d.fd_Choice_same_always
  F_greatest_divisor : Fun K "greatest_divisor" "greatest_divisor" s_greatest_divisor d.f_greatest_divisor d.fd_greatest_divisor
  F_fraction : Fun K "fraction" "fraction" s_fraction d.f_fraction d.fd_fraction
  F_Line_init : Fun K "__init__" "Line.__init__" s_Line_init d.f_Line_init d.fd_Line_init
  F_Line_key_at : Fun K "key_at" "Line.key_at" s_Line_key_at d.f_Line_key_at d.fd_Line_key_at
  F_lines_of : Fun K "lines_of" "lines_of" s_lines_of d.f_lines_of d.fd_lines_of
  F_meeting : Fun K "meeting" "meeting" s_meeting d.f_meeting d.fd_meeting
  F_is_less : Fun K "is_less" "is_less" s_is_less d.f_is_less d.fd_is_less
  F_piece_end : Fun K "piece_end" "piece_end" s_piece_end d.f_piece_end d.fd_piece_end
  F_pieces_of : Fun K "pieces_of" "pieces_of" s_pieces_of d.f_pieces_of d.fd_pieces_of
  F_Fault_init : Fun K "__init__" "Fault.__init__" s_Fault_init d.f_Fault_init d.fd_Fault_init
  F_Token_init : Fun K "__init__" "Token.__init__" s_Token_init d.f_Token_init d.fd_Token_init
  F_is_letter : Fun K "is_letter" "is_letter" s_is_letter d.f_is_letter d.fd_is_letter
  F_is_digit : Fun K "is_digit" "is_digit" s_is_digit d.f_is_digit d.fd_is_digit
  F_text_of : Fun K "text_of" "text_of" s_text_of d.f_text_of d.fd_text_of
  F_word_token : Fun K "word_token" "word_token" s_word_token d.f_word_token d.fd_word_token
  F_number_token : Fun K "number_token" "number_token" s_number_token d.f_number_token d.fd_number_token
  F_sign_token : Fun K "sign_token" "sign_token" s_sign_token d.f_sign_token d.fd_sign_token
  F_remark_end : Fun K "remark_end" "remark_end" s_remark_end d.f_remark_end d.fd_remark_end
  F_word_end : Fun K "word_end" "word_end" s_word_end d.f_word_end d.fd_word_end
  F_number_end : Fun K "number_end" "number_end" s_number_end d.f_number_end d.fd_number_end
  F_tokens_of : Fun K "tokens_of" "tokens_of" s_tokens_of d.f_tokens_of d.fd_tokens_of
  F_Question_init : Fun K "__init__" "Question.__init__" s_Question_init d.f_Question_init d.fd_Question_init
  F_Table_init : Fun K "__init__" "Table.__init__" s_Table_init d.f_Table_init d.fd_Table_init
  F_Table_size : Fun K "size" "Table.size" s_Table_size d.f_Table_size d.fd_Table_size
  F_Reader_init : Fun K "__init__" "Reader.__init__" s_Reader_init d.f_Reader_init d.fd_Reader_init
  F_Reader_here : Fun K "here" "Reader.here" s_Reader_here d.f_Reader_here d.fd_Reader_here
  F_Reader_fail_if : Fun K "fail_if" "Reader.fail_if" s_Reader_fail_if d.f_Reader_fail_if d.fd_Reader_fail_if
  F_Reader_is_next : Fun K "is_next" "Reader.is_next" s_Reader_is_next d.f_Reader_is_next d.fd_Reader_is_next
  F_Reader_look_for : Fun K "look_for" "Reader.look_for" s_Reader_look_for d.f_Reader_look_for d.fd_Reader_look_for
  F_Reader_want : Fun K "want" "Reader.want" s_Reader_want d.f_Reader_want d.fd_Reader_want
  F_Reader_read_number : Fun K "read_number" "Reader.read_number" s_Reader_read_number d.f_Reader_read_number d.fd_Reader_read_number
  F_Reader_read_column : Fun K "read_column" "Reader.read_column" s_Reader_read_column d.f_Reader_read_column d.fd_Reader_read_column
  F_Reader_read_columns : Fun K "read_columns" "Reader.read_columns" s_Reader_read_columns d.f_Reader_read_columns d.fd_Reader_read_columns
  F_Reader_read_row : Fun K "read_row" "Reader.read_row" s_Reader_read_row d.f_Reader_read_row d.fd_Reader_read_row
  F_Reader_read_name : Fun K "read_name" "Reader.read_name" s_Reader_read_name d.f_Reader_read_name d.fd_Reader_read_name
  F_Reader_read_question : Fun K "read_question" "Reader.read_question" s_Reader_read_question d.f_Reader_read_question d.fd_Reader_read_question
  F_Reader_read : Fun K "read" "Reader.read" s_Reader_read d.f_Reader_read d.fd_Reader_read
  F_table_of : Fun K "table_of" "table_of" s_table_of d.f_table_of d.fd_table_of
  F_Refused_init : Fun K "__init__" "Refused.__init__" s_Refused_init d.f_Refused_init d.fd_Refused_init
  F_refuse_if : Fun K "refuse_if" "refuse_if" s_refuse_if d.f_refuse_if d.fd_refuse_if
  F_Desk_init : Fun K "__init__" "Desk.__init__" s_Desk_init d.f_Desk_init d.fd_Desk_init
  F_Desk_load : Fun K "load" "Desk.load" s_Desk_load d.f_Desk_load d.fd_Desk_load
  F_Desk_look_at_room : Fun K "look_at_room" "Desk.look_at_room" s_Desk_look_at_room d.f_Desk_look_at_room d.fd_Desk_look_at_room
  F_Desk_look_at_set : Fun K "look_at_set" "Desk.look_at_set" s_Desk_look_at_set d.f_Desk_look_at_set d.fd_Desk_look_at_set
  F_Desk_cands : Fun K "cands" "Desk.cands" s_Desk_cands d.f_Desk_cands d.fd_Desk_cands
  F_Desk_put_days : Fun K "put_days" "Desk.put_days" s_Desk_put_days d.f_Desk_put_days d.fd_Desk_put_days
  F_Desk_best : Fun K "best" "Desk.best" s_Desk_best d.f_Desk_best d.fd_Desk_best
  F_Desk_always : Fun K "always" "Desk.always" s_Desk_always d.f_Desk_always d.fd_Desk_always
  F_Desk_check : Fun K "check" "Desk.check" s_Desk_check d.f_Desk_check d.fd_Desk_check
  F_Desk_day : Fun K "day" "Desk.day" s_Desk_day d.f_Desk_day d.fd_Desk_day
  F_Desk_go : Fun K "go" "Desk.go" s_Desk_go d.f_Desk_go d.fd_Desk_go
  F_Desk_ends : Fun K "ends" "Desk.ends" s_Desk_ends d.f_Desk_ends d.fd_Desk_ends
  F_call_told : Fun K "call_told" "call_told" s_call_told d.f_call_told d.fd_call_told
  F_answer_of : Fun K "answer_of" "answer_of" s_answer_of d.f_answer_of d.fd_answer_of
  F_CallReader_init : Fun K "__init__" "CallReader.__init__" s_CallReader_init d.f_CallReader_init d.fd_CallReader_init
  F_CallReader_is_done : Fun K "is_done" "CallReader.is_done" s_CallReader_is_done d.f_CallReader_is_done d.fd_CallReader_is_done
  F_CallReader_next_some : Fun K "next_some" "CallReader.next_some" s_CallReader_next_some d.f_CallReader_next_some d.fd_CallReader_next_some
  F_answers : Fun K "answers" "answers" s_answers d.f_answers d.fd_answers
structure Txt (K : PySem.W.Frag) (mg : Str → Option Value) (d : Ad) : Prop where
  G : TxtG K mg d
  KT : TxtK K d
  C : TxtC K d
  E : TxtE K d
  F : TxtF K d
section
variable {K : PySem.W.Frag} {mg : Str → Option Value} {d : Ad}
theorem bd_Choice_init (T : Txt K mg d) : Binds K d.fd_Choice_init P_Choice_init [] := T.F.F_Choice_init.binds (ps := P_Choice_init) fun _ _ _ _ _ _ us hl => match us, hl with | [_, _], _ => rfl
theorem bd_Choice_put_candidates (T : Txt K mg d) : Binds K d.fd_Choice_put_candidates P_Choice_put_candidates [] := T.F.F_Choice_put_candidates.binds (ps := P_Choice_put_candidates) fun _ _ _ _ _ _ us hl => match us, hl with | [_, _], _ => rfl
theorem bd_Choice_put_days (T : Txt K mg d) : Binds K d.fd_Choice_put_days P_Choice_put_days [] := T.F.F_Choice_put_days.binds (ps := P_Choice_put_days) fun _ _ _ _ _ _ us hl => match us, hl with | [_, _], _ => rfl
theorem bd_Choice_count_sets (T : Txt K mg d) : Binds K d.fd_Choice_count_sets P_Choice_count_sets [] := T.F.F_Choice_count_sets.binds (ps := P_Choice_count_sets) fun _ _ _ _ _ _ us hl => match us, hl with | [_], _ => rfl
theorem bd_Choice_room (T : Txt K mg d) : Binds K d.fd_Choice_room P_Choice_room [] := T.F.F_Choice_room.binds (ps := P_Choice_room) fun _ _ _ _ _ _ us hl => match us, hl with | [_, _], _ => rfl
theorem bd_Choice_fitting (T : Txt K mg d) : Binds K d.fd_Choice_fitting P_Choice_fitting [] := T.F.F_Choice_fitting.binds (ps := P_Choice_fitting) fun _ _ _ _ _ _ us hl => match us, hl with | [_, _], _ => rfl
theorem bd_Choice_cost (T : Txt K mg d) : Binds K d.fd_Choice_cost P_Choice_cost [] := T.F.F_Choice_cost.binds (ps := P_Choice_cost) fun _ _ _ _ _ _ us hl => match us, hl with | [_, _, _], _ => rfl
theorem bd_Choice_going (T : Txt K mg d) : Binds K d.fd_Choice_going P_Choice_going [] := T.F.F_Choice_going.binds (ps := P_Choice_going) fun _ _ _ _ _ _ us hl => match us, hl with | [_, _, _], _ => rfl
theorem bd_Choice_day_cost (T : Txt K mg d) : Binds K d.fd_Choice_day_cost P_Choice_day_cost [] := T.F.F_Choice_day_cost.binds (ps := P_Choice_day_cost) fun _ _ _ _ _ _ us hl => match us, hl with | [_, _, _], _ => rfl
theorem bd_Choice_plan_cost (T : Txt K mg d) : Binds K d.fd_Choice_plan_cost P_Choice_plan_cost [] := T.F.F_Choice_plan_cost.binds (ps := P_Choice_plan_cost) fun _ _ _ _ _ _ us hl => match us, hl with | [_, _], _ => rfl
theorem bd_Choice_rests (T : Txt K mg d) : Binds K d.fd_Choice_rests P_Choice_rests [] := T.F.F_Choice_rests.binds (ps := P_Choice_rests) fun _ _ _ _ _ _ us hl => match us, hl with | [_, _], _ => rfl
theorem bd_Choice_best (T : Txt K mg d) : Binds K d.fd_Choice_best P_Choice_best [] := T.F.F_Choice_best.binds (ps := P_Choice_best) fun _ _ _ _ _ _ us hl => match us, hl with | [_, _], _ => rfl
theorem bd_Choice_same_always (T : Txt K mg d) : Binds K d.fd_Choice_same_always P_Choice_same_always [] := T.F.F_Choice_same_always.binds (ps := P_Choice_same_always) fun _ _ _ _ _ _ us hl => match us, hl with | [_, _], _ => rfl
theorem bd_greatest_divisor (T : Txt K mg d) : Binds K d.fd_greatest_divisor P_greatest_divisor [] := T.F.F_greatest_divisor.binds (ps := P_greatest_divisor) fun _ _ _ _ _ _ us hl => match us, hl with | [_, _], _ => rfl
theorem bd_fraction (T : Txt K mg d) : Binds K d.fd_fraction P_fraction [] := T.F.F_fraction.binds (ps := P_fraction) fun _ _ _ _ _ _ us hl => match us, hl with | [_, _], _ => rfl
theorem bd_Line_init (T : Txt K mg d) : Binds K d.fd_Line_init P_Line_init [] := T.F.F_Line_init.binds (ps := P_Line_init) fun _ _ _ _ _ _ us hl => match us, hl with | [_, _, _, _], _ => rfl
theorem bd_Line_key_at (T : Txt K mg d) : Binds K d.fd_Line_key_at P_Line_key_at [] := T.F.F_Line_key_at.binds (ps := P_Line_key_at) fun _ _ _ _ _ _ us hl => match us, hl with | [_, _], _ => rfl
theorem bd_lines_of (T : Txt K mg d) : Binds K d.fd_lines_of P_lines_of [] := T.F.F_lines_of.binds (ps := P_lines_of) fun _ _ _ _ _ _ us hl => match us, hl with | [_, _, _], _ => rfl
theorem bd_meeting (T : Txt K mg d) : Binds K d.fd_meeting P_meeting [] := T.F.F_meeting.binds (ps := P_meeting) fun _ _ _ _ _ _ us hl => match us, hl with | [_, _], _ => rfl
theorem bd_is_less (T : Txt K mg d) : Binds K d.fd_is_less P_is_less [] := T.F.F_is_less.binds (ps := P_is_less) fun _ _ _ _ _ _ us hl => match us, hl with | [_, _], _ => rfl
theorem bd_piece_end (T : Txt K mg d) : Binds K d.fd_piece_end P_piece_end [] := T.F.F_piece_end.binds (ps := P_piece_end) fun _ _ _ _ _ _ us hl => match us, hl with | [_, _], _ => rfl
theorem bd_pieces_of (T : Txt K mg d) : Binds K d.fd_pieces_of P_pieces_of [] := T.F.F_pieces_of.binds (ps := P_pieces_of) fun _ _ _ _ _ _ us hl => match us, hl with | [_], _ => rfl
theorem bd_Fault_init (T : Txt K mg d) : Binds K d.fd_Fault_init P_Fault_init [] := T.F.F_Fault_init.binds (ps := P_Fault_init) fun _ _ _ _ _ _ us hl => match us, hl with | [_, _, _], _ => rfl
theorem bd_Token_init (T : Txt K mg d) : Binds K d.fd_Token_init P_Token_init [] := T.F.F_Token_init.binds (ps := P_Token_init) fun _ _ _ _ _ _ us hl => match us, hl with | [_, _, _, _, _], _ => rfl
theorem bd_is_letter (T : Txt K mg d) : Binds K d.fd_is_letter P_is_letter [] := T.F.F_is_letter.binds (ps := P_is_letter) fun _ _ _ _ _ _ us hl => match us, hl with | [_], _ => rfl
theorem bd_is_digit (T : Txt K mg d) : Binds K d.fd_is_digit P_is_digit [] := T.F.F_is_digit.binds (ps := P_is_digit) fun _ _ _ _ _ _ us hl => match us, hl with | [_], _ => rfl
theorem bd_text_of (T : Txt K mg d) : Binds K d.fd_text_of P_text_of [] := T.F.F_text_of.binds (ps := P_text_of) fun _ _ _ _ _ _ us hl => match us, hl with | [_], _ => rfl
theorem bd_word_token (T : Txt K mg d) : Binds K d.fd_word_token P_word_token [] := T.F.F_word_token.binds (ps := P_word_token) fun _ _ _ _ _ _ us hl => match us, hl with | [_, _], _ => rfl
theorem bd_number_token (T : Txt K mg d) : Binds K d.fd_number_token P_number_token [] := T.F.F_number_token.binds (ps := P_number_token) fun _ _ _ _ _ _ us hl => match us, hl with | [_, _], _ => rfl
theorem bd_sign_token (T : Txt K mg d) : Binds K d.fd_sign_token P_sign_token [] := T.F.F_sign_token.binds (ps := P_sign_token) fun _ _ _ _ _ _ us hl => match us, hl with | [_, _], _ => rfl
theorem bd_remark_end (T : Txt K mg d) : Binds K d.fd_remark_end P_remark_end [] := T.F.F_remark_end.binds (ps := P_remark_end) fun _ _ _ _ _ _ us hl => match us, hl with | [_, _], _ => rfl
theorem bd_word_end (T : Txt K mg d) : Binds K d.fd_word_end P_word_end [] := T.F.F_word_end.binds (ps := P_word_end) fun _ _ _ _ _ _ us hl => match us, hl with | [_, _], _ => rfl
theorem bd_number_end (T : Txt K mg d) : Binds K d.fd_number_end P_number_end [] := T.F.F_number_end.binds (ps := P_number_end) fun _ _ _ _ _ _ us hl => match us, hl with | [_, _], _ => rfl
theorem bd_tokens_of (T : Txt K mg d) : Binds K d.fd_tokens_of P_tokens_of [] := T.F.F_tokens_of.binds (ps := P_tokens_of) fun _ _ _ _ _ _ us hl => match us, hl with | [_], _ => rfl
theorem bd_Question_init (T : Txt K mg d) : Binds K d.fd_Question_init P_Question_init [] := T.F.F_Question_init.binds (ps := P_Question_init) fun _ _ _ _ _ _ us hl => match us, hl with | [_, _, _], _ => rfl
theorem bd_Table_init (T : Txt K mg d) : Binds K d.fd_Table_init P_Table_init [] := T.F.F_Table_init.binds (ps := P_Table_init) fun _ _ _ _ _ _ us hl => match us, hl with | [_], _ => rfl
theorem bd_Table_size (T : Txt K mg d) : Binds K d.fd_Table_size P_Table_size [] := T.F.F_Table_size.binds (ps := P_Table_size) fun _ _ _ _ _ _ us hl => match us, hl with | [_, _], _ => rfl
theorem bd_Reader_init (T : Txt K mg d) : Binds K d.fd_Reader_init P_Reader_init [] := T.F.F_Reader_init.binds (ps := P_Reader_init) fun _ _ _ _ _ _ us hl => match us, hl with | [_, _], _ => rfl
theorem bd_Reader_here (T : Txt K mg d) : Binds K d.fd_Reader_here P_Reader_here [] := T.F.F_Reader_here.binds (ps := P_Reader_here) fun _ _ _ _ _ _ us hl => match us, hl with | [_], _ => rfl
theorem bd_Reader_fail_if (T : Txt K mg d) : Binds K d.fd_Reader_fail_if P_Reader_fail_if [] := T.F.F_Reader_fail_if.binds (ps := P_Reader_fail_if) fun _ _ _ _ _ _ us hl => match us, hl with | [_, _, _], _ => rfl
theorem bd_Reader_is_next (T : Txt K mg d) : Binds K d.fd_Reader_is_next P_Reader_is_next [] := T.F.F_Reader_is_next.binds (ps := P_Reader_is_next) fun _ _ _ _ _ _ us hl => match us, hl with | [_, _, _], _ => rfl
theorem bd_Reader_look_for (T : Txt K mg d) : Binds K d.fd_Reader_look_for P_Reader_look_for [] := T.F.F_Reader_look_for.binds (ps := P_Reader_look_for) fun _ _ _ _ _ _ us hl => match us, hl with | [_, _, _], _ => rfl
theorem bd_Reader_want (T : Txt K mg d) : Binds K d.fd_Reader_want P_Reader_want [] := T.F.F_Reader_want.binds (ps := P_Reader_want) fun _ _ _ _ _ _ us hl => match us, hl with | [_, _, _], _ => rfl
theorem bd_Reader_read_number (T : Txt K mg d) : Binds K d.fd_Reader_read_number P_Reader_read_number [] := T.F.F_Reader_read_number.binds (ps := P_Reader_read_number) fun _ _ _ _ _ _ us hl => match us, hl with | [_, _, _], _ => rfl
theorem bd_Reader_read_column (T : Txt K mg d) : Binds K d.fd_Reader_read_column P_Reader_read_column [] := T.F.F_Reader_read_column.binds (ps := P_Reader_read_column) fun _ _ _ _ _ _ us hl => match us, hl with | [_], _ => rfl
theorem bd_Reader_read_columns (T : Txt K mg d) : Binds K d.fd_Reader_read_columns P_Reader_read_columns [] := T.F.F_Reader_read_columns.binds (ps := P_Reader_read_columns) fun _ _ _ _ _ _ us hl => match us, hl with | [_], _ => rfl
theorem bd_Reader_read_row (T : Txt K mg d) : Binds K d.fd_Reader_read_row P_Reader_read_row [] := T.F.F_Reader_read_row.binds (ps := P_Reader_read_row) fun _ _ _ _ _ _ us hl => match us, hl with | [_], _ => rfl
theorem bd_Reader_read_name (T : Txt K mg d) : Binds K d.fd_Reader_read_name P_Reader_read_name [] := T.F.F_Reader_read_name.binds (ps := P_Reader_read_name) fun _ _ _ _ _ _ us hl => match us, hl with | [_, _], _ => rfl
theorem bd_Reader_read_question (T : Txt K mg d) : Binds K d.fd_Reader_read_question P_Reader_read_question [] := T.F.F_Reader_read_question.binds (ps := P_Reader_read_question) fun _ _ _ _ _ _ us hl => match us, hl with | [_], _ => rfl
theorem bd_Reader_read (T : Txt K mg d) : Binds K d.fd_Reader_read P_Reader_read [] := T.F.F_Reader_read.binds (ps := P_Reader_read) fun _ _ _ _ _ _ us hl => match us, hl with | [_], _ => rfl
theorem bd_table_of (T : Txt K mg d) : Binds K d.fd_table_of P_table_of [] := T.F.F_table_of.binds (ps := P_table_of) fun _ _ _ _ _ _ us hl => match us, hl with | [_], _ => rfl
theorem bd_Refused_init (T : Txt K mg d) : Binds K d.fd_Refused_init P_Refused_init [] := T.F.F_Refused_init.binds (ps := P_Refused_init) fun _ _ _ _ _ _ us hl => match us, hl with | [_, _], _ => rfl
theorem bd_refuse_if (T : Txt K mg d) : Binds K d.fd_refuse_if P_refuse_if [] := T.F.F_refuse_if.binds (ps := P_refuse_if) fun _ _ _ _ _ _ us hl => match us, hl with | [_, _], _ => rfl
theorem bd_Desk_init (T : Txt K mg d) : Binds K d.fd_Desk_init P_Desk_init [] := T.F.F_Desk_init.binds (ps := P_Desk_init) fun _ _ _ _ _ _ us hl => match us, hl with | [_], _ => rfl
theorem bd_Desk_load (T : Txt K mg d) : Binds K d.fd_Desk_load P_Desk_load [] := T.F.F_Desk_load.binds (ps := P_Desk_load) fun _ _ _ _ _ _ us hl => match us, hl with | [_, _], _ => rfl
theorem bd_Desk_look_at_room (T : Txt K mg d) : Binds K d.fd_Desk_look_at_room P_Desk_look_at_room [] := T.F.F_Desk_look_at_room.binds (ps := P_Desk_look_at_room) fun _ _ _ _ _ _ us hl => match us, hl with | [_, _], _ => rfl
theorem bd_Desk_look_at_set (T : Txt K mg d) : Binds K d.fd_Desk_look_at_set P_Desk_look_at_set [] := T.F.F_Desk_look_at_set.binds (ps := P_Desk_look_at_set) fun _ _ _ _ _ _ us hl => match us, hl with | [_, _], _ => rfl
theorem bd_Desk_cands (T : Txt K mg d) : Binds K d.fd_Desk_cands P_Desk_cands [] := T.F.F_Desk_cands.binds (ps := P_Desk_cands) fun _ _ _ _ _ _ us hl => match us, hl with | [_, _], _ => rfl
theorem bd_Desk_put_days (T : Txt K mg d) : Binds K d.fd_Desk_put_days P_Desk_put_days [] := T.F.F_Desk_put_days.binds (ps := P_Desk_put_days) fun _ _ _ _ _ _ us hl => match us, hl with | [_, _], _ => rfl
theorem bd_Desk_best (T : Txt K mg d) : Binds K d.fd_Desk_best P_Desk_best [] := T.F.F_Desk_best.binds (ps := P_Desk_best) fun _ _ _ _ _ _ us hl => match us, hl with | [_, _], _ => rfl
theorem bd_Desk_always (T : Txt K mg d) : Binds K d.fd_Desk_always P_Desk_always [] := T.F.F_Desk_always.binds (ps := P_Desk_always) fun _ _ _ _ _ _ us hl => match us, hl with | [_, _], _ => rfl
theorem bd_Desk_check (T : Txt K mg d) : Binds K d.fd_Desk_check P_Desk_check [] := T.F.F_Desk_check.binds (ps := P_Desk_check) fun _ _ _ _ _ _ us hl => match us, hl with | [_, _, _], _ => rfl
theorem bd_Desk_day (T : Txt K mg d) : Binds K d.fd_Desk_day P_Desk_day [] := T.F.F_Desk_day.binds (ps := P_Desk_day) fun _ _ _ _ _ _ us hl => match us, hl with | [_, _, _], _ => rfl
theorem bd_Desk_go (T : Txt K mg d) : Binds K d.fd_Desk_go P_Desk_go [] := T.F.F_Desk_go.binds (ps := P_Desk_go) fun _ _ _ _ _ _ us hl => match us, hl with | [_, _, _], _ => rfl
theorem bd_Desk_ends (T : Txt K mg d) : Binds K d.fd_Desk_ends P_Desk_ends [] := T.F.F_Desk_ends.binds (ps := P_Desk_ends) fun _ _ _ _ _ _ us hl => match us, hl with | [_, _, _], _ => rfl
theorem bd_call_told (T : Txt K mg d) : Binds K d.fd_call_told P_call_told [] := T.F.F_call_told.binds (ps := P_call_told) fun _ _ _ _ _ _ us hl => match us, hl with | [_, _, _, _], _ => rfl
theorem bd_answer_of (T : Txt K mg d) : Binds K d.fd_answer_of P_answer_of [] := T.F.F_answer_of.binds (ps := P_answer_of) fun _ _ _ _ _ _ us hl => match us, hl with | [_, _, _, _], _ => rfl
theorem bd_CallReader_init (T : Txt K mg d) : Binds K d.fd_CallReader_init P_CallReader_init [] := T.F.F_CallReader_init.binds (ps := P_CallReader_init) fun _ _ _ _ _ _ us hl => match us, hl with | [_, _], _ => rfl
theorem bd_CallReader_is_done (T : Txt K mg d) : Binds K d.fd_CallReader_is_done P_CallReader_is_done [] := T.F.F_CallReader_is_done.binds (ps := P_CallReader_is_done) fun _ _ _ _ _ _ us hl => match us, hl with | [_], _ => rfl
theorem bd_CallReader_next_some (T : Txt K mg d) : Binds K d.fd_CallReader_next_some P_CallReader_next_some [] := T.F.F_CallReader_next_some.binds (ps := P_CallReader_next_some) fun _ _ _ _ _ _ us hl => match us, hl with | [_, _], _ => rfl
theorem bd_answers (T : Txt K mg d) : Binds K d.fd_answers P_answers [] := T.F.F_answers.binds (ps := P_answers) fun _ _ _ _ _ _ us hl => match us, hl with | [_], _ => rfl
end
theorem lk_here {k : Str} {v : V} {r : List (Str × V)} : List.lookup k ((k, v) :: r) = some v := by
  have e : (k == k) = true := beq_self_eq_true k
  simp only [List.lookup, e]
theorem lk_past {k g : Str} {v : V} {r : List (Str × V)} (h : (k == g) = false) : List.lookup k ((g, v) :: r) = List.lookup k r := by
  simp only [List.lookup, h]
theorem put_here {f : Str} {v x : V} {r : List (Str × V)} : putF f v ((f, x) :: r) = (f, v) :: r := if_pos rfl
theorem put_past {f g : Str} {v x : V} {r : List (Str × V)} (h : ¬ g = f) : putF f v ((g, x) :: r) = (g, x) :: putF f v r := if_neg h
def fl_Choice (v0 v1 v2 v3 : V) : List (Str × V) := [("table", v0), ("candidates", v1), ("sizes", v2), ("days", v3)]
theorem lk_Choice_table (v0 v1 v2 v3 : V) : (fl_Choice v0 v1 v2 v3).lookup ("table" : Str) = some v0 := lk_here
theorem pt_Choice_table (v0 v1 v2 v3 y : V) : putF "table" y (fl_Choice v0 v1 v2 v3) = fl_Choice y v1 v2 v3 := put_here
theorem lk_Choice_candidates (v0 v1 v2 v3 : V) : (fl_Choice v0 v1 v2 v3).lookup ("candidates" : Str) = some v1 := (lk_past (by decide +kernel)).trans (lk_here)
theorem pt_Choice_candidates (v0 v1 v2 v3 y : V) : putF "candidates" y (fl_Choice v0 v1 v2 v3) = fl_Choice v0 y v2 v3 := (put_past (by decide +kernel)).trans (congrArg _ (put_here))
theorem lk_Choice_sizes (v0 v1 v2 v3 : V) : (fl_Choice v0 v1 v2 v3).lookup ("sizes" : Str) = some v2 := (lk_past (by decide +kernel)).trans ((lk_past (by decide +kernel)).trans (lk_here))
theorem pt_Choice_sizes (v0 v1 v2 v3 y : V) : putF "sizes" y (fl_Choice v0 v1 v2 v3) = fl_Choice v0 v1 y v3 := (put_past (by decide +kernel)).trans (congrArg _ ((put_past (by decide +kernel)).trans (congrArg _ (put_here))))
theorem lk_Choice_days (v0 v1 v2 v3 : V) : (fl_Choice v0 v1 v2 v3).lookup ("days" : Str) = some v3 := (lk_past (by decide +kernel)).trans ((lk_past (by decide +kernel)).trans ((lk_past (by decide +kernel)).trans (lk_here)))
theorem pt_Choice_days (v0 v1 v2 v3 y : V) : putF "days" y (fl_Choice v0 v1 v2 v3) = fl_Choice v0 v1 v2 y := (put_past (by decide +kernel)).trans (congrArg _ ((put_past (by decide +kernel)).trans (congrArg _ ((put_past (by decide +kernel)).trans (congrArg _ (put_here))))))
theorem no_Choice_put_candidates (v0 v1 v2 v3 : V) : (fl_Choice v0 v1 v2 v3).lookup ("put_candidates" : Str) = none := (lk_past (by decide +kernel)).trans ((lk_past (by decide +kernel)).trans ((lk_past (by decide +kernel)).trans ((lk_past (by decide +kernel)).trans (rfl))))
theorem no_Choice_put_days (v0 v1 v2 v3 : V) : (fl_Choice v0 v1 v2 v3).lookup ("put_days" : Str) = none := (lk_past (by decide +kernel)).trans ((lk_past (by decide +kernel)).trans ((lk_past (by decide +kernel)).trans ((lk_past (by decide +kernel)).trans (rfl))))
theorem no_Choice_count_sets (v0 v1 v2 v3 : V) : (fl_Choice v0 v1 v2 v3).lookup ("count_sets" : Str) = none := (lk_past (by decide +kernel)).trans ((lk_past (by decide +kernel)).trans ((lk_past (by decide +kernel)).trans ((lk_past (by decide +kernel)).trans (rfl))))
theorem no_Choice_room (v0 v1 v2 v3 : V) : (fl_Choice v0 v1 v2 v3).lookup ("room" : Str) = none := (lk_past (by decide +kernel)).trans ((lk_past (by decide +kernel)).trans ((lk_past (by decide +kernel)).trans ((lk_past (by decide +kernel)).trans (rfl))))
theorem no_Choice_fitting (v0 v1 v2 v3 : V) : (fl_Choice v0 v1 v2 v3).lookup ("fitting" : Str) = none := (lk_past (by decide +kernel)).trans ((lk_past (by decide +kernel)).trans ((lk_past (by decide +kernel)).trans ((lk_past (by decide +kernel)).trans (rfl))))
theorem no_Choice_cost (v0 v1 v2 v3 : V) : (fl_Choice v0 v1 v2 v3).lookup ("cost" : Str) = none := (lk_past (by decide +kernel)).trans ((lk_past (by decide +kernel)).trans ((lk_past (by decide +kernel)).trans ((lk_past (by decide +kernel)).trans (rfl))))
theorem no_Choice_going (v0 v1 v2 v3 : V) : (fl_Choice v0 v1 v2 v3).lookup ("going" : Str) = none := (lk_past (by decide +kernel)).trans ((lk_past (by decide +kernel)).trans ((lk_past (by decide +kernel)).trans ((lk_past (by decide +kernel)).trans (rfl))))
theorem no_Choice_day_cost (v0 v1 v2 v3 : V) : (fl_Choice v0 v1 v2 v3).lookup ("day_cost" : Str) = none := (lk_past (by decide +kernel)).trans ((lk_past (by decide +kernel)).trans ((lk_past (by decide +kernel)).trans ((lk_past (by decide +kernel)).trans (rfl))))
theorem no_Choice_plan_cost (v0 v1 v2 v3 : V) : (fl_Choice v0 v1 v2 v3).lookup ("plan_cost" : Str) = none := (lk_past (by decide +kernel)).trans ((lk_past (by decide +kernel)).trans ((lk_past (by decide +kernel)).trans ((lk_past (by decide +kernel)).trans (rfl))))
theorem no_Choice_rests (v0 v1 v2 v3 : V) : (fl_Choice v0 v1 v2 v3).lookup ("rests" : Str) = none := (lk_past (by decide +kernel)).trans ((lk_past (by decide +kernel)).trans ((lk_past (by decide +kernel)).trans ((lk_past (by decide +kernel)).trans (rfl))))
theorem no_Choice_best (v0 v1 v2 v3 : V) : (fl_Choice v0 v1 v2 v3).lookup ("best" : Str) = none := (lk_past (by decide +kernel)).trans ((lk_past (by decide +kernel)).trans ((lk_past (by decide +kernel)).trans ((lk_past (by decide +kernel)).trans (rfl))))
theorem no_Choice_same_always (v0 v1 v2 v3 : V) : (fl_Choice v0 v1 v2 v3).lookup ("same_always" : Str) = none := (lk_past (by decide +kernel)).trans ((lk_past (by decide +kernel)).trans ((lk_past (by decide +kernel)).trans ((lk_past (by decide +kernel)).trans (rfl))))
theorem nw_Choice (v0 v1 v2 v3 : V) : putF "days" v3 (putF "sizes" v2 (putF "candidates" v1 (putF "table" v0 ([])))) = fl_Choice v0 v1 v2 v3 := by
  simp only [putF]
  repeat (first | rw [if_neg (by decide +kernel)] | rfl)
def fl_Line (v0 v1 v2 : V) : List (Str × V) := [("number", v0), ("begin", v1), ("slope", v2)]
theorem lk_Line_number (v0 v1 v2 : V) : (fl_Line v0 v1 v2).lookup ("number" : Str) = some v0 := lk_here
theorem pt_Line_number (v0 v1 v2 y : V) : putF "number" y (fl_Line v0 v1 v2) = fl_Line y v1 v2 := put_here
theorem lk_Line_begin (v0 v1 v2 : V) : (fl_Line v0 v1 v2).lookup ("begin" : Str) = some v1 := (lk_past (by decide +kernel)).trans (lk_here)
theorem pt_Line_begin (v0 v1 v2 y : V) : putF "begin" y (fl_Line v0 v1 v2) = fl_Line v0 y v2 := (put_past (by decide +kernel)).trans (congrArg _ (put_here))
theorem lk_Line_slope (v0 v1 v2 : V) : (fl_Line v0 v1 v2).lookup ("slope" : Str) = some v2 := (lk_past (by decide +kernel)).trans ((lk_past (by decide +kernel)).trans (lk_here))
theorem pt_Line_slope (v0 v1 v2 y : V) : putF "slope" y (fl_Line v0 v1 v2) = fl_Line v0 v1 y := (put_past (by decide +kernel)).trans (congrArg _ ((put_past (by decide +kernel)).trans (congrArg _ (put_here))))
theorem no_Line_key_at (v0 v1 v2 : V) : (fl_Line v0 v1 v2).lookup ("key_at" : Str) = none := (lk_past (by decide +kernel)).trans ((lk_past (by decide +kernel)).trans ((lk_past (by decide +kernel)).trans (rfl)))
theorem nw_Line (v0 v1 v2 : V) : putF "slope" v2 (putF "begin" v1 (putF "number" v0 ([]))) = fl_Line v0 v1 v2 := by
  simp only [putF]
  repeat (first | rw [if_neg (by decide +kernel)] | rfl)
def fl_Token (v0 v1 v2 v3 : V) : List (Str × V) := [("sort_told", v0), ("text", v1), ("number", v2), ("place", v3)]
theorem lk_Token_sort_told (v0 v1 v2 v3 : V) : (fl_Token v0 v1 v2 v3).lookup ("sort_told" : Str) = some v0 := lk_here
theorem pt_Token_sort_told (v0 v1 v2 v3 y : V) : putF "sort_told" y (fl_Token v0 v1 v2 v3) = fl_Token y v1 v2 v3 := put_here
theorem lk_Token_text (v0 v1 v2 v3 : V) : (fl_Token v0 v1 v2 v3).lookup ("text" : Str) = some v1 := (lk_past (by decide +kernel)).trans (lk_here)
theorem pt_Token_text (v0 v1 v2 v3 y : V) : putF "text" y (fl_Token v0 v1 v2 v3) = fl_Token v0 y v2 v3 := (put_past (by decide +kernel)).trans (congrArg _ (put_here))
theorem lk_Token_number (v0 v1 v2 v3 : V) : (fl_Token v0 v1 v2 v3).lookup ("number" : Str) = some v2 := (lk_past (by decide +kernel)).trans ((lk_past (by decide +kernel)).trans (lk_here))
theorem pt_Token_number (v0 v1 v2 v3 y : V) : putF "number" y (fl_Token v0 v1 v2 v3) = fl_Token v0 v1 y v3 := (put_past (by decide +kernel)).trans (congrArg _ ((put_past (by decide +kernel)).trans (congrArg _ (put_here))))
theorem lk_Token_place (v0 v1 v2 v3 : V) : (fl_Token v0 v1 v2 v3).lookup ("place" : Str) = some v3 := (lk_past (by decide +kernel)).trans ((lk_past (by decide +kernel)).trans ((lk_past (by decide +kernel)).trans (lk_here)))
theorem pt_Token_place (v0 v1 v2 v3 y : V) : putF "place" y (fl_Token v0 v1 v2 v3) = fl_Token v0 v1 v2 y := (put_past (by decide +kernel)).trans (congrArg _ ((put_past (by decide +kernel)).trans (congrArg _ ((put_past (by decide +kernel)).trans (congrArg _ (put_here))))))
theorem nw_Token (v0 v1 v2 v3 : V) : putF "place" v3 (putF "number" v2 (putF "text" v1 (putF "sort_told" v0 ([])))) = fl_Token v0 v1 v2 v3 := by
  simp only [putF]
  repeat (first | rw [if_neg (by decide +kernel)] | rfl)
def fl_Question (v0 v1 : V) : List (Str × V) := [("grouping", v0), ("often", v1)]
theorem lk_Question_grouping (v0 v1 : V) : (fl_Question v0 v1).lookup ("grouping" : Str) = some v0 := lk_here
theorem pt_Question_grouping (v0 v1 y : V) : putF "grouping" y (fl_Question v0 v1) = fl_Question y v1 := put_here
theorem lk_Question_often (v0 v1 : V) : (fl_Question v0 v1).lookup ("often" : Str) = some v1 := (lk_past (by decide +kernel)).trans (lk_here)
theorem pt_Question_often (v0 v1 y : V) : putF "often" y (fl_Question v0 v1) = fl_Question v0 y := (put_past (by decide +kernel)).trans (congrArg _ (put_here))
theorem nw_Question (v0 v1 : V) : putF "often" v1 (putF "grouping" v0 ([])) = fl_Question v0 v1 := by
  simp only [putF]
  repeat (first | rw [if_neg (by decide +kernel)] | rfl)
def fl_Table (v0 v1 v2 : V) : List (Str × V) := [("columns", v0), ("rows", v1), ("questions", v2)]
theorem lk_Table_columns (v0 v1 v2 : V) : (fl_Table v0 v1 v2).lookup ("columns" : Str) = some v0 := lk_here
theorem pt_Table_columns (v0 v1 v2 y : V) : putF "columns" y (fl_Table v0 v1 v2) = fl_Table y v1 v2 := put_here
theorem lk_Table_rows (v0 v1 v2 : V) : (fl_Table v0 v1 v2).lookup ("rows" : Str) = some v1 := (lk_past (by decide +kernel)).trans (lk_here)
theorem pt_Table_rows (v0 v1 v2 y : V) : putF "rows" y (fl_Table v0 v1 v2) = fl_Table v0 y v2 := (put_past (by decide +kernel)).trans (congrArg _ (put_here))
theorem lk_Table_questions (v0 v1 v2 : V) : (fl_Table v0 v1 v2).lookup ("questions" : Str) = some v2 := (lk_past (by decide +kernel)).trans ((lk_past (by decide +kernel)).trans (lk_here))
theorem pt_Table_questions (v0 v1 v2 y : V) : putF "questions" y (fl_Table v0 v1 v2) = fl_Table v0 v1 y := (put_past (by decide +kernel)).trans (congrArg _ ((put_past (by decide +kernel)).trans (congrArg _ (put_here))))
theorem no_Table_size (v0 v1 v2 : V) : (fl_Table v0 v1 v2).lookup ("size" : Str) = none := (lk_past (by decide +kernel)).trans ((lk_past (by decide +kernel)).trans ((lk_past (by decide +kernel)).trans (rfl)))
theorem nw_Table (v0 v1 v2 : V) : putF "questions" v2 (putF "rows" v1 (putF "columns" v0 ([]))) = fl_Table v0 v1 v2 := by
  simp only [putF]
  repeat (first | rw [if_neg (by decide +kernel)] | rfl)
def fl_Reader (v0 v1 v2 : V) : List (Str × V) := [("tokens", v0), ("at", v1), ("table", v2)]
theorem lk_Reader_tokens (v0 v1 v2 : V) : (fl_Reader v0 v1 v2).lookup ("tokens" : Str) = some v0 := lk_here
theorem pt_Reader_tokens (v0 v1 v2 y : V) : putF "tokens" y (fl_Reader v0 v1 v2) = fl_Reader y v1 v2 := put_here
theorem lk_Reader_at (v0 v1 v2 : V) : (fl_Reader v0 v1 v2).lookup ("at" : Str) = some v1 := (lk_past (by decide +kernel)).trans (lk_here)
theorem pt_Reader_at (v0 v1 v2 y : V) : putF "at" y (fl_Reader v0 v1 v2) = fl_Reader v0 y v2 := (put_past (by decide +kernel)).trans (congrArg _ (put_here))
theorem lk_Reader_table (v0 v1 v2 : V) : (fl_Reader v0 v1 v2).lookup ("table" : Str) = some v2 := (lk_past (by decide +kernel)).trans ((lk_past (by decide +kernel)).trans (lk_here))
theorem pt_Reader_table (v0 v1 v2 y : V) : putF "table" y (fl_Reader v0 v1 v2) = fl_Reader v0 v1 y := (put_past (by decide +kernel)).trans (congrArg _ ((put_past (by decide +kernel)).trans (congrArg _ (put_here))))
theorem no_Reader_here (v0 v1 v2 : V) : (fl_Reader v0 v1 v2).lookup ("here" : Str) = none := (lk_past (by decide +kernel)).trans ((lk_past (by decide +kernel)).trans ((lk_past (by decide +kernel)).trans (rfl)))
theorem no_Reader_fail_if (v0 v1 v2 : V) : (fl_Reader v0 v1 v2).lookup ("fail_if" : Str) = none := (lk_past (by decide +kernel)).trans ((lk_past (by decide +kernel)).trans ((lk_past (by decide +kernel)).trans (rfl)))
theorem no_Reader_is_next (v0 v1 v2 : V) : (fl_Reader v0 v1 v2).lookup ("is_next" : Str) = none := (lk_past (by decide +kernel)).trans ((lk_past (by decide +kernel)).trans ((lk_past (by decide +kernel)).trans (rfl)))
theorem no_Reader_look_for (v0 v1 v2 : V) : (fl_Reader v0 v1 v2).lookup ("look_for" : Str) = none := (lk_past (by decide +kernel)).trans ((lk_past (by decide +kernel)).trans ((lk_past (by decide +kernel)).trans (rfl)))
theorem no_Reader_want (v0 v1 v2 : V) : (fl_Reader v0 v1 v2).lookup ("want" : Str) = none := (lk_past (by decide +kernel)).trans ((lk_past (by decide +kernel)).trans ((lk_past (by decide +kernel)).trans (rfl)))
theorem no_Reader_read_number (v0 v1 v2 : V) : (fl_Reader v0 v1 v2).lookup ("read_number" : Str) = none := (lk_past (by decide +kernel)).trans ((lk_past (by decide +kernel)).trans ((lk_past (by decide +kernel)).trans (rfl)))
theorem no_Reader_read_column (v0 v1 v2 : V) : (fl_Reader v0 v1 v2).lookup ("read_column" : Str) = none := (lk_past (by decide +kernel)).trans ((lk_past (by decide +kernel)).trans ((lk_past (by decide +kernel)).trans (rfl)))
theorem no_Reader_read_columns (v0 v1 v2 : V) : (fl_Reader v0 v1 v2).lookup ("read_columns" : Str) = none := (lk_past (by decide +kernel)).trans ((lk_past (by decide +kernel)).trans ((lk_past (by decide +kernel)).trans (rfl)))
theorem no_Reader_read_row (v0 v1 v2 : V) : (fl_Reader v0 v1 v2).lookup ("read_row" : Str) = none := (lk_past (by decide +kernel)).trans ((lk_past (by decide +kernel)).trans ((lk_past (by decide +kernel)).trans (rfl)))
theorem no_Reader_read_name (v0 v1 v2 : V) : (fl_Reader v0 v1 v2).lookup ("read_name" : Str) = none := (lk_past (by decide +kernel)).trans ((lk_past (by decide +kernel)).trans ((lk_past (by decide +kernel)).trans (rfl)))
theorem no_Reader_read_question (v0 v1 v2 : V) : (fl_Reader v0 v1 v2).lookup ("read_question" : Str) = none := (lk_past (by decide +kernel)).trans ((lk_past (by decide +kernel)).trans ((lk_past (by decide +kernel)).trans (rfl)))
theorem no_Reader_read (v0 v1 v2 : V) : (fl_Reader v0 v1 v2).lookup ("read" : Str) = none := (lk_past (by decide +kernel)).trans ((lk_past (by decide +kernel)).trans ((lk_past (by decide +kernel)).trans (rfl)))
theorem nw_Reader (v0 v1 v2 : V) : putF "table" v2 (putF "at" v1 (putF "tokens" v0 ([]))) = fl_Reader v0 v1 v2 := by
  simp only [putF]
  repeat (first | rw [if_neg (by decide +kernel)] | rfl)
def fl_Desk (v0 : V) : List (Str × V) := [("held", v0)]
theorem lk_Desk_held (v0 : V) : (fl_Desk v0).lookup ("held" : Str) = some v0 := lk_here
theorem pt_Desk_held (v0 y : V) : putF "held" y (fl_Desk v0) = fl_Desk y := put_here
theorem no_Desk_load (v0 : V) : (fl_Desk v0).lookup ("load" : Str) = none := (lk_past (by decide +kernel)).trans (rfl)
theorem no_Desk_look_at_room (v0 : V) : (fl_Desk v0).lookup ("look_at_room" : Str) = none := (lk_past (by decide +kernel)).trans (rfl)
theorem no_Desk_look_at_set (v0 : V) : (fl_Desk v0).lookup ("look_at_set" : Str) = none := (lk_past (by decide +kernel)).trans (rfl)
theorem no_Desk_cands (v0 : V) : (fl_Desk v0).lookup ("cands" : Str) = none := (lk_past (by decide +kernel)).trans (rfl)
theorem no_Desk_put_days (v0 : V) : (fl_Desk v0).lookup ("put_days" : Str) = none := (lk_past (by decide +kernel)).trans (rfl)
theorem no_Desk_best (v0 : V) : (fl_Desk v0).lookup ("best" : Str) = none := (lk_past (by decide +kernel)).trans (rfl)
theorem no_Desk_always (v0 : V) : (fl_Desk v0).lookup ("always" : Str) = none := (lk_past (by decide +kernel)).trans (rfl)
theorem no_Desk_check (v0 : V) : (fl_Desk v0).lookup ("check" : Str) = none := (lk_past (by decide +kernel)).trans (rfl)
theorem no_Desk_day (v0 : V) : (fl_Desk v0).lookup ("day" : Str) = none := (lk_past (by decide +kernel)).trans (rfl)
theorem no_Desk_go (v0 : V) : (fl_Desk v0).lookup ("go" : Str) = none := (lk_past (by decide +kernel)).trans (rfl)
theorem no_Desk_ends (v0 : V) : (fl_Desk v0).lookup ("ends" : Str) = none := (lk_past (by decide +kernel)).trans (rfl)
theorem nw_Desk (v0 : V) : putF "held" v0 ([]) = fl_Desk v0 := rfl
def fl_CallReader (v0 v1 : V) : List (Str × V) := [("calls", v0), ("at", v1)]
theorem lk_CallReader_calls (v0 v1 : V) : (fl_CallReader v0 v1).lookup ("calls" : Str) = some v0 := lk_here
theorem pt_CallReader_calls (v0 v1 y : V) : putF "calls" y (fl_CallReader v0 v1) = fl_CallReader y v1 := put_here
theorem lk_CallReader_at (v0 v1 : V) : (fl_CallReader v0 v1).lookup ("at" : Str) = some v1 := (lk_past (by decide +kernel)).trans (lk_here)
theorem pt_CallReader_at (v0 v1 y : V) : putF "at" y (fl_CallReader v0 v1) = fl_CallReader v0 y := (put_past (by decide +kernel)).trans (congrArg _ (put_here))
theorem no_CallReader_is_done (v0 v1 : V) : (fl_CallReader v0 v1).lookup ("is_done" : Str) = none := (lk_past (by decide +kernel)).trans ((lk_past (by decide +kernel)).trans (rfl))
theorem no_CallReader_next_some (v0 v1 : V) : (fl_CallReader v0 v1).lookup ("next_some" : Str) = none := (lk_past (by decide +kernel)).trans ((lk_past (by decide +kernel)).trans (rfl))
theorem nw_CallReader (v0 v1 : V) : putF "at" v1 (putF "calls" v0 ([])) = fl_CallReader v0 v1 := by
  simp only [putF]
  repeat (first | rw [if_neg (by decide +kernel)] | rfl)
section
variable {K : PySem.W.Frag} {mg : Str → Option Value} {d : Ad} {σ : L2.St} {H : Hp} {ta : TE} {a dx : Addr}
theorem ev_Choice_table (T : Txt K mg d) {v0 v1 v2 v3 : V} (h : Evl.Ev ta σ H (.ref a)) (ho : H a = some (.ins d.cChoice dx (fl_Choice v0 v1 v2 v3))) : Evl.Ev (tFld K ta "table") σ H v0 :=
  ev_fldG h ho T.C.cl_Choice T.C.n_Choice_table (lk_Choice_table ..)
theorem ev_Choice_candidates (T : Txt K mg d) {v0 v1 v2 v3 : V} (h : Evl.Ev ta σ H (.ref a)) (ho : H a = some (.ins d.cChoice dx (fl_Choice v0 v1 v2 v3))) : Evl.Ev (tFld K ta "candidates") σ H v1 :=
  ev_fldG h ho T.C.cl_Choice T.C.n_Choice_candidates (lk_Choice_candidates ..)
theorem ev_Choice_sizes (T : Txt K mg d) {v0 v1 v2 v3 : V} (h : Evl.Ev ta σ H (.ref a)) (ho : H a = some (.ins d.cChoice dx (fl_Choice v0 v1 v2 v3))) : Evl.Ev (tFld K ta "sizes") σ H v2 :=
  ev_fldG h ho T.C.cl_Choice T.C.n_Choice_sizes (lk_Choice_sizes ..)
theorem ev_Choice_days (T : Txt K mg d) {v0 v1 v2 v3 : V} (h : Evl.Ev ta σ H (.ref a)) (ho : H a = some (.ins d.cChoice dx (fl_Choice v0 v1 v2 v3))) : Evl.Ev (tFld K ta "days") σ H v3 :=
  ev_fldG h ho T.C.cl_Choice T.C.n_Choice_days (lk_Choice_days ..)
theorem ev_Line_number (T : Txt K mg d) {v0 v1 v2 : V} (h : Evl.Ev ta σ H (.ref a)) (ho : H a = some (.ins d.cLine dx (fl_Line v0 v1 v2))) : Evl.Ev (tFld K ta "number") σ H v0 :=
  ev_fldG h ho T.C.cl_Line T.C.n_Line_number (lk_Line_number ..)
theorem ev_Line_begin (T : Txt K mg d) {v0 v1 v2 : V} (h : Evl.Ev ta σ H (.ref a)) (ho : H a = some (.ins d.cLine dx (fl_Line v0 v1 v2))) : Evl.Ev (tFld K ta "begin") σ H v1 :=
  ev_fldG h ho T.C.cl_Line T.C.n_Line_begin (lk_Line_begin ..)
theorem ev_Line_slope (T : Txt K mg d) {v0 v1 v2 : V} (h : Evl.Ev ta σ H (.ref a)) (ho : H a = some (.ins d.cLine dx (fl_Line v0 v1 v2))) : Evl.Ev (tFld K ta "slope") σ H v2 :=
  ev_fldG h ho T.C.cl_Line T.C.n_Line_slope (lk_Line_slope ..)
theorem ev_Token_sort_told (T : Txt K mg d) {v0 v1 v2 v3 : V} (h : Evl.Ev ta σ H (.ref a)) (ho : H a = some (.ins d.cToken dx (fl_Token v0 v1 v2 v3))) : Evl.Ev (tFld K ta "sort_told") σ H v0 :=
  ev_fldG h ho T.C.cl_Token T.C.n_Token_sort_told (lk_Token_sort_told ..)
theorem ev_Token_text (T : Txt K mg d) {v0 v1 v2 v3 : V} (h : Evl.Ev ta σ H (.ref a)) (ho : H a = some (.ins d.cToken dx (fl_Token v0 v1 v2 v3))) : Evl.Ev (tFld K ta "text") σ H v1 :=
  ev_fldG h ho T.C.cl_Token T.C.n_Token_text (lk_Token_text ..)
theorem ev_Token_number (T : Txt K mg d) {v0 v1 v2 v3 : V} (h : Evl.Ev ta σ H (.ref a)) (ho : H a = some (.ins d.cToken dx (fl_Token v0 v1 v2 v3))) : Evl.Ev (tFld K ta "number") σ H v2 :=
  ev_fldG h ho T.C.cl_Token T.C.n_Token_number (lk_Token_number ..)
theorem ev_Token_place (T : Txt K mg d) {v0 v1 v2 v3 : V} (h : Evl.Ev ta σ H (.ref a)) (ho : H a = some (.ins d.cToken dx (fl_Token v0 v1 v2 v3))) : Evl.Ev (tFld K ta "place") σ H v3 :=
  ev_fldG h ho T.C.cl_Token T.C.n_Token_place (lk_Token_place ..)
theorem ev_Question_grouping (T : Txt K mg d) {v0 v1 : V} (h : Evl.Ev ta σ H (.ref a)) (ho : H a = some (.ins d.cQuestion dx (fl_Question v0 v1))) : Evl.Ev (tFld K ta "grouping") σ H v0 :=
  ev_fldG h ho T.C.cl_Question T.C.n_Question_grouping (lk_Question_grouping ..)
theorem ev_Question_often (T : Txt K mg d) {v0 v1 : V} (h : Evl.Ev ta σ H (.ref a)) (ho : H a = some (.ins d.cQuestion dx (fl_Question v0 v1))) : Evl.Ev (tFld K ta "often") σ H v1 :=
  ev_fldG h ho T.C.cl_Question T.C.n_Question_often (lk_Question_often ..)
theorem ev_Table_columns (T : Txt K mg d) {v0 v1 v2 : V} (h : Evl.Ev ta σ H (.ref a)) (ho : H a = some (.ins d.cTable dx (fl_Table v0 v1 v2))) : Evl.Ev (tFld K ta "columns") σ H v0 :=
  ev_fldG h ho T.C.cl_Table T.C.n_Table_columns (lk_Table_columns ..)
theorem ev_Table_rows (T : Txt K mg d) {v0 v1 v2 : V} (h : Evl.Ev ta σ H (.ref a)) (ho : H a = some (.ins d.cTable dx (fl_Table v0 v1 v2))) : Evl.Ev (tFld K ta "rows") σ H v1 :=
  ev_fldG h ho T.C.cl_Table T.C.n_Table_rows (lk_Table_rows ..)
theorem ev_Table_questions (T : Txt K mg d) {v0 v1 v2 : V} (h : Evl.Ev ta σ H (.ref a)) (ho : H a = some (.ins d.cTable dx (fl_Table v0 v1 v2))) : Evl.Ev (tFld K ta "questions") σ H v2 :=
  ev_fldG h ho T.C.cl_Table T.C.n_Table_questions (lk_Table_questions ..)
theorem ev_Reader_tokens (T : Txt K mg d) {v0 v1 v2 : V} (h : Evl.Ev ta σ H (.ref a)) (ho : H a = some (.ins d.cReader dx (fl_Reader v0 v1 v2))) : Evl.Ev (tFld K ta "tokens") σ H v0 :=
  ev_fldG h ho T.C.cl_Reader T.C.n_Reader_tokens (lk_Reader_tokens ..)
theorem ev_Reader_at (T : Txt K mg d) {v0 v1 v2 : V} (h : Evl.Ev ta σ H (.ref a)) (ho : H a = some (.ins d.cReader dx (fl_Reader v0 v1 v2))) : Evl.Ev (tFld K ta "at") σ H v1 :=
  ev_fldG h ho T.C.cl_Reader T.C.n_Reader_at (lk_Reader_at ..)
theorem ev_Reader_table (T : Txt K mg d) {v0 v1 v2 : V} (h : Evl.Ev ta σ H (.ref a)) (ho : H a = some (.ins d.cReader dx (fl_Reader v0 v1 v2))) : Evl.Ev (tFld K ta "table") σ H v2 :=
  ev_fldG h ho T.C.cl_Reader T.C.n_Reader_table (lk_Reader_table ..)
theorem ev_Desk_held (T : Txt K mg d) {v0 : V} (h : Evl.Ev ta σ H (.ref a)) (ho : H a = some (.ins d.cDesk dx (fl_Desk v0))) : Evl.Ev (tFld K ta "held") σ H v0 :=
  ev_fldG h ho T.C.cl_Desk T.C.n_Desk_held (lk_Desk_held ..)
theorem ev_CallReader_calls (T : Txt K mg d) {v0 v1 : V} (h : Evl.Ev ta σ H (.ref a)) (ho : H a = some (.ins d.cCallReader dx (fl_CallReader v0 v1))) : Evl.Ev (tFld K ta "calls") σ H v0 :=
  ev_fldG h ho T.C.cl_CallReader T.C.n_CallReader_calls (lk_CallReader_calls ..)
theorem ev_CallReader_at (T : Txt K mg d) {v0 v1 : V} (h : Evl.Ev ta σ H (.ref a)) (ho : H a = some (.ins d.cCallReader dx (fl_CallReader v0 v1))) : Evl.Ev (tFld K ta "at") σ H v1 :=
  ev_fldG h ho T.C.cl_CallReader T.C.n_CallReader_at (lk_CallReader_at ..)
end
end KW
end
section
/-! # The heap's records; short answers -/
namespace KW
open PySem PySem.Spec PyProof.Rows L2 Evl
abbrev nV (n : Nat) : V := .int (n : Int)
/-! ### ints -/
theorem and_nat (a b : Nat) : Builtin.bitAnd (a : Int) (b : Int) = ((a &&& b : Nat) : Int) := by
  unfold Builtin.bitAnd
  rw [show decide ((0 : Int) ≤ (a : Int)) = true from decide_eq_true (Int.natCast_nonneg a), show decide ((0 : Int) ≤ (b : Int)) = true from decide_eq_true (Int.natCast_nonneg b)]
  rfl
theorem shr_nat (a b : Nat) : (a : Int) / 2 ^ ((b : Int)).toNat = ((a / 2 ^ b : Nat) : Int) := by
  rw [Int.toNat_natCast]
  push_cast
  rfl
/-- s >> i & 1 == 1, == 0 -/
theorem bit_eq (s i : Nat) : Builtin.bitAnd ((s : Int) / 2 ^ ((i : Int)).toNat) 1 = (if KA.bit s i = true then 1 else 0) := by
  rw [shr_nat, show (1 : Int) = ((1 : Nat) : Int) from rfl, and_nat, Nat.and_one_is_mod]
  unfold KA.bit
  have h := Nat.mod_two_eq_zero_or_one (s / 2 ^ i)
  rcases h with h | h <;> rw [h] <;> rfl
theorem bit1 (s i : Nat) : decide (V.int (Builtin.bitAnd ((s : Int) / 2 ^ ((i : Int)).toNat) 1) = V.int 1) = KA.bit s i := by
  rw [bit_eq]
  cases KA.bit s i <;> decide
theorem bit0 (s i : Nat) : decide (V.int (Builtin.bitAnd ((s : Int) / 2 ^ ((i : Int)).toNat) 1) = V.int 0) = !KA.bit s i := by
  rw [bit_eq]
  cases KA.bit s i <;> decide
theorem subs1 (g c : Nat) : decide (V.int (Builtin.bitAnd (g : Int) (c : Int)) = V.int (g : Int)) = KA.subs g c := by
  rw [and_nat]
  unfold KA.subs
  have e : (V.int ((g &&& c : Nat) : Int) = V.int (g : Int)) ↔ g &&& c = g := by
    constructor
    · intro h
      injection h with h
      exact_mod_cast h
    · intro h
      rw [h]
  by_cases h : g &&& c = g
  · rw [decide_eq_true h, decide_eq_true (e.mpr h)]
  · rw [decide_eq_false h, decide_eq_false fun q => h (e.mp q)]
theorem shl1 (n : Nat) : (1 : Int) * 2 ^ ((n : Int)).toNat = ((2 ^ n : Nat) : Int) := by
  rw [Int.toNat_natCast, Int.one_mul]
  push_cast
  rfl
/-! ### operators by values -/
section
variable {K : PySem.W.Frag} {σ : L2.St} {H H' : Hp} {i j : Int}
theorem rv_add : RV kAdd (.int i) (.int j) H (.int (i + j)) := rv_I0
theorem rv_sub : RV kSub (.int i) (.int j) H (.int (i - j)) := rv_I0
theorem rv_mul (h : CMul i j) : RV kMul (.int i) (.int j) H (.int (i * j)) := rv_I h
theorem rv_div (h : CDiv i j) : RV kDiv (.int i) (.int j) H (.int (i / j)) := rv_I h
theorem rv_mod (h : 0 < j) : RV kMod (.int i) (.int j) H (.int (i % j)) := rv_I h
theorem rv_shl (h : CPow i j) : RV kShl (.int i) (.int j) H (.int (i * 2 ^ j.toNat)) := rv_I h
theorem rv_shr (h : 0 ≤ j) : RV kShr (.int i) (.int j) H (.int (i / 2 ^ j.toNat)) := rv_I h
theorem rv_and : RV kAnd (.int i) (.int j) H (.int (Builtin.bitAnd i j)) := rv_I0
theorem rv_lt : RV kLt (.int i) (.int j) H (.bl (decide (i < j))) := rv_I0
theorem rv_le : RV kLe (.int i) (.int j) H (.bl (decide (i ≤ j))) := rv_I0
theorem rv_gt : RV kGt (.int i) (.int j) H (.bl (decide (j < i))) := rv_I0
theorem rv_ge : RV kGe (.int i) (.int j) H (.bl (decide (j ≤ i))) := rv_I0
theorem rv_isN {x : V} : RV rIsNn x .non H (.bl (decide (x = .non))) := fun H1 _ _ q => ⟨rfl, q H1 (Ex.refl H1)⟩
theorem ru_neg' : RU kNeg (.int i) H (.int (-i)) := ru_neg
theorem rv_catS {x y : Str} (h : x.length + y.length ≤ sizeLine) : RV kCatS (.str x) (.str y) H (.str (x ++ y)) := fun H1 _ _ q => ⟨x, y, rfl, rfl, h, q H1 (Ex.refl H1)⟩
/-- s >> i & 1 == 1 -/
theorem ev_bit1 {ta tb : TE} {s k : Nat} (ha : Ev ta σ H (nV s)) (hb : Ev tb σ H (nV k)) : Ev (tOp rEq (tOp kAnd (tOp kShr ta tb) (tC (.int 1))) (tC (.int 1))) σ H (.bl (KA.bit s k)) := by
  rw [← bit1 s k]
  exact ev_op (ev_op (ev_op ha hb (rv_shr (Int.natCast_nonneg k))) ev_c rv_and) ev_c (rv_eq rfl)
theorem ev_bit0 {ta tb : TE} {s k : Nat} (ha : Ev ta σ H (nV s)) (hb : Ev tb σ H (nV k)) : Ev (tOp rEq (tOp kAnd (tOp kShr ta tb) (tC (.int 1))) (tC (.int 0))) σ H (.bl (!KA.bit s k)) := by
  rw [← bit0 s k]
  exact ev_op (ev_op (ev_op ha hb (rv_shr (Int.natCast_nonneg k))) ev_c rv_and) ev_c (rv_eq rfl)
theorem ev_subs {ta tb tc : TE} {g c : Nat} (ha : Ev ta σ H (nV g)) (hb : Ev tb σ H (nV c)) (hc : Ev tc σ H (nV g)) : Ev (tOp rEq (tOp kAnd ta tb) tc) σ H (.bl (KA.subs g c)) := by
  rw [← subs1 g c]
  exact ev_op (ev_op ha hb rv_and) hc (rv_eq rfl)
theorem ev_shl1 {tb : TE} {n : Nat} (hn : n ≤ 100) (hb : Ev tb σ H (nV n)) : Ev (tOp kShl (tC (.int 1)) tb) σ H (nV (2 ^ n)) := by
  show Ev _ σ H (.int ((2 ^ n : Nat) : Int))
  rw [← shl1 n]
  exact ev_op ev_c hb (rv_shl ⟨Int.natCast_nonneg n, by omega, by decide⟩)
theorem ev_sum {ta : TE} {p : Addr} {ns : List Int} (h : Ev ta σ H (.ref p)) (hs : SqL K H p (ns.map V.int)) : Ev (tCB (rSum K) (tCons ta tNil)) σ H (.int ns.sum) := fun H1 e Q q =>
  h H1 e _ fun H2 e2 => ⟨p, ns, rfl, ex_l (e.trans e2) hs, q H2 e2⟩
theorem ev_sumN {ta : TE} {ns : List Int} (h : EvL ta σ H (ns.map V.int)) : Ev (tCB (rSum K) (tCons ta tNil)) σ H (.int ns.sum) := fun H1 e Q q =>
  h H1 e _ fun p H2 _ e2 hp => ⟨p, ns, rfl, sq_of hp, q H2 e2⟩
theorem ev_minD {ta tb : TE} {p : Addr} {ns : List Int} {n : Int} (h : Ev ta σ H (.ref p)) (hs : SqL K H p (ns.map V.int)) (hb : Ev tb σ H (.int n)) : Ev (tCKw (rMinD K) (tCons ta tNil) (tCons tb tNil)) σ H (.int (minI n ns)) := fun H1 e Q q =>
  h H1 e _ fun H2 e2 => hb H2 (e.trans e2) _ fun H3 e3 => ⟨p, ns, n, rfl, rfl, ex_l ((e.trans e2).trans e3) hs, q H3 (e2.trans e3)⟩
end
/-! ### lists of naturals -/
theorem map_nV (l : List Nat) : l.map nV = (l.map fun n : Nat => (n : Int)).map V.int := by
  rw [List.map_map]
  rfl
theorem sum_nat : ∀ l : List Nat, (l.map fun n : Nat => (n : Int)).sum = ((l.sum : Nat) : Int)
  | [] => rfl
  | n :: l => by
    rw [List.map_cons, List.sum_cons, List.sum_cons, sum_nat l]
    push_cast
    rfl
theorem minI_go : ∀ (r : List Nat) (x : Nat), (r.map fun n : Nat => (n : Int)).foldl min (x : Int) = ((r.foldl min x : Nat) : Int)
  | [], _ => rfl
  | a :: r, x => by
    rw [List.map_cons, List.foldl_cons, List.foldl_cons, ← minI_go r]
    congr 1
    omega
theorem minI_nat (n : Nat) : ∀ l : List Nat, minI (n : Int) (l.map fun n : Nat => (n : Int)) = ((KA.minD n l : Nat) : Int)
  | [] => rfl
  | x :: r => minI_go r x
/-- what enumerate's filter gives, by places -/
theorem given_zip {α : Type} (g : α → Nat → Bool) (w : α → V) : ∀ (l : List α) (k : Nat) (f : Nat → Bool) (v : Nat → V), (∀ i x, l[i]? = some x → f i = g x (k + i) ∧ v i = w x) →
    given l.length f v = ((l.zipIdx k).filter fun x => g x.1 x.2).map fun x => w x.1
  | [], _, _, _, _ => rfl
  | x :: l, k, f, v, h => by
    have h0 := h 0 x rfl
    have ih := given_zip g w l (k + 1) (fun i => f (i + 1)) (fun i => v (i + 1)) (fun i y hy => by
      have := h (i + 1) y hy
      rw [show k + 1 + i = k + (i + 1) by omega]
      exact this)
    unfold given at ih ⊢
    rw [List.length_cons, List.range_succ_eq_map, List.filter_cons, List.zipIdx_cons, List.filter_cons]
    have em : ((List.map Nat.succ (List.range l.length)).filter f).map v = ((List.range l.length).filter fun i => f (i + 1)).map fun i => v (i + 1) := by
      rw [List.filter_map, List.map_map]
      rfl
    have hk : f 0 = g x k := h0.1
    by_cases hf : f 0 = true
    · rw [if_pos hf, if_pos (show g (x, k).1 (x, k).2 = true by rw [← hk]; exact hf), List.map_cons, List.map_cons, em, ih, h0.2]
    · rw [if_neg hf, if_neg (show ¬ g (x, k).1 (x, k).2 = true by rw [← hk]; exact hf), em, ih]
/-! ### one by one -/
theorem pair_get {α β : Type} {G : α → β → Prop} : ∀ {l₁ : List α} {l₂ : List β}, Paired G l₁ l₂ → ∀ {i : Nat} {b : β}, l₂[i]? = some b → ∃ a, l₁[i]? = some a ∧ G a b
  | _, _, .nil, i, b, h => by simp at h
  | a :: _, b :: _, .cons h t, 0, c, e => ⟨a, rfl, by rw [← Option.some.inj e]; exact h⟩
  | a :: _, b :: _, .cons h t, i + 1, c, e => pair_get t (i := i) e
theorem pair_app {α β : Type} {G : α → β → Prop} : ∀ {l₁ : List α} {l₂ : List β} {a : α} {b : β}, Paired G l₁ l₂ → G a b → Paired G (l₁ ++ [a]) (l₂ ++ [b])
  | _, _, _, _, .nil, h => .cons h .nil
  | _, _, _, _, .cons g t, h => .cons g (pair_app t h)
theorem pair_of {α β : Type} {G : α → β → Prop} : ∀ {l₁ : List α} {l₂ : List β}, l₁.length = l₂.length → (∀ (i : Nat) (a : α) (b : β), l₁[i]? = some a → l₂[i]? = some b → G a b) → Paired G l₁ l₂
  | [], [], _, _ => .nil
  | [], _ :: _, h, _ => by simp at h
  | _ :: _, [], h, _ => by simp at h
  | a :: l, b :: m, h, g => .cons (g 0 a b rfl rfl) (pair_of (by simpa using h) fun i x y hx hy => g (i + 1) x y hx hy)
theorem pair_len {α β : Type} {F : α → β → Prop} {xs : List α} {ys : List β} (h : Paired F xs ys) : xs.length = ys.length := paired_ix h
theorem pair_imp {α β : Type} {F G : α → β → Prop} {l₁ : List α} {l₂ : List β} (h : Paired F l₁ l₂) (k : ∀ a b, F a b → G a b) : Paired G l₁ l₂ := Paired.mapP h k
/-! ### records -/
open VamvsBase (Bytes Tok PTok)
/-- a list of lists of naturals -/
def ListsN (H : Hp) (a : Addr) (ls : List (List Nat)) : Prop := ∃ rs : List Addr, H a = some (.lst (rs.map V.ref)) ∧ Paired (fun r l => H r = some (.lst (l.map nV))) rs ls
def strOf (b : Bytes) : Str := ⟨(b.map UInt8.toNat).toArray⟩
section
variable (d : Ad)
def QAt (H : Hp) (a : Addr) (q : Vamvsa.Ask) : Prop := ∃ dx, H a = some (.ins d.cQuestion dx (fl_Question (nV q.g) (nV q.k)))
def QsAt (H : Hp) (a : Addr) (qs : List Vamvsa.Ask) : Prop := ∃ rs : List Addr, H a = some (.lst (rs.map V.ref)) ∧ Paired (fun r q => QAt d H r q) rs qs
def TableAt (H : Hp) (a : Addr) (cols : List Bytes) (rows : List (List Nat)) (qs : List Vamvsa.Ask) : Prop := ∃ dx ca ra qa, H a = some (.ins d.cTable dx (fl_Table (.ref ca) (.ref ra) (.ref qa))) ∧
  H ca = some (.lst (cols.map fun b => V.str (strOf b))) ∧ ListsN H ra rows ∧ QsAt d H qa qs
/-- a Choice that stands for the specification's state -/
def ChoiceAt (H : Hp) (a : Addr) (z : Vamvse.Held) : Prop := ∃ dx ta ca sa da, H a = some (.ins d.cChoice dx (fl_Choice (.ref ta) (.ref ca) (.ref sa) (.ref da))) ∧ TableAt d H ta z.t.cols (z.t.rows.map (·.vs)) z.t.asks ∧
  H ca = some (.lst (z.cs.map nV)) ∧ H sa = some (.lst ((z.cs.map (Vamvsa.sizeOf_ z.t)).map nV)) ∧ ListsN H da z.days
def LineAt (H : Hp) (a : Addr) (l : KA.LineM) : Prop := ∃ dx, H a = some (.ins d.cLine dx (fl_Line (nV l.1) (nV l.2.1) (nV l.2.2)))
def LinesAt (H : Hp) (a : Addr) (ls : List KA.LineM) : Prop := ∃ rs : List Addr, H a = some (.lst (rs.map V.ref)) ∧ Paired (fun r l => LineAt d H r l) rs ls
variable {d} {H H' : Hp} {a : Addr}
theorem ListsN.mono (e : Ex H H') {ls : List (List Nat)} (h : ListsN H a ls) : ListsN H' a ls := by
  obtain ⟨rs, h1, h2⟩ := h
  exact ⟨rs, e _ _ h1, pair_imp h2 fun _ _ q => e _ _ q⟩
theorem QAt.mono (e : Ex H H') {q : Vamvsa.Ask} (h : QAt d H a q) : QAt d H' a q := by
  obtain ⟨dx, h⟩ := h
  exact ⟨dx, e _ _ h⟩
theorem QsAt.mono (e : Ex H H') {qs : List Vamvsa.Ask} (h : QsAt d H a qs) : QsAt d H' a qs := by
  obtain ⟨rs, h1, h2⟩ := h
  exact ⟨rs, e _ _ h1, pair_imp h2 fun _ _ q => q.mono e⟩
theorem TableAt.mono (e : Ex H H') {cols : List Bytes} {rows : List (List Nat)} {qs : List Vamvsa.Ask} (h : TableAt d H a cols rows qs) : TableAt d H' a cols rows qs := by
  obtain ⟨dx, ca, ra, qa, h1, h2, h3, h4⟩ := h
  exact ⟨dx, ca, ra, qa, e _ _ h1, e _ _ h2, h3.mono e, h4.mono e⟩
theorem ChoiceAt.mono (e : Ex H H') {z : Vamvse.Held} (h : ChoiceAt d H a z) : ChoiceAt d H' a z := by
  obtain ⟨dx, ta, ca, sa, da, h1, h2, h3, h4, h5⟩ := h
  exact ⟨dx, ta, ca, sa, da, e _ _ h1, h2.mono e, e _ _ h3, e _ _ h4, h5.mono e⟩
theorem LineAt.mono (e : Ex H H') {l : KA.LineM} (h : LineAt d H a l) : LineAt d H' a l := by
  obtain ⟨dx, h⟩ := h
  exact ⟨dx, e _ _ h⟩
theorem LinesAt.mono (e : Ex H H') {ls : List KA.LineM} (h : LinesAt d H a ls) : LinesAt d H' a ls := by
  obtain ⟨rs, h1, h2⟩ := h
  exact ⟨rs, e _ _ h1, pair_imp h2 fun _ _ q => q.mono e⟩
end
/-- what holds of a state's numbers -/
structure HeldOk (z : Vamvse.Held) : Prop where
  cols : z.t.cols.length ≤ 4
  rows : ∀ r ∈ z.t.rows, r.vs.length = Vamvsa.width z.t
  many : z.t.rows.length ≤ 16
  asks : z.t.asks.length ≤ 8
  asked : ∀ q ∈ z.t.asks, q.g < 2 ^ Vamvsa.width z.t ∧ q.k ≤ 99
  cs4 : z.cs.length ≤ 4
  csN : z.cs.Nodup
  csB : ∀ c ∈ z.cs, c < 2 ^ Vamvsa.width z.t
  day8 : z.days.length ≤ 8
  days : ∀ ks ∈ z.days, ks.length = z.t.asks.length ∧ ∀ k ∈ ks, k ≤ 99
end KW
end
section
/-! Printed by gen.py: readings and derivations. -/
namespace KW
open PySem PySem.Spec PyProof.Rows L2
section
variable {P : Program} {w : World} {K : PySem.W.Frag} {mg : Str → Option Value} {base : Heap} {d : Ad}
/-- Choice.__init__: slots self, table -/
def t_Choice_init (K : PySem.W.Frag) (d : Ad) : TS :=
  tSeq (sFld K (tVar 0) (tVar 1) "table")
    (tSeq (sFld K (tVar 0) (tLst (tNil)) "candidates")
    (tSeq (sFld K (tVar 0) (tLst (tNil)) "sizes")
    (sFld K (tVar 0) (tLst (tNil)) "days")))
theorem dv_Choice_init (T : Txt K mg d) {cdv : Value} {A : Around} {outer : List Env} {s : Shared} {H : Hp} {E : XK} (hr : Room 0 (A.deeper (envOfC "Choice.__init__" (defScope s_Choice_init) s.heap.objs.size d.f_Choice_init cdv))) :
    PSs (cxOf CX0 P w K mg base N_Choice_init "Choice.__init__" (defScope s_Choice_init) d.f_Choice_init cdv A outer s H E).nox (defBody s_Choice_init) (t_Choice_init K d) :=
  pss_cons (ps_fld (pv 0) (pv 1) rfl)
    (pss_cons (ps_fld (pv 0) (pe_lst (pa_nil)) rfl)
    (pss_cons (ps_fld (pv 0) (pe_lst (pa_nil)) rfl)
    (pss_one (ps_fld (pv 0) (pe_lst (pa_nil)) rfl))))
/-- Choice.put_candidates: slots self, groupings, grouping -/
def t_Choice_put_candidates (K : PySem.W.Frag) (d : Ad) (sp_Table_size : Sp) : TS :=
  tSeq (sFld K (tVar 0) (tCB (Evl.rListS K) (tCons (tVar 1) (tNil))) "candidates")
    (sFld K (tVar 0) (tLc (iList K (tVar 1)) (gName 2) (tYes) (tMeth d.cTable "size" sp_Table_size [] E0 (tFld K (tVar 0) "table") (tCons (tVar 2) (tNil))) [2]) "sizes")
theorem dv_Choice_put_candidates (T : Txt K mg d) {sp_Table_size : Sp} (G_Table_size : FnOk P w K mg base CX0 1 d.f_Table_size d.fd_Table_size P_Table_size sp_Table_size) {cdv : Value} {A : Around} {outer : List Env} {s : Shared} {H : Hp} {E : XK} (hr : Room 1 (A.deeper (envOfC "Choice.put_candidates" (defScope s_Choice_put_candidates) s.heap.objs.size d.f_Choice_put_candidates cdv))) :
    PSs (cxOf CX0 P w K mg base N_Choice_put_candidates "Choice.put_candidates" (defScope s_Choice_put_candidates) d.f_Choice_put_candidates cdv A outer s H E).nox (defBody s_Choice_put_candidates) (t_Choice_put_candidates K d sp_Table_size) :=
  pss_cons (ps_fld (pv 0) (pe_callTy call_list_of (by rfl) T.G.b_list (by decide +kernel) (pa_cons (pv 1) (pa_nil))) rfl)
    (pss_one (ps_fld (pv 0) (pe_lc (own := [("grouping", 2)]) (g := gName 2) (tt := tYes) rfl sc_Choice_put_candidates.nd (pi_list (pv 1)) (blkOk_by (own := [("grouping", 2)]) (N := N_Choice_put_candidates) (sc := defScope s_Choice_put_candidates) (by decide +kernel)) (fun _ _ _ _ _ => pg_name (i := 2) sc_Choice_put_candidates.nd rfl (by first | exact Or.inl rfl | exact Or.inr rfl)) (fun _ _ _ _ _ => pts_nil) (fun _ _ _ _ _ => pe_meth (pe_fld (pv 0) rfl) T.C.cl_Table T.C.me_Table_size G_Table_size (hr.mono (by decide)) (bd_Table_size T) .nil pass0 (by exact pa_cons (pv 2) (pa_nil)))) rfl))
/-- Choice.put_days: slots self, times, many, place -/
def t_Choice_put_days (K : PySem.W.Frag) (d : Ad) : TS :=
  tSeq (tAsg (tCB (Evl.rLenS K) (tCons (tFld K (tFld K (tVar 0) "table") "questions") (tNil))) (gName 2))
    (sFld K (tVar 0) (tLc (iRng3 (tCons (tC (.int 0)) (tCons (tCB (Evl.rLenS K) (tCons (tVar 1) (tNil))) (tCons (tVar 2) (tNil))))) (gName 3) (tYes) (tSl (rSlL K) (tVar 1) (tPart (tVar 3)) (tPart (tOp kAdd (tVar 3) (tVar 2)))) [3]) "days")
theorem dv_Choice_put_days (T : Txt K mg d) {cdv : Value} {A : Around} {outer : List Env} {s : Shared} {H : Hp} {E : XK} (hr : Room 0 (A.deeper (envOfC "Choice.put_days" (defScope s_Choice_put_days) s.heap.objs.size d.f_Choice_put_days cdv))) :
    PSs (cxOf CX0 P w K mg base N_Choice_put_days "Choice.put_days" (defScope s_Choice_put_days) d.f_Choice_put_days cdv A outer s H E).nox (defBody s_Choice_put_days) (t_Choice_put_days K d) :=
  pss_cons (ps_set (i := 2) sc_Choice_put_days.nd rfl (by first | exact Or.inl rfl | exact Or.inr rfl) (by exact pe_callB call_len_seq (by rfl) T.G.b_len PySem.boot_len (pa_cons (pe_fld (pe_fld (pv 0) rfl) rfl) (pa_nil))))
    (pss_one (ps_fld (pv 0) (pe_lc (own := [("place", 3)]) (g := gName 3) (tt := tYes) rfl sc_Choice_put_days.nd (pi_range3 (by rfl) T.G.b_range (pa_cons (pe_int) (pa_cons (pe_callB call_len_seq (by rfl) T.G.b_len PySem.boot_len (pa_cons (pv 1) (pa_nil))) (pa_cons (pv 2) (pa_nil))))) (blkOk_by (own := [("place", 3)]) (N := N_Choice_put_days) (sc := defScope s_Choice_put_days) (by decide +kernel)) (fun _ _ _ _ _ => pg_name (i := 3) sc_Choice_put_days.nd rfl (by first | exact Or.inl rfl | exact Or.inr rfl)) (fun _ _ _ _ _ => pts_nil) (fun _ _ _ _ _ => pe_slice sl_list (pv 1) (po_some (pv 3)) (po_some (pe_op op_add (pv 3) (pv 2))))) rfl))
/-- Choice.count_sets: slots self -/
def t_Choice_count_sets (K : PySem.W.Frag) (d : Ad) : TS :=
  tRet (tOp kShl (tC (.int 1)) (tCB (Evl.rLenS K) (tCons (tFld K (tVar 0) "candidates") (tNil))))
theorem dv_Choice_count_sets (T : Txt K mg d) {cdv : Value} {A : Around} {outer : List Env} {s : Shared} {H : Hp} {E : XK} (hr : Room 0 (A.deeper (envOfC "Choice.count_sets" (defScope s_Choice_count_sets) s.heap.objs.size d.f_Choice_count_sets cdv))) :
    PSs (cxOf CX0 P w K mg base N_Choice_count_sets "Choice.count_sets" (defScope s_Choice_count_sets) d.f_Choice_count_sets cdv A outer s H E).nox (defBody s_Choice_count_sets) (t_Choice_count_sets K d) :=
  pss_one (ps_ret (pe_op op_shl (pe_int) (pe_callB call_len_seq (by rfl) T.G.b_len PySem.boot_len (pa_cons (pe_fld (pv 0) rfl) (pa_nil)))))
/-- Choice.room: slots self, number, place, size -/
def t_Choice_room (K : PySem.W.Frag) (d : Ad) : TS :=
  tRet (tCB (rSum K) (tCons (tLc (iEnum K (tCons (tFld K (tVar 0) "sizes") (tNil))) (gTup K 2 (gCons (gName 2) (gCons (gName 3) (gNil)))) (tTest (tOp rEq (tOp kAnd (tOp kShr (tVar 1) (tVar 2)) (tC (.int 1))) (tC (.int 1)))) (tVar 3) [2, 3]) (tNil)))
theorem dv_Choice_room (T : Txt K mg d) {cdv : Value} {A : Around} {outer : List Env} {s : Shared} {H : Hp} {E : XK} (hr : Room 0 (A.deeper (envOfC "Choice.room" (defScope s_Choice_room) s.heap.objs.size d.f_Choice_room cdv))) :
    PSs (cxOf CX0 P w K mg base N_Choice_room "Choice.room" (defScope s_Choice_room) d.f_Choice_room cdv A outer s H E).nox (defBody s_Choice_room) (t_Choice_room K d) :=
  pss_one (ps_ret (pe_callB (cr_sum rfl) (by rfl) T.G.b_sum (by decide +kernel) (pa_cons (pe_lc (own := [("place", 2), ("size", 3)]) (g := gTup K 2 (gCons (gName 2) (gCons (gName 3) (gNil)))) (tt := tTest (tOp rEq (tOp kAnd (tOp kShr (tVar 1) (tVar 2)) (tC (.int 1))) (tC (.int 1)))) rfl sc_Choice_room.nd (pi_enum (by rfl) T.G.b_enumerate (pa_cons (pe_fld (pv 0) rfl) (pa_nil))) (blkOk_by (own := [("place", 2), ("size", 3)]) (N := N_Choice_room) (sc := defScope s_Choice_room) (by decide +kernel)) (fun _ _ _ _ _ => pg_tup rfl (pgs_cons (pg_name (i := 2) sc_Choice_room.nd rfl (by first | exact Or.inl rfl | exact Or.inr rfl)) (pgs_cons (pg_name (i := 3) sc_Choice_room.nd rfl (by first | exact Or.inl rfl | exact Or.inr rfl)) (pgs_nil)))) (fun _ _ _ _ _ => pts_one (pt_cmpR op_eq (pe_op op_and (pe_op op_shr (pv 1) (pv 2)) (pe_int)) (pe_int) (nomark _))) (fun _ _ _ _ _ => pv 3)) (pa_nil))))
/-- Choice.fitting: slots self, room, number -/
def t_Choice_fitting (K : PySem.W.Frag) (d : Ad) (sp_Choice_count_sets sp_Choice_room : Sp) : TS :=
  tRet (tLc (iRng1 (tCons (tMeth d.cChoice "count_sets" sp_Choice_count_sets [] E0 (tVar 0) tNil) (tNil))) (gName 2) (tTest (tOp kLe (tMeth d.cChoice "room" sp_Choice_room [] E0 (tVar 0) (tCons (tVar 2) (tNil))) (tVar 1))) (tVar 2) [2])
theorem dv_Choice_fitting (T : Txt K mg d) {sp_Choice_count_sets sp_Choice_room : Sp} (G_Choice_count_sets : FnOk P w K mg base CX0 1 d.f_Choice_count_sets d.fd_Choice_count_sets P_Choice_count_sets sp_Choice_count_sets) (G_Choice_room : FnOk P w K mg base CX0 1 d.f_Choice_room d.fd_Choice_room P_Choice_room sp_Choice_room) {cdv : Value} {A : Around} {outer : List Env} {s : Shared} {H : Hp} {E : XK} (hr : Room 1 (A.deeper (envOfC "Choice.fitting" (defScope s_Choice_fitting) s.heap.objs.size d.f_Choice_fitting cdv))) :
    PSs (cxOf CX0 P w K mg base N_Choice_fitting "Choice.fitting" (defScope s_Choice_fitting) d.f_Choice_fitting cdv A outer s H E).nox (defBody s_Choice_fitting) (t_Choice_fitting K d sp_Choice_count_sets sp_Choice_room) :=
  pss_one (ps_ret (pe_lc (own := [("number", 2)]) (g := gName 2) (tt := tTest (tOp kLe (tMeth d.cChoice "room" sp_Choice_room [] E0 (tVar 0) (tCons (tVar 2) (tNil))) (tVar 1))) rfl sc_Choice_fitting.nd (pi_range1 (by rfl) T.G.b_range (pa_cons (pe_meth0 (pv 0) T.C.cl_Choice T.C.me_Choice_count_sets G_Choice_count_sets (hr.mono (by decide)) (bd_Choice_count_sets T) .nil pass0) (pa_nil))) (blkOk_by (own := [("number", 2)]) (N := N_Choice_fitting) (sc := defScope s_Choice_fitting) (by decide +kernel)) (fun _ _ _ _ _ => pg_name (i := 2) sc_Choice_fitting.nd rfl (by first | exact Or.inl rfl | exact Or.inr rfl)) (fun _ _ _ _ _ => pts_one (pt_cmpR op_le (pe_meth (pv 0) T.C.cl_Choice T.C.me_Choice_room G_Choice_room (hr.mono (by decide)) (bd_Choice_room T) .nil pass0 (by exact pa_cons (pv 2) (pa_nil))) (pv 1) (nomark _))) (fun _ _ _ _ _ => pv 2)))
/-- Choice.cost: slots self, grouping, number, some, place, candidate -/
def t_Choice_cost (K : PySem.W.Frag) (d : Ad) : TS :=
  tSeq (tAsg (tLst (tNil)) (gName 3))
    (tSeq (tFor (iEnum K (tCons (tFld K (tVar 0) "candidates") (tNil))) (gTup K 2 (gCons (gName 4) (gCons (gName 5) (gNil)))) (tIfS (tAnd (tTest (tOp rEq (tOp kAnd (tOp kShr (tVar 2) (tVar 4)) (tC (.int 1))) (tC (.int 1)))) (tTest (tOp rEq (tOp kAnd (tVar 1) (tVar 5)) (tVar 1)))) (tDrop (tBM K "list" rAppend (tVar 3) (tCons (tOp (rIxL K) (tFld K (tVar 0) "sizes") (tVar 4)) (tNil)))) (tNext)))
    (tRet (tCKw (rMinD K) (tCons (tVar 3) (tNil)) (tCons (tCB (Evl.rLenS K) (tCons (tFld K (tFld K (tVar 0) "table") "rows") (tNil))) tNil))))
theorem dv_Choice_cost (T : Txt K mg d) {cdv : Value} {A : Around} {outer : List Env} {s : Shared} {H : Hp} {E : XK} (hr : Room 0 (A.deeper (envOfC "Choice.cost" (defScope s_Choice_cost) s.heap.objs.size d.f_Choice_cost cdv))) :
    PSs (cxOf CX0 P w K mg base N_Choice_cost "Choice.cost" (defScope s_Choice_cost) d.f_Choice_cost cdv A outer s H E).nox (defBody s_Choice_cost) (t_Choice_cost K d) :=
  pss_cons (ps_set (i := 3) sc_Choice_cost.nd rfl (by first | exact Or.inl rfl | exact Or.inr rfl) (by exact pe_lst (pa_nil)))
    (pss_cons (ps_for PassesOwn.never rfl (pi_enum (by rfl) T.G.b_enumerate (pa_cons (pe_fld (pv 0) rfl) (pa_nil))) (pg_tup rfl (pgs_cons (pg_name (i := 4) sc_Choice_cost.nd rfl (by first | exact Or.inl rfl | exact Or.inr rfl)) (pgs_cons (pg_name (i := 5) sc_Choice_cost.nd rfl (by first | exact Or.inl rfl | exact Or.inr rfl)) (pgs_nil)))) (pss_one (ps_if (PW.pt (pw_and (pt_cmpR op_eq (pe_op op_and (pe_op op_shr (pv 2) (pv 4)) (pe_int)) (pe_int) (nomark _)) (pw_and1 (pt_cmpR op_eq (pe_op op_and (pv 1) (pv 5)) (pv 1) (nomark _))))) (pss_one (ps_expr (pe_bm PySem.F.plainAttrs_list PySem.F.slot_list_append PySem.F.type_list_append mt_append (pv 3) (pa_cons (pe_ix ix_list (pe_fld (pv 0) rfl) (pv 4) (fun _ _ => rfl)) (pa_nil))))) (pss_nil))))
    (pss_one (ps_ret (pe_callBK (cr_minD hr rfl) (by rfl) T.G.b_min (by decide +kernel) (pa_cons (pv 3) (pa_nil)) (pk_cons (pe_callB call_len_seq (by rfl) T.G.b_len PySem.boot_len (pa_cons (pe_fld (pe_fld (pv 0) rfl) rfl) (pa_nil))) pk_nil)))))
/-- Choice.going: slots self, old, new, found, place, candidate -/
def t_Choice_going (K : PySem.W.Frag) (d : Ad) (sp_Choice_cost : Sp) : TS :=
  tSeq (tAsg (tC (.int 0)) (gName 3))
    (tSeq (tFor (iEnum K (tCons (tFld K (tVar 0) "candidates") (tNil))) (gTup K 2 (gCons (gName 4) (gCons (gName 5) (gNil)))) (tIfS (tAnd (tTest (tOp rEq (tOp kAnd (tOp kShr (tVar 2) (tVar 4)) (tC (.int 1))) (tC (.int 1)))) (tTest (tOp rEq (tOp kAnd (tOp kShr (tVar 1) (tVar 4)) (tC (.int 1))) (tC (.int 0))))) (tAug 3 (tMeth d.cChoice "cost" sp_Choice_cost [] E0 (tVar 0) (tCons (tVar 5) (tCons (tVar 1) (tNil)))) (ipI fun i j => i + j)) (tNext)))
    (tRet (tVar 3)))
theorem dv_Choice_going (T : Txt K mg d) {sp_Choice_cost : Sp} (G_Choice_cost : FnOk P w K mg base CX0 1 d.f_Choice_cost d.fd_Choice_cost P_Choice_cost sp_Choice_cost) {cdv : Value} {A : Around} {outer : List Env} {s : Shared} {H : Hp} {E : XK} (hr : Room 1 (A.deeper (envOfC "Choice.going" (defScope s_Choice_going) s.heap.objs.size d.f_Choice_going cdv))) :
    PSs (cxOf CX0 P w K mg base N_Choice_going "Choice.going" (defScope s_Choice_going) d.f_Choice_going cdv A outer s H E).nox (defBody s_Choice_going) (t_Choice_going K d sp_Choice_cost) :=
  pss_cons (ps_set (i := 3) sc_Choice_going.nd rfl (by first | exact Or.inl rfl | exact Or.inr rfl) (by exact pe_int))
    (pss_cons (ps_for PassesOwn.never rfl (pi_enum (by rfl) T.G.b_enumerate (pa_cons (pe_fld (pv 0) rfl) (pa_nil))) (pg_tup rfl (pgs_cons (pg_name (i := 4) sc_Choice_going.nd rfl (by first | exact Or.inl rfl | exact Or.inr rfl)) (pgs_cons (pg_name (i := 5) sc_Choice_going.nd rfl (by first | exact Or.inl rfl | exact Or.inr rfl)) (pgs_nil)))) (pss_one (ps_if (PW.pt (pw_and (pt_cmpR op_eq (pe_op op_and (pe_op op_shr (pv 2) (pv 4)) (pe_int)) (pe_int) (nomark _)) (pw_and1 (pt_cmpR op_eq (pe_op op_and (pe_op op_shr (pv 1) (pv 4)) (pe_int)) (pe_int) (nomark _))))) (pss_one (ps_aug (i := 3) sc_Choice_going.nd rfl (by first | exact Or.inl rfl | exact Or.inr rfl) (pe_meth (pv 0) T.C.cl_Choice T.C.me_Choice_cost G_Choice_cost (hr.mono (by decide)) (bd_Choice_cost T) .nil pass0 (by exact pa_cons (pv 5) (pa_cons (pv 1) (pa_nil)))) ip_add)) (pss_nil))))
    (pss_one (ps_ret (pv 3))))
/-- Choice.day_cost: slots self, times, number, found, question, often -/
def t_Choice_day_cost (K : PySem.W.Frag) (d : Ad) (sp_Choice_cost : Sp) : TS :=
  tSeq (tAsg (tC (.int 0)) (gName 3))
    (tSeq (tFor (iZip K (tCons (tFld K (tFld K (tVar 0) "table") "questions") (tCons (tVar 1) (tNil)))) (gTup K 2 (gCons (gName 4) (gCons (gName 5) (gNil)))) (tAug 3 (tOp kMul (tVar 5) (tMeth d.cChoice "cost" sp_Choice_cost [] E0 (tVar 0) (tCons (tFld K (tVar 4) "grouping") (tCons (tVar 2) (tNil))))) (ipI fun i j => i + j)))
    (tRet (tVar 3)))
theorem dv_Choice_day_cost (T : Txt K mg d) {sp_Choice_cost : Sp} (G_Choice_cost : FnOk P w K mg base CX0 1 d.f_Choice_cost d.fd_Choice_cost P_Choice_cost sp_Choice_cost) {cdv : Value} {A : Around} {outer : List Env} {s : Shared} {H : Hp} {E : XK} (hr : Room 1 (A.deeper (envOfC "Choice.day_cost" (defScope s_Choice_day_cost) s.heap.objs.size d.f_Choice_day_cost cdv))) :
    PSs (cxOf CX0 P w K mg base N_Choice_day_cost "Choice.day_cost" (defScope s_Choice_day_cost) d.f_Choice_day_cost cdv A outer s H E).nox (defBody s_Choice_day_cost) (t_Choice_day_cost K d sp_Choice_cost) :=
  pss_cons (ps_set (i := 3) sc_Choice_day_cost.nd rfl (by first | exact Or.inl rfl | exact Or.inr rfl) (by exact pe_int))
    (pss_cons (ps_for PassesOwn.never rfl (pi_zip (by rfl) T.G.b_zip (pa_cons (pe_fld (pe_fld (pv 0) rfl) rfl) (pa_cons (pv 1) (pa_nil)))) (pg_tup rfl (pgs_cons (pg_name (i := 4) sc_Choice_day_cost.nd rfl (by first | exact Or.inl rfl | exact Or.inr rfl)) (pgs_cons (pg_name (i := 5) sc_Choice_day_cost.nd rfl (by first | exact Or.inl rfl | exact Or.inr rfl)) (pgs_nil)))) (pss_one (ps_aug (i := 3) sc_Choice_day_cost.nd rfl (by first | exact Or.inl rfl | exact Or.inr rfl) (pe_op op_mul (pv 5) (pe_meth (pv 0) T.C.cl_Choice T.C.me_Choice_cost G_Choice_cost (hr.mono (by decide)) (bd_Choice_cost T) .nil pass0 (by exact pa_cons (pe_fld (pv 4) rfl) (pa_cons (pv 2) (pa_nil))))) ip_add)))
    (pss_one (ps_ret (pv 3))))
/-- Choice.plan_cost: slots self, sets, found, before, number, times -/
def t_Choice_plan_cost (K : PySem.W.Frag) (d : Ad) (sp_Choice_going sp_Choice_day_cost : Sp) : TS :=
  tSeq (tAsg (tC (.int 0)) (gName 2))
    (tSeq (tAsg (tC (.int 0)) (gName 3))
    (tSeq (tFor (iZip K (tCons (tVar 1) (tCons (tFld K (tVar 0) "days") (tNil)))) (gTup K 2 (gCons (gName 4) (gCons (gName 5) (gNil)))) (tSeq (tAug 2 (tOp kAdd (tMeth d.cChoice "going" sp_Choice_going [] E0 (tVar 0) (tCons (tVar 3) (tCons (tVar 4) (tNil)))) (tMeth d.cChoice "day_cost" sp_Choice_day_cost [] E0 (tVar 0) (tCons (tVar 5) (tCons (tVar 4) (tNil))))) (ipI fun i j => i + j))
    (tAsg (tVar 4) (gName 3))))
    (tRet (tVar 2))))
theorem dv_Choice_plan_cost (T : Txt K mg d) {sp_Choice_going sp_Choice_day_cost : Sp} (G_Choice_going : FnOk P w K mg base CX0 2 d.f_Choice_going d.fd_Choice_going P_Choice_going sp_Choice_going) (G_Choice_day_cost : FnOk P w K mg base CX0 2 d.f_Choice_day_cost d.fd_Choice_day_cost P_Choice_day_cost sp_Choice_day_cost) {cdv : Value} {A : Around} {outer : List Env} {s : Shared} {H : Hp} {E : XK} (hr : Room 2 (A.deeper (envOfC "Choice.plan_cost" (defScope s_Choice_plan_cost) s.heap.objs.size d.f_Choice_plan_cost cdv))) :
    PSs (cxOf CX0 P w K mg base N_Choice_plan_cost "Choice.plan_cost" (defScope s_Choice_plan_cost) d.f_Choice_plan_cost cdv A outer s H E).nox (defBody s_Choice_plan_cost) (t_Choice_plan_cost K d sp_Choice_going sp_Choice_day_cost) :=
  pss_cons (ps_set (i := 2) sc_Choice_plan_cost.nd rfl (by first | exact Or.inl rfl | exact Or.inr rfl) (by exact pe_int))
    (pss_cons (ps_set (i := 3) sc_Choice_plan_cost.nd rfl (by first | exact Or.inl rfl | exact Or.inr rfl) (by exact pe_int))
    (pss_cons (ps_for PassesOwn.never rfl (pi_zip (by rfl) T.G.b_zip (pa_cons (pv 1) (pa_cons (pe_fld (pv 0) rfl) (pa_nil)))) (pg_tup rfl (pgs_cons (pg_name (i := 4) sc_Choice_plan_cost.nd rfl (by first | exact Or.inl rfl | exact Or.inr rfl)) (pgs_cons (pg_name (i := 5) sc_Choice_plan_cost.nd rfl (by first | exact Or.inl rfl | exact Or.inr rfl)) (pgs_nil)))) (pss_cons (ps_aug (i := 2) sc_Choice_plan_cost.nd rfl (by first | exact Or.inl rfl | exact Or.inr rfl) (pe_op op_add (pe_meth (pv 0) T.C.cl_Choice T.C.me_Choice_going G_Choice_going (hr.mono (by decide)) (bd_Choice_going T) .nil pass0 (by exact pa_cons (pv 3) (pa_cons (pv 4) (pa_nil)))) (pe_meth (pv 0) T.C.cl_Choice T.C.me_Choice_day_cost G_Choice_day_cost (hr.mono (by decide)) (bd_Choice_day_cost T) .nil pass0 (by exact pa_cons (pv 5) (pa_cons (pv 4) (pa_nil))))) ip_add)
    (pss_one (ps_set (i := 3) sc_Choice_plan_cost.nd rfl (by first | exact Or.inl rfl | exact Or.inr rfl) (by exact pv 4)))))
    (pss_one (ps_ret (pv 2)))))
/-- Choice.rests: slots self, some, found, number, times, own, row, before -/
def t_Choice_rests (K : PySem.W.Frag) (d : Ad) (sp_Choice_day_cost sp_Choice_going : Sp) : TS :=
  tSeq (tAsg (tLst (tCons (tCB (rDictP K) (tCons (tLc (iList K (tOp rCat (tLst (tCons (tC (.int 0)) (tNil))) (tVar 1))) (gName 3) (tYes) (tTup (tCons (tVar 3) (tCons (tC (.int 0)) (tNil)))) [3]) (tNil))) (tNil))) (gName 2))
    (tSeq (tFor (iList K (tRevL K (tFld K (tVar 0) "days"))) (gName 4) (tSeq (tAsg (tCB (rDictP K) (tCons (tLc (iList K (tVar 1)) (gName 3) (tYes) (tTup (tCons (tVar 3) (tCons (tMeth d.cChoice "day_cost" sp_Choice_day_cost [] E0 (tVar 0) (tCons (tVar 4) (tCons (tVar 3) (tNil)))) (tNil)))) [3]) (tNil))) (gName 5))
    (tSeq (tAsg (tDNewK) (gName 6))
    (tSeq (tFor (iList K (tOp rCat (tLst (tCons (tC (.int 0)) (tNil))) (tVar 1))) (gName 7) (sDPut (tVar 6) (tVar 7) (tCB (rMin K) (tCons (tLc (iList K (tVar 1)) (gName 3) (tYes) (tOp kAdd (tOp kAdd (tMeth d.cChoice "going" sp_Choice_going [] E0 (tVar 0) (tCons (tVar 7) (tCons (tVar 3) (tNil)))) (tDGet (tVar 5) (tVar 3))) (tDGet (tOp (rIxL K) (tVar 2) (tC (.int 0))) (tVar 3))) [3]) (tNil)))))
    (tAsg (tOp rCat (tLst (tCons (tVar 6) (tNil))) (tVar 2)) (gName 2))))))
    (tRet (tVar 2)))
theorem dv_Choice_rests (T : Txt K mg d) {sp_Choice_day_cost sp_Choice_going : Sp} (G_Choice_day_cost : FnOk P w K mg base CX0 2 d.f_Choice_day_cost d.fd_Choice_day_cost P_Choice_day_cost sp_Choice_day_cost) (G_Choice_going : FnOk P w K mg base CX0 2 d.f_Choice_going d.fd_Choice_going P_Choice_going sp_Choice_going) {cdv : Value} {A : Around} {outer : List Env} {s : Shared} {H : Hp} {E : XK} (hr : Room 2 (A.deeper (envOfC "Choice.rests" (defScope s_Choice_rests) s.heap.objs.size d.f_Choice_rests cdv))) :
    PSs (cxOf CX0 P w K mg base N_Choice_rests "Choice.rests" (defScope s_Choice_rests) d.f_Choice_rests cdv A outer s H E).nox (defBody s_Choice_rests) (t_Choice_rests K d sp_Choice_day_cost sp_Choice_going) :=
  pss_cons (ps_set (i := 2) sc_Choice_rests.nd rfl (by first | exact Or.inl rfl | exact Or.inr rfl) (by exact pe_lst (pa_cons (pe_callTy (call_dictP rfl) (by rfl) T.G.b_dict (by decide +kernel) (pa_cons (pe_lc (own := [("number", 3)]) (g := gName 3) (tt := tYes) rfl sc_Choice_rests.nd (pi_list (pe_op op_cat (pe_lst (pa_cons (pe_int) (pa_nil))) (pv 1))) (blkOk_by (own := [("number", 3)]) (N := N_Choice_rests) (sc := defScope s_Choice_rests) (by decide +kernel)) (fun _ _ _ _ _ => pg_name (i := 3) sc_Choice_rests.nd rfl (by first | exact Or.inl rfl | exact Or.inr rfl)) (fun _ _ _ _ _ => pts_nil) (fun _ _ _ _ _ => pe_tup (pa_cons (pv 3) (pa_cons (pe_int) (pa_nil))))) (pa_nil))) (pa_nil))))
    (pss_cons (ps_for PassesOwn.never rfl (pi_list (pe_revL (pe_fld (pv 0) rfl))) (pg_name (i := 4) sc_Choice_rests.nd rfl (by first | exact Or.inl rfl | exact Or.inr rfl)) (pss_cons (ps_set (i := 5) sc_Choice_rests.nd rfl (by first | exact Or.inl rfl | exact Or.inr rfl) (by exact pe_callTy (call_dictP rfl) (by rfl) T.G.b_dict (by decide +kernel) (pa_cons (pe_lc (own := [("number", 3)]) (g := gName 3) (tt := tYes) rfl sc_Choice_rests.nd (pi_list (pv 1)) (blkOk_by (own := [("number", 3)]) (N := N_Choice_rests) (sc := defScope s_Choice_rests) (by decide +kernel)) (fun _ _ _ _ _ => pg_name (i := 3) sc_Choice_rests.nd rfl (by first | exact Or.inl rfl | exact Or.inr rfl)) (fun _ _ _ _ _ => pts_nil) (fun _ _ _ _ _ => pe_tup (pa_cons (pv 3) (pa_cons (pe_meth (pv 0) T.C.cl_Choice T.C.me_Choice_day_cost G_Choice_day_cost (hr.mono (by decide)) (bd_Choice_day_cost T) .nil pass0 (by exact pa_cons (pv 4) (pa_cons (pv 3) (pa_nil)))) (pa_nil))))) (pa_nil))))
    (pss_cons (ps_set (i := 6) sc_Choice_rests.nd rfl (by first | exact Or.inl rfl | exact Or.inr rfl) (by exact pe_dnewK))
    (pss_cons (ps_for PassesOwn.never rfl (pi_list (pe_op op_cat (pe_lst (pa_cons (pe_int) (pa_nil))) (pv 1))) (pg_name (i := 7) sc_Choice_rests.nd rfl (by first | exact Or.inl rfl | exact Or.inr rfl)) (pss_one (ps_dput (hu_of hr) (pv 6) (pv 7) (pe_callB (cr_min rfl) (by rfl) T.G.b_min (by decide +kernel) (pa_cons (pe_lc (own := [("number", 3)]) (g := gName 3) (tt := tYes) rfl sc_Choice_rests.nd (pi_list (pv 1)) (blkOk_by (own := [("number", 3)]) (N := N_Choice_rests) (sc := defScope s_Choice_rests) (by decide +kernel)) (fun _ _ _ _ _ => pg_name (i := 3) sc_Choice_rests.nd rfl (by first | exact Or.inl rfl | exact Or.inr rfl)) (fun _ _ _ _ _ => pts_nil) (fun _ _ _ _ _ => pe_op op_add (pe_op op_add (pe_meth (pv 0) T.C.cl_Choice T.C.me_Choice_going G_Choice_going (hr.mono (by decide)) (bd_Choice_going T) .nil pass0 (by exact pa_cons (pv 7) (pa_cons (pv 3) (pa_nil)))) (pe_dget (hu_of hr) (pv 5) (pv 3) (fun _ _ => rfl))) (pe_dget (hu_of hr) (pe_ix ix_list (pv 2) (pe_int) (fun _ _ => rfl)) (pv 3) (fun _ _ => rfl)))) (pa_nil))) rfl)))
    (pss_one (ps_set (i := 2) sc_Choice_rests.nd rfl (by first | exact Or.inl rfl | exact Or.inr rfl) (by exact pe_op op_cat (pe_lst (pa_cons (pv 6) (pa_nil))) (pv 2))))))))
    (pss_one (ps_ret (pv 2))))
/-- Choice.best: slots self, room, some, rests, sets, before, day, times, costs, number -/
def t_Choice_best (K : PySem.W.Frag) (d : Ad) (sp_Choice_fitting sp_Choice_rests sp_Choice_going sp_Choice_day_cost : Sp) : TS :=
  tSeq (tAsg (tMeth d.cChoice "fitting" sp_Choice_fitting [] E0 (tVar 0) (tCons (tVar 1) (tNil))) (gName 2))
    (tSeq (tAsg (tMeth d.cChoice "rests" sp_Choice_rests [] E0 (tVar 0) (tCons (tVar 2) (tNil))) (gName 3))
    (tSeq (tAsg (tLst (tNil)) (gName 4))
    (tSeq (tAsg (tC (.int 0)) (gName 5))
    (tSeq (tFor (iEnum K (tCons (tFld K (tVar 0) "days") (tNil))) (gTup K 2 (gCons (gName 6) (gCons (gName 7) (gNil)))) (tSeq (tAsg (tLst (tNil)) (gName 8))
    (tSeq (tFor (iList K (tVar 2)) (gName 9) (tDrop (tBM K "list" rAppend (tVar 8) (tCons (tOp kAdd (tOp kAdd (tMeth d.cChoice "going" sp_Choice_going [] E0 (tVar 0) (tCons (tVar 5) (tCons (tVar 9) (tNil)))) (tMeth d.cChoice "day_cost" sp_Choice_day_cost [] E0 (tVar 0) (tCons (tVar 7) (tCons (tVar 9) (tNil))))) (tDGet (tOp (rIxL K) (tVar 3) (tOp kAdd (tVar 6) (tC (.int 1)))) (tVar 9))) (tNil)))))
    (tSeq (tAsg (tOp (rIxL K) (tVar 2) (tBM K "list" (rIndex K) (tVar 8) (tCons (tCB (rMin K) (tCons (tVar 8) (tNil))) (tNil)))) (gName 5))
    (tDrop (tBM K "list" rAppend (tVar 4) (tCons (tVar 5) (tNil))))))))
    (tRet (tOp rCat (tLst (tCons (tDGet (tOp (rIxL K) (tVar 3) (tC (.int 0))) (tC (.int 0))) (tNil))) (tVar 4)))))))
theorem dv_Choice_best (T : Txt K mg d) {sp_Choice_fitting sp_Choice_rests sp_Choice_going sp_Choice_day_cost : Sp} (G_Choice_fitting : FnOk P w K mg base CX0 2 d.f_Choice_fitting d.fd_Choice_fitting P_Choice_fitting sp_Choice_fitting) (G_Choice_rests : FnOk P w K mg base CX0 3 d.f_Choice_rests d.fd_Choice_rests P_Choice_rests sp_Choice_rests) (G_Choice_going : FnOk P w K mg base CX0 2 d.f_Choice_going d.fd_Choice_going P_Choice_going sp_Choice_going) (G_Choice_day_cost : FnOk P w K mg base CX0 2 d.f_Choice_day_cost d.fd_Choice_day_cost P_Choice_day_cost sp_Choice_day_cost) {cdv : Value} {A : Around} {outer : List Env} {s : Shared} {H : Hp} {E : XK} (hr : Room 3 (A.deeper (envOfC "Choice.best" (defScope s_Choice_best) s.heap.objs.size d.f_Choice_best cdv))) :
    PSs (cxOf CX0 P w K mg base N_Choice_best "Choice.best" (defScope s_Choice_best) d.f_Choice_best cdv A outer s H E).nox (defBody s_Choice_best) (t_Choice_best K d sp_Choice_fitting sp_Choice_rests sp_Choice_going sp_Choice_day_cost) :=
  pss_cons (ps_set (i := 2) sc_Choice_best.nd rfl (by first | exact Or.inl rfl | exact Or.inr rfl) (by exact pe_meth (pv 0) T.C.cl_Choice T.C.me_Choice_fitting G_Choice_fitting (hr.mono (by decide)) (bd_Choice_fitting T) .nil pass0 (by exact pa_cons (pv 1) (pa_nil))))
    (pss_cons (ps_set (i := 3) sc_Choice_best.nd rfl (by first | exact Or.inl rfl | exact Or.inr rfl) (by exact pe_meth (pv 0) T.C.cl_Choice T.C.me_Choice_rests G_Choice_rests (hr.mono (by decide)) (bd_Choice_rests T) .nil pass0 (by exact pa_cons (pv 2) (pa_nil))))
    (pss_cons (ps_set (i := 4) sc_Choice_best.nd rfl (by first | exact Or.inl rfl | exact Or.inr rfl) (by exact pe_lst (pa_nil)))
    (pss_cons (ps_set (i := 5) sc_Choice_best.nd rfl (by first | exact Or.inl rfl | exact Or.inr rfl) (by exact pe_int))
    (pss_cons (ps_for PassesOwn.never rfl (pi_enum (by rfl) T.G.b_enumerate (pa_cons (pe_fld (pv 0) rfl) (pa_nil))) (pg_tup rfl (pgs_cons (pg_name (i := 6) sc_Choice_best.nd rfl (by first | exact Or.inl rfl | exact Or.inr rfl)) (pgs_cons (pg_name (i := 7) sc_Choice_best.nd rfl (by first | exact Or.inl rfl | exact Or.inr rfl)) (pgs_nil)))) (pss_cons (ps_set (i := 8) sc_Choice_best.nd rfl (by first | exact Or.inl rfl | exact Or.inr rfl) (by exact pe_lst (pa_nil)))
    (pss_cons (ps_for PassesOwn.never rfl (pi_list (pv 2)) (pg_name (i := 9) sc_Choice_best.nd rfl (by first | exact Or.inl rfl | exact Or.inr rfl)) (pss_one (ps_expr (pe_bm PySem.F.plainAttrs_list PySem.F.slot_list_append PySem.F.type_list_append mt_append (pv 8) (pa_cons (pe_op op_add (pe_op op_add (pe_meth (pv 0) T.C.cl_Choice T.C.me_Choice_going G_Choice_going (hr.mono (by decide)) (bd_Choice_going T) .nil pass0 (by exact pa_cons (pv 5) (pa_cons (pv 9) (pa_nil)))) (pe_meth (pv 0) T.C.cl_Choice T.C.me_Choice_day_cost G_Choice_day_cost (hr.mono (by decide)) (bd_Choice_day_cost T) .nil pass0 (by exact pa_cons (pv 7) (pa_cons (pv 9) (pa_nil))))) (pe_dget (hu_of hr) (pe_ix ix_list (pv 3) (pe_op op_add (pv 6) (pe_int)) (fun _ _ => rfl)) (pv 9) (fun _ _ => rfl))) (pa_nil))))))
    (pss_cons (ps_set (i := 5) sc_Choice_best.nd rfl (by first | exact Or.inl rfl | exact Or.inr rfl) (by exact pe_ix ix_list (pv 2) (pe_bm PySem.F.plainAttrs_list PySem.F.slot_list_index PySem.F.type_list_index mt_index (pv 8) (pa_cons (pe_callB (cr_min rfl) (by rfl) T.G.b_min (by decide +kernel) (pa_cons (pv 8) (pa_nil))) (pa_nil))) (fun _ _ => rfl)))
    (pss_one (ps_expr (pe_bm PySem.F.plainAttrs_list PySem.F.slot_list_append PySem.F.type_list_append mt_append (pv 4) (pa_cons (pv 5) (pa_nil)))))))))
    (pss_one (ps_ret (pe_op op_cat (pe_lst (pa_cons (pe_dget (hu_of hr) (pe_ix ix_list (pv 3) (pe_int) (fun _ _ => rfl)) (pe_int) (fun _ _ => rfl)) (pa_nil))) (pv 4))))))))
/-- Choice.same_always: slots self, room, some, costs, number -/
def t_Choice_same_always (K : PySem.W.Frag) (d : Ad) (sp_Choice_fitting sp_Choice_plan_cost : Sp) : TS :=
  tSeq (tAsg (tMeth d.cChoice "fitting" sp_Choice_fitting [] E0 (tVar 0) (tCons (tVar 1) (tNil))) (gName 2))
    (tSeq (tAsg (tLc (iList K (tVar 2)) (gName 4) (tYes) (tMeth d.cChoice "plan_cost" sp_Choice_plan_cost [] E0 (tVar 0) (tCons (tOp rRep (tLst (tCons (tVar 4) (tNil))) (tCB (Evl.rLenS K) (tCons (tFld K (tVar 0) "days") (tNil)))) (tNil))) [4]) (gName 3))
    (tRet (tLst (tCons (tCB (rMin K) (tCons (tVar 3) (tNil))) (tCons (tOp (rIxL K) (tVar 2) (tBM K "list" (rIndex K) (tVar 3) (tCons (tCB (rMin K) (tCons (tVar 3) (tNil))) (tNil)))) (tNil))))))
theorem dv_Choice_same_always (T : Txt K mg d) {sp_Choice_fitting sp_Choice_plan_cost : Sp} (G_Choice_fitting : FnOk P w K mg base CX0 2 d.f_Choice_fitting d.fd_Choice_fitting P_Choice_fitting sp_Choice_fitting) (G_Choice_plan_cost : FnOk P w K mg base CX0 3 d.f_Choice_plan_cost d.fd_Choice_plan_cost P_Choice_plan_cost sp_Choice_plan_cost) {cdv : Value} {A : Around} {outer : List Env} {s : Shared} {H : Hp} {E : XK} (hr : Room 3 (A.deeper (envOfC "Choice.same_always" (defScope s_Choice_same_always) s.heap.objs.size d.f_Choice_same_always cdv))) :
    PSs (cxOf CX0 P w K mg base N_Choice_same_always "Choice.same_always" (defScope s_Choice_same_always) d.f_Choice_same_always cdv A outer s H E).nox (defBody s_Choice_same_always) (t_Choice_same_always K d sp_Choice_fitting sp_Choice_plan_cost) :=
  pss_cons (ps_set (i := 2) sc_Choice_same_always.nd rfl (by first | exact Or.inl rfl | exact Or.inr rfl) (by exact pe_meth (pv 0) T.C.cl_Choice T.C.me_Choice_fitting G_Choice_fitting (hr.mono (by decide)) (bd_Choice_fitting T) .nil pass0 (by exact pa_cons (pv 1) (pa_nil))))
    (pss_cons (ps_setLc (i := 3) (own := [("number", 4)]) (g := gName 4) (tt := tYes) rfl sc_Choice_same_always.nd rfl rfl (sw_true rfl rfl rfl (by decide +kernel)) (pi_list (pv 2)) (blkOk_by (own := [("number", 4)]) (N := N_Choice_same_always) (sc := defScope s_Choice_same_always) (by decide +kernel)) (fun _ _ _ _ _ => pg_name (i := 4) sc_Choice_same_always.nd rfl (by first | exact Or.inl rfl | exact Or.inr rfl)) (fun _ _ _ _ _ => pts_nil) (fun _ _ _ _ _ => pe_meth (pv 0) T.C.cl_Choice T.C.me_Choice_plan_cost G_Choice_plan_cost (hr.mono (by decide)) (bd_Choice_plan_cost T) .nil pass0 (by exact pa_cons (pe_op op_rep (pe_lst (pa_cons (pv 4) (pa_nil))) (pe_callB call_len_seq (by rfl) T.G.b_len PySem.boot_len (pa_cons (pe_fld (pv 0) rfl) (pa_nil)))) (pa_nil))))
    (pss_one (ps_ret (pe_lst (pa_cons (pe_callB (cr_min rfl) (by rfl) T.G.b_min (by decide +kernel) (pa_cons (pv 3) (pa_nil))) (pa_cons (pe_ix ix_list (pv 2) (pe_bm PySem.F.plainAttrs_list PySem.F.slot_list_index PySem.F.type_list_index mt_index (pv 3) (pa_cons (pe_callB (cr_min rfl) (by rfl) T.G.b_min (by decide +kernel) (pa_cons (pv 3) (pa_nil))) (pa_nil))) (fun _ _ => rfl)) (pa_nil)))))))
/-- greatest_divisor: slots one, other -/
def t_greatest_divisor (K : PySem.W.Frag) (d : Ad) : TS :=
  tSeq (tWhile (tTest (tOp rNe (tVar 1) (tC (.int 0)))) (tPar 0 1 (tCons (tVar 1) (tCons (tOp kMod (tVar 0) (tVar 1)) (tNil)))))
    (tRet (tVar 0))
theorem dv_greatest_divisor (T : Txt K mg d) {cdv : Value} {A : Around} {outer : List Env} {s : Shared} {H : Hp} {E : XK} (hr : Room 0 (A.deeper (envOfC "greatest_divisor" (defScope s_greatest_divisor) s.heap.objs.size d.f_greatest_divisor cdv))) :
    PSs (cxOf CX0 P w K mg base N_greatest_divisor "greatest_divisor" (defScope s_greatest_divisor) d.f_greatest_divisor cdv A outer s H E).nox (defBody s_greatest_divisor) (t_greatest_divisor K d) :=
  pss_cons (ps_while PassesOwn.never (pt_cmpR op_ne (pv 1) (pe_int) (nomark _)) (pss_one (ps_par (by rfl) sc_greatest_divisor.nd rfl rfl (by decide) rfl rfl (pa_cons (pv 1) (pa_cons (pe_op op_mod (pv 0) (pv 1)) (pa_nil))) (by rfl))))
    (pss_one (ps_ret (pv 0)))
/-- fraction: slots above, below, divisor -/
def t_fraction (K : PySem.W.Frag) (d : Ad) (sp_greatest_divisor : Sp) : TS :=
  tSeq (tAsg (tCall sp_greatest_divisor [] E0 (tCons (tVar 0) (tCons (tVar 1) (tNil)))) (gName 2))
    (tRet (tTup (tCons (tOp kDiv (tVar 0) (tVar 2)) (tCons (tOp kDiv (tVar 1) (tVar 2)) (tNil)))))
theorem dv_fraction (T : Txt K mg d) {sp_greatest_divisor : Sp} (G_greatest_divisor : FnOk P w K mg base CX0 1 d.f_greatest_divisor d.fd_greatest_divisor P_greatest_divisor sp_greatest_divisor) {cdv : Value} {A : Around} {outer : List Env} {s : Shared} {H : Hp} {E : XK} (hr : Room 1 (A.deeper (envOfC "fraction" (defScope s_fraction) s.heap.objs.size d.f_fraction cdv))) :
    PSs (cxOf CX0 P w K mg base N_fraction "fraction" (defScope s_fraction) d.f_fraction cdv A outer s H E).nox (defBody s_fraction) (t_fraction K d sp_greatest_divisor) :=
  pss_cons (ps_set (i := 2) sc_fraction.nd rfl (by first | exact Or.inl rfl | exact Or.inr rfl) (by exact pe_call G_greatest_divisor (hr.mono (by decide)) (by rfl) T.G.g_greatest_divisor T.F.F_greatest_divisor.kp (bd_greatest_divisor T) .nil pass0 (by exact pa_cons (pv 0) (pa_cons (pv 1) (pa_nil)))))
    (pss_one (ps_ret (pe_tup (pa_cons (pe_op op_fdiv (pv 0) (pv 2)) (pa_cons (pe_op op_fdiv (pv 1) (pv 2)) (pa_nil))))))
/-- Line.__init__: slots self, number, begin, slope -/
def t_Line_init (K : PySem.W.Frag) (d : Ad) : TS :=
  tSeq (sFld K (tVar 0) (tVar 1) "number")
    (tSeq (sFld K (tVar 0) (tVar 2) "begin")
    (sFld K (tVar 0) (tVar 3) "slope"))
theorem dv_Line_init (T : Txt K mg d) {cdv : Value} {A : Around} {outer : List Env} {s : Shared} {H : Hp} {E : XK} (hr : Room 0 (A.deeper (envOfC "Line.__init__" (defScope s_Line_init) s.heap.objs.size d.f_Line_init cdv))) :
    PSs (cxOf CX0 P w K mg base N_Line_init "Line.__init__" (defScope s_Line_init) d.f_Line_init cdv A outer s H E).nox (defBody s_Line_init) (t_Line_init K d) :=
  pss_cons (ps_fld (pv 0) (pv 1) rfl)
    (pss_cons (ps_fld (pv 0) (pv 2) rfl)
    (pss_one (ps_fld (pv 0) (pv 3) rfl)))
/-- Line.key_at: slots self, at -/
def t_Line_key_at (K : PySem.W.Frag) (d : Ad) : TS :=
  tRet (tTup (tCons (tOp kAdd (tOp kMul (tFld K (tVar 0) "begin") (tOp (rIxT K) (tVar 1) (tC (.int 1)))) (tOp kMul (tFld K (tVar 0) "slope") (tOp (rIxT K) (tVar 1) (tC (.int 0))))) (tCons (tFld K (tVar 0) "slope") (tCons (tFld K (tVar 0) "number") (tNil)))))
theorem dv_Line_key_at (T : Txt K mg d) {cdv : Value} {A : Around} {outer : List Env} {s : Shared} {H : Hp} {E : XK} (hr : Room 0 (A.deeper (envOfC "Line.key_at" (defScope s_Line_key_at) s.heap.objs.size d.f_Line_key_at cdv))) :
    PSs (cxOf CX0 P w K mg base N_Line_key_at "Line.key_at" (defScope s_Line_key_at) d.f_Line_key_at cdv A outer s H E).nox (defBody s_Line_key_at) (t_Line_key_at K d) :=
  pss_one (ps_ret (pe_tup (pa_cons (pe_op op_add (pe_op op_mul (pe_fld (pv 0) rfl) (pe_ix ix_tup (pv 1) (pe_int) (fun _ _ => rfl))) (pe_op op_mul (pe_fld (pv 0) rfl) (pe_ix ix_tup (pv 1) (pe_int) (fun _ _ => rfl)))) (pa_cons (pe_fld (pv 0) rfl) (pa_cons (pe_fld (pv 0) rfl) (pa_nil))))))
/-- lines_of: slots choice, room, asked, found, number, begin, place, question -/
def t_lines_of (K : PySem.W.Frag) (d : Ad) (sp_Choice_fitting sp_Choice_cost sp_Line_init : Sp) : TS :=
  tSeq (tAsg (tLst (tNil)) (gName 3))
    (tSeq (tFor (iList K (tMeth d.cChoice "fitting" sp_Choice_fitting [] E0 (tVar 0) (tCons (tVar 1) (tNil)))) (gName 4) (tSeq (tAsg (tC (.int 0)) (gName 5))
    (tSeq (tFor (iEnum K (tCons (tFld K (tFld K (tVar 0) "table") "questions") (tNil))) (gTup K 2 (gCons (gName 6) (gCons (gName 7) (gNil)))) (tIfS (tTest (tOp rNe (tVar 6) (tVar 2))) (tAug 5 (tOp kMul (tFld K (tVar 7) "often") (tMeth d.cChoice "cost" sp_Choice_cost [] E0 (tVar 0) (tCons (tFld K (tVar 7) "grouping") (tCons (tVar 4) (tNil))))) (ipI fun i j => i + j)) (tNext)))
    (tDrop (tBM K "list" rAppend (tVar 3) (tCons (tMake d.cLine sp_Line_init [] E0 (tCons (tVar 4) (tCons (tVar 5) (tCons (tMeth d.cChoice "cost" sp_Choice_cost [] E0 (tVar 0) (tCons (tFld K (tOp (rIxL K) (tFld K (tFld K (tVar 0) "table") "questions") (tVar 2)) "grouping") (tCons (tVar 4) (tNil)))) (tNil))))) (tNil)))))))
    (tRet (tVar 3)))
theorem dv_lines_of (T : Txt K mg d) {sp_Choice_fitting sp_Choice_cost sp_Line_init : Sp} (G_Choice_fitting : FnOk P w K mg base CX0 2 d.f_Choice_fitting d.fd_Choice_fitting P_Choice_fitting sp_Choice_fitting) (G_Choice_cost : FnOk P w K mg base CX0 1 d.f_Choice_cost d.fd_Choice_cost P_Choice_cost sp_Choice_cost) (G_Line_init : FnOk P w K mg base CX0 1 d.f_Line_init d.fd_Line_init P_Line_init sp_Line_init) {cdv : Value} {A : Around} {outer : List Env} {s : Shared} {H : Hp} {E : XK} (hr : Room 2 (A.deeper (envOfC "lines_of" (defScope s_lines_of) s.heap.objs.size d.f_lines_of cdv))) :
    PSs (cxOf CX0 P w K mg base N_lines_of "lines_of" (defScope s_lines_of) d.f_lines_of cdv A outer s H E).nox (defBody s_lines_of) (t_lines_of K d sp_Choice_fitting sp_Choice_cost sp_Line_init) :=
  pss_cons (ps_set (i := 3) sc_lines_of.nd rfl (by first | exact Or.inl rfl | exact Or.inr rfl) (by exact pe_lst (pa_nil)))
    (pss_cons (ps_for PassesOwn.never rfl (pi_list (pe_meth (pv 0) T.C.cl_Choice T.C.me_Choice_fitting G_Choice_fitting (hr.mono (by decide)) (bd_Choice_fitting T) .nil pass0 (by exact pa_cons (pv 1) (pa_nil)))) (pg_name (i := 4) sc_lines_of.nd rfl (by first | exact Or.inl rfl | exact Or.inr rfl)) (pss_cons (ps_set (i := 5) sc_lines_of.nd rfl (by first | exact Or.inl rfl | exact Or.inr rfl) (by exact pe_int))
    (pss_cons (ps_for PassesOwn.never rfl (pi_enum (by rfl) T.G.b_enumerate (pa_cons (pe_fld (pe_fld (pv 0) rfl) rfl) (pa_nil))) (pg_tup rfl (pgs_cons (pg_name (i := 6) sc_lines_of.nd rfl (by first | exact Or.inl rfl | exact Or.inr rfl)) (pgs_cons (pg_name (i := 7) sc_lines_of.nd rfl (by first | exact Or.inl rfl | exact Or.inr rfl)) (pgs_nil)))) (pss_one (ps_if (pt_cmpR op_ne (pv 6) (pv 2) (nomark _)) (pss_one (ps_aug (i := 5) sc_lines_of.nd rfl (by first | exact Or.inl rfl | exact Or.inr rfl) (pe_op op_mul (pe_fld (pv 7) rfl) (pe_meth (pv 0) T.C.cl_Choice T.C.me_Choice_cost G_Choice_cost (hr.mono (by decide)) (bd_Choice_cost T) .nil pass0 (by exact pa_cons (pe_fld (pv 7) rfl) (pa_cons (pv 4) (pa_nil))))) ip_add)) (pss_nil))))
    (pss_one (ps_expr (pe_bm PySem.F.plainAttrs_list PySem.F.slot_list_append PySem.F.type_list_append mt_append (pv 3) (pa_cons (pe_make T.C.mk_Line G_Line_init (hr.mono (by decide)) (by rfl) T.G.g_Line (bd_Line_init T) .nil pass0 (by exact pa_cons (pv 4) (pa_cons (pv 5) (pa_cons (pe_meth (pv 0) T.C.cl_Choice T.C.me_Choice_cost G_Choice_cost (hr.mono (by decide)) (bd_Choice_cost T) .nil pass0 (by exact pa_cons (pe_fld (pe_ix ix_list (pe_fld (pe_fld (pv 0) rfl) rfl) (pv 2) (fun _ _ => rfl)) rfl) (pa_cons (pv 4) (pa_nil)))) (pa_nil))))) (pa_nil))))))))
    (pss_one (ps_ret (pv 3))))
/-- meeting: slots line, other -/
def t_meeting (K : PySem.W.Frag) (d : Ad) (sp_fraction : Sp) : TS :=
  tRet (tCall sp_fraction [] E0 (tCons (tOp kSub (tFld K (tVar 1) "begin") (tFld K (tVar 0) "begin")) (tCons (tOp kSub (tFld K (tVar 0) "slope") (tFld K (tVar 1) "slope")) (tNil))))
theorem dv_meeting (T : Txt K mg d) {sp_fraction : Sp} (G_fraction : FnOk P w K mg base CX0 2 d.f_fraction d.fd_fraction P_fraction sp_fraction) {cdv : Value} {A : Around} {outer : List Env} {s : Shared} {H : Hp} {E : XK} (hr : Room 2 (A.deeper (envOfC "meeting" (defScope s_meeting) s.heap.objs.size d.f_meeting cdv))) :
    PSs (cxOf CX0 P w K mg base N_meeting "meeting" (defScope s_meeting) d.f_meeting cdv A outer s H E).nox (defBody s_meeting) (t_meeting K d sp_fraction) :=
  pss_one (ps_ret (pe_call G_fraction (hr.mono (by decide)) (by rfl) T.G.g_fraction T.F.F_fraction.kp (bd_fraction T) .nil pass0 (by exact pa_cons (pe_op op_sub (pe_fld (pv 1) rfl) (pe_fld (pv 0) rfl)) (pa_cons (pe_op op_sub (pe_fld (pv 0) rfl) (pe_fld (pv 1) rfl)) (pa_nil)))))
/-- is_less: slots one, other -/
def t_is_less (K : PySem.W.Frag) (d : Ad) : TS :=
  tRet (tOp kLt (tOp kMul (tOp (rIxT K) (tVar 0) (tC (.int 0))) (tOp (rIxT K) (tVar 1) (tC (.int 1)))) (tOp kMul (tOp (rIxT K) (tVar 1) (tC (.int 0))) (tOp (rIxT K) (tVar 0) (tC (.int 1)))))
theorem dv_is_less (T : Txt K mg d) {cdv : Value} {A : Around} {outer : List Env} {s : Shared} {H : Hp} {E : XK} (hr : Room 0 (A.deeper (envOfC "is_less" (defScope s_is_less) s.heap.objs.size d.f_is_less cdv))) :
    PSs (cxOf CX0 P w K mg base N_is_less "is_less" (defScope s_is_less) d.f_is_less cdv A outer s H E).nox (defBody s_is_less) (t_is_less K d) :=
  pss_one (ps_ret (pe_cmpR op_lt (pe_op op_mul (pe_ix ix_tup (pv 0) (pe_int) (fun _ _ => rfl)) (pe_ix ix_tup (pv 1) (pe_int) (fun _ _ => rfl))) (pe_op op_mul (pe_ix ix_tup (pv 1) (pe_int) (fun _ _ => rfl)) (pe_ix ix_tup (pv 0) (pe_int) (fun _ _ => rfl))) (nomark _)))
/-- piece_end: slots lines, line, found, other -/
def t_piece_end (K : PySem.W.Frag) (d : Ad) (sp_is_less sp_meeting : Sp) : TS :=
  tSeq (tAsg (tTup (tCons (tC (.int 100)) (tCons (tC (.int 1)) (tNil)))) (gName 2))
    (tSeq (tFor (iList K (tVar 0)) (gName 3) (tIfS (tAnd (tTest (tOp kLt (tFld K (tVar 3) "slope") (tFld K (tVar 1) "slope"))) (tB (tCall sp_is_less [] E0 (tCons (tCall sp_meeting [] E0 (tCons (tVar 1) (tCons (tVar 3) (tNil)))) (tCons (tVar 2) (tNil)))))) (tAsg (tCall sp_meeting [] E0 (tCons (tVar 1) (tCons (tVar 3) (tNil)))) (gName 2)) (tNext)))
    (tRet (tVar 2)))
theorem dv_piece_end (T : Txt K mg d) {sp_is_less sp_meeting : Sp} (G_is_less : FnOk P w K mg base CX0 1 d.f_is_less d.fd_is_less P_is_less sp_is_less) (G_meeting : FnOk P w K mg base CX0 3 d.f_meeting d.fd_meeting P_meeting sp_meeting) {cdv : Value} {A : Around} {outer : List Env} {s : Shared} {H : Hp} {E : XK} (hr : Room 3 (A.deeper (envOfC "piece_end" (defScope s_piece_end) s.heap.objs.size d.f_piece_end cdv))) :
    PSs (cxOf CX0 P w K mg base N_piece_end "piece_end" (defScope s_piece_end) d.f_piece_end cdv A outer s H E).nox (defBody s_piece_end) (t_piece_end K d sp_is_less sp_meeting) :=
  pss_cons (ps_set (i := 2) sc_piece_end.nd rfl (by first | exact Or.inl rfl | exact Or.inr rfl) (by exact pe_tup (pa_cons (pe_gI (by rfl) T.G.m_TIMES_END) (pa_cons (pe_int) (pa_nil)))))
    (pss_cons (ps_for PassesOwn.never rfl (pi_list (pv 0)) (pg_name (i := 3) sc_piece_end.nd rfl (by first | exact Or.inl rfl | exact Or.inr rfl)) (pss_one (ps_if (PW.pt (pw_and (pt_cmpR op_lt (pe_fld (pv 3) rfl) (pe_fld (pv 1) rfl) (nomark _)) (pw_and1 (pt_val (pe_call G_is_less (hr.mono (by decide)) (by rfl) T.G.g_is_less T.F.F_is_less.kp (bd_is_less T) .nil pass0 (by exact pa_cons (pe_call G_meeting (hr.mono (by decide)) (by rfl) T.G.g_meeting T.F.F_meeting.kp (bd_meeting T) .nil pass0 (by exact pa_cons (pv 1) (pa_cons (pv 3) (pa_nil)))) (pa_cons (pv 2) (pa_nil)))))))) (pss_one (ps_set (i := 2) sc_piece_end.nd rfl (by first | exact Or.inl rfl | exact Or.inr rfl) (by exact pe_call G_meeting (hr.mono (by decide)) (by rfl) T.G.g_meeting T.F.F_meeting.kp (bd_meeting T) .nil pass0 (by exact pa_cons (pv 1) (pa_cons (pv 3) (pa_nil)))))) (pss_nil))))
    (pss_one (ps_ret (pv 2))))
/-- pieces_of: slots lines, found, at, keys, line, end -/
def t_pieces_of (K : PySem.W.Frag) (d : Ad) (sp_is_less sp_Line_key_at sp_piece_end : Sp) : TS :=
  tSeq (tAsg (tLst (tNil)) (gName 1))
    (tSeq (tAsg (tTup (tCons (tC (.int 0)) (tCons (tC (.int 1)) (tNil)))) (gName 2))
    (tSeq (tWhile (tB (tCall sp_is_less [] E0 (tCons (tVar 2) (tCons (tTup (tCons (tC (.int 100)) (tCons (tC (.int 1)) (tNil)))) (tNil))))) (tSeq (tAsg (tLc (iList K (tVar 0)) (gName 4) (tYes) (tMeth d.cLine "key_at" sp_Line_key_at [] E0 (tVar 4) (tCons (tVar 2) (tNil))) [4]) (gName 3))
    (tSeq (tAsg (tOp (rIxL K) (tVar 0) (tBM K "list" (rIndexD K) (tVar 3) (tCons (tCB (rMinT K) (tCons (tVar 3) (tNil))) (tNil)))) (gName 4))
    (tSeq (tAsg (tCall sp_piece_end [] E0 (tCons (tVar 0) (tCons (tVar 4) (tNil)))) (gName 5))
    (tSeq (tDrop (tBM K "list" rAppend (tVar 1) (tCons (tTup (tCons (tFld K (tVar 4) "number") (tCons (tVar 2) (tCons (tVar 5) (tNil))))) (tNil))))
    (tAsg (tVar 5) (gName 2)))))))
    (tRet (tVar 1))))
theorem dv_pieces_of (T : Txt K mg d) {sp_is_less sp_Line_key_at sp_piece_end : Sp} (G_is_less : FnOk P w K mg base CX0 1 d.f_is_less d.fd_is_less P_is_less sp_is_less) (G_Line_key_at : FnOk P w K mg base CX0 1 d.f_Line_key_at d.fd_Line_key_at P_Line_key_at sp_Line_key_at) (G_piece_end : FnOk P w K mg base CX0 4 d.f_piece_end d.fd_piece_end P_piece_end sp_piece_end) {cdv : Value} {A : Around} {outer : List Env} {s : Shared} {H : Hp} {E : XK} (hr : Room 4 (A.deeper (envOfC "pieces_of" (defScope s_pieces_of) s.heap.objs.size d.f_pieces_of cdv))) :
    PSs (cxOf CX0 P w K mg base N_pieces_of "pieces_of" (defScope s_pieces_of) d.f_pieces_of cdv A outer s H E).nox (defBody s_pieces_of) (t_pieces_of K d sp_is_less sp_Line_key_at sp_piece_end) :=
  pss_cons (ps_set (i := 1) sc_pieces_of.nd rfl (by first | exact Or.inl rfl | exact Or.inr rfl) (by exact pe_lst (pa_nil)))
    (pss_cons (ps_set (i := 2) sc_pieces_of.nd rfl (by first | exact Or.inl rfl | exact Or.inr rfl) (by exact pe_tup (pa_cons (pe_int) (pa_cons (pe_int) (pa_nil)))))
    (pss_cons (ps_while PassesOwn.never (pt_val (pe_call G_is_less (hr.mono (by decide)) (by rfl) T.G.g_is_less T.F.F_is_less.kp (bd_is_less T) .nil pass0 (by exact pa_cons (pv 2) (pa_cons (pe_tup (pa_cons (pe_gI (by rfl) T.G.m_TIMES_END) (pa_cons (pe_int) (pa_nil)))) (pa_nil))))) (pss_cons (ps_setLc (i := 3) (own := [("line", 4)]) (g := gName 4) (tt := tYes) rfl sc_pieces_of.nd rfl rfl (sw_true rfl rfl rfl (by decide +kernel)) (pi_list (pv 0)) (blkOk_by (own := [("line", 4)]) (N := N_pieces_of) (sc := defScope s_pieces_of) (by decide +kernel)) (fun _ _ _ _ _ => pg_name (i := 4) sc_pieces_of.nd rfl (by first | exact Or.inl rfl | exact Or.inr rfl)) (fun _ _ _ _ _ => pts_nil) (fun _ _ _ _ _ => pe_meth (pv 4) T.C.cl_Line T.C.me_Line_key_at G_Line_key_at (hr.mono (by decide)) (bd_Line_key_at T) .nil pass0 (by exact pa_cons (pv 2) (pa_nil))))
    (pss_cons (ps_set (i := 4) sc_pieces_of.nd rfl (by first | exact Or.inl rfl | exact Or.inr rfl) (by exact pe_ix ix_list (pv 0) (pe_bm PySem.F.plainAttrs_list PySem.F.slot_list_index PySem.F.type_list_index (mt_indexD (hu65 hr)) (pv 3) (pa_cons (pe_callB (cr_minT hr rfl) (by rfl) T.G.b_min (by decide +kernel) (pa_cons (pv 3) (pa_nil))) (pa_nil))) (fun _ _ => rfl)))
    (pss_cons (ps_set (i := 5) sc_pieces_of.nd rfl (by first | exact Or.inl rfl | exact Or.inr rfl) (by exact pe_call G_piece_end (hr.mono (by decide)) (by rfl) T.G.g_piece_end T.F.F_piece_end.kp (bd_piece_end T) .nil pass0 (by exact pa_cons (pv 0) (pa_cons (pv 4) (pa_nil)))))
    (pss_cons (ps_expr (pe_bm PySem.F.plainAttrs_list PySem.F.slot_list_append PySem.F.type_list_append mt_append (pv 1) (pa_cons (pe_tup (pa_cons (pe_fld (pv 4) rfl) (pa_cons (pv 2) (pa_cons (pv 5) (pa_nil))))) (pa_nil))))
    (pss_one (ps_set (i := 2) sc_pieces_of.nd rfl (by first | exact Or.inl rfl | exact Or.inr rfl) (by exact pv 5))))))))
    (pss_one (ps_ret (pv 1)))))
end
end KW
end
section
/-! Printed by gen.py: readings and derivations. -/
namespace KW
open PySem PySem.Spec PyProof.Rows L2
section
variable {P : Program} {w : World} {K : PySem.W.Frag} {mg : Str → Option Value} {base : Heap} {d : Ad}
/-- Fault.__init__: slots self, kind, place -/
def t_Fault_init (K : PySem.W.Frag) (d : Ad) : TS :=
  tSeq (tOst K "kind" (tVar 0) (tVar 1))
    (tOst K "place" (tVar 0) (tVar 2))
theorem dv_Fault_init (T : Txt K mg d) {cdv : Value} {A : Around} {outer : List Env} {s : Shared} {H : Hp} {E : XK} (hr : Room 0 (A.deeper (envOfC "Fault.__init__" (defScope s_Fault_init) s.heap.objs.size d.f_Fault_init cdv))) :
    PSs (cxOf CX0 P w K mg base N_Fault_init "Fault.__init__" (defScope s_Fault_init) d.f_Fault_init cdv A outer s H E).nox (defBody s_Fault_init) (t_Fault_init K d) :=
  pss_cons (ps_ost (pv 0) (pv 1))
    (pss_one (ps_ost (pv 0) (pv 2)))
/-- Token.__init__: slots self, sort_told, text, number, place -/
def t_Token_init (K : PySem.W.Frag) (d : Ad) : TS :=
  tSeq (sFld K (tVar 0) (tVar 1) "sort_told")
    (tSeq (sFld K (tVar 0) (tVar 2) "text")
    (tSeq (sFld K (tVar 0) (tVar 3) "number")
    (sFld K (tVar 0) (tVar 4) "place")))
theorem dv_Token_init (T : Txt K mg d) {cdv : Value} {A : Around} {outer : List Env} {s : Shared} {H : Hp} {E : XK} (hr : Room 0 (A.deeper (envOfC "Token.__init__" (defScope s_Token_init) s.heap.objs.size d.f_Token_init cdv))) :
    PSs (cxOf CX0 P w K mg base N_Token_init "Token.__init__" (defScope s_Token_init) d.f_Token_init cdv A outer s H E).nox (defBody s_Token_init) (t_Token_init K d) :=
  pss_cons (ps_fld (pv 0) (pv 1) rfl)
    (pss_cons (ps_fld (pv 0) (pv 2) rfl)
    (pss_cons (ps_fld (pv 0) (pv 3) rfl)
    (pss_one (ps_fld (pv 0) (pv 4) rfl))))
/-- is_letter: slots byte -/
def t_is_letter (K : PySem.W.Frag) (d : Ad) : TS :=
  tRet (tOrV (tChain kLe kLe (tC (.int 65)) (tVar 0) (tC (.int 90))) (tChain kLe kLe (tC (.int 97)) (tVar 0) (tC (.int 122))))
theorem dv_is_letter (T : Txt K mg d) {cdv : Value} {A : Around} {outer : List Env} {s : Shared} {H : Hp} {E : XK} (hr : Room 0 (A.deeper (envOfC "is_letter" (defScope s_is_letter) s.heap.objs.size d.f_is_letter cdv))) :
    PSs (cxOf CX0 P w K mg base N_is_letter "is_letter" (defScope s_is_letter) d.f_is_letter cdv A outer s H E).nox (defBody s_is_letter) (t_is_letter K d) :=
  pss_one (ps_ret (pe_or (pe_chain op_le op_le (pe_int) (pv 0) (pe_int)) (pe_one (pe_chain op_le op_le (pe_int) (pv 0) (pe_int)))))
/-- is_digit: slots byte -/
def t_is_digit (K : PySem.W.Frag) (d : Ad) : TS :=
  tRet (tChain kLe kLe (tC (.int 48)) (tVar 0) (tC (.int 57)))
theorem dv_is_digit (T : Txt K mg d) {cdv : Value} {A : Around} {outer : List Env} {s : Shared} {H : Hp} {E : XK} (hr : Room 0 (A.deeper (envOfC "is_digit" (defScope s_is_digit) s.heap.objs.size d.f_is_digit cdv))) :
    PSs (cxOf CX0 P w K mg base N_is_digit "is_digit" (defScope s_is_digit) d.f_is_digit cdv A outer s H E).nox (defBody s_is_digit) (t_is_digit K d) :=
  pss_one (ps_ret (pe_chain op_le op_le (pe_int) (pv 0) (pe_int)))
/-- text_of: slots data, found, byte -/
def t_text_of (K : PySem.W.Frag) (d : Ad) (sp_is_digit : Sp) : TS :=
  tSeq (tAsg (tC (.str "")) (gName 1))
    (tSeq (tFor (iList K (tVar 0)) (gName 2) (tIfS (tB (tCall sp_is_digit [] E0 (tCons (tVar 2) (tNil)))) (tAsg (tOp kCatS (tVar 1) (tOp rIxS (tC (.str "0123456789")) (tOp kSub (tVar 2) (tC (.int 48))))) (gName 1)) (tIfS (tTest (tOp kLe (tVar 2) (tC (.int 90)))) (tAsg (tOp kCatS (tVar 1) (tOp rIxS (tC (.str "ABCDEFGHIJKLMNOPQRSTUVWXYZ")) (tOp kSub (tVar 2) (tC (.int 65))))) (gName 1)) (tAsg (tOp kCatS (tVar 1) (tOp rIxS (tC (.str "abcdefghijklmnopqrstuvwxyz")) (tOp kSub (tVar 2) (tC (.int 97))))) (gName 1)))))
    (tRet (tVar 1)))
theorem dv_text_of (T : Txt K mg d) {sp_is_digit : Sp} (G_is_digit : FnOk P w K mg base CX0 1 d.f_is_digit d.fd_is_digit P_is_digit sp_is_digit) {cdv : Value} {A : Around} {outer : List Env} {s : Shared} {H : Hp} {E : XK} (hr : Room 1 (A.deeper (envOfC "text_of" (defScope s_text_of) s.heap.objs.size d.f_text_of cdv))) :
    PSs (cxOf CX0 P w K mg base N_text_of "text_of" (defScope s_text_of) d.f_text_of cdv A outer s H E).nox (defBody s_text_of) (t_text_of K d sp_is_digit) :=
  pss_cons (ps_set (i := 1) sc_text_of.nd rfl (by first | exact Or.inl rfl | exact Or.inr rfl) (by exact pe_str))
    (pss_cons (ps_for PassesOwn.never rfl (pi_list (pv 0)) (pg_name (i := 2) sc_text_of.nd rfl (by first | exact Or.inl rfl | exact Or.inr rfl)) (pss_one (ps_if (pt_val (pe_call G_is_digit (hr.mono (by decide)) (by rfl) T.G.g_is_digit T.F.F_is_digit.kp (bd_is_digit T) .nil pass0 (by exact pa_cons (pv 2) (pa_nil)))) (pss_one (ps_set (i := 1) sc_text_of.nd rfl (by first | exact Or.inl rfl | exact Or.inr rfl) (by exact pe_op op_add_str (pv 1) (pe_ix ix_str (pe_gS (by rfl) T.G.m_DIGITS) (pe_op op_sub (pv 2) (pe_int)) (fun _ _ => rfl))))) (pss_one (ps_if (pt_cmpR op_le (pv 2) (pe_int) (nomark _)) (pss_one (ps_set (i := 1) sc_text_of.nd rfl (by first | exact Or.inl rfl | exact Or.inr rfl) (by exact pe_op op_add_str (pv 1) (pe_ix ix_str (pe_gS (by rfl) T.G.m_CAPITALS) (pe_op op_sub (pv 2) (pe_int)) (fun _ _ => rfl))))) (pss_one (ps_set (i := 1) sc_text_of.nd rfl (by first | exact Or.inl rfl | exact Or.inr rfl) (by exact pe_op op_add_str (pv 1) (pe_ix ix_str (pe_gS (by rfl) T.G.m_SMALLS) (pe_op op_sub (pv 2) (pe_int)) (fun _ _ => rfl))))))))))
    (pss_one (ps_ret (pv 1))))
/-- word_token: slots data, place, text -/
def t_word_token (K : PySem.W.Frag) (d : Ad) (E : XK) (sp_Fault_init sp_text_of sp_Token_init : Sp) : TS :=
  tSeq (tIfS (tTest (tOp kGt (tCB (Evl.rLenS K) (tCons (tVar 0) (tNil))) (tC (.int 16)))) (tRaiseO d.cFault sp_Fault_init E (tCons (tC (.int 2)) (tCons (tVar 1) (tNil)))) (tNext))
    (tSeq (tAsg (tCall sp_text_of [] E0 (tCons (tVar 0) (tNil))) (gName 2))
    (tSeq (tIfS (tTest (tOp (rIn K false) (tVar 2) (tC (.ref d.k_WORDS)))) (tRet (tMake d.cToken sp_Token_init [] E0 (tCons (tC (.str "word")) (tCons (tVar 2) (tCons (tC (.int 0)) (tCons (tVar 1) (tNil))))))) (tNext))
    (tRet (tMake d.cToken sp_Token_init [] E0 (tCons (tC (.str "name")) (tCons (tVar 2) (tCons (tC (.int 0)) (tCons (tVar 1) (tNil)))))))))
theorem dv_word_token (T : Txt K mg d) {sp_Fault_init sp_text_of sp_Token_init : Sp} (G_Fault_init : FnOk P w K mg base CX0 1 d.f_Fault_init d.fd_Fault_init P_Fault_init sp_Fault_init) (G_text_of : FnOk P w K mg base CX0 2 d.f_text_of d.fd_text_of P_text_of sp_text_of) (G_Token_init : FnOk P w K mg base CX0 1 d.f_Token_init d.fd_Token_init P_Token_init sp_Token_init) {cdv : Value} {A : Around} {outer : List Env} {s : Shared} {H : Hp} {E : XK} (hr : Room 2 (A.deeper (envOfC "word_token" (defScope s_word_token) s.heap.objs.size d.f_word_token cdv))) :
    PSs (cxOf (L2.CX P w) P w K mg base N_word_token "word_token" (defScope s_word_token) d.f_word_token cdv A outer s H E) (defBody s_word_token) (t_word_token K d E sp_Fault_init sp_text_of sp_Token_init) :=
  pss_cons (ps_if (pt_cmpR op_gt (pe_callB call_len_seq (by rfl) T.G.b_len PySem.boot_len (pa_cons (pv 0) (pa_nil))) (pe_gI (by rfl) T.G.m_MOST_NAME) (nomark _)) (pss_one (ps_raise rfl (takes_of rfl rfl rfl rfl) (pmk_oex T.E.ox_Fault T.E.in_Fault T.E.ti_Fault G_Fault_init (hr.mono (by decide)) (bd_Fault_init T) .nil pass0 (by rfl) T.G.g_Fault (by exact pa_cons (pe_gI (by rfl) T.G.m_BAD_TOKEN) (pa_cons (pv 1) (pa_nil)))))) (pss_nil))
    (pss_cons (ps_set (i := 2) sc_word_token.nd rfl (by first | exact Or.inl rfl | exact Or.inr rfl) (by exact pe_call G_text_of (hr.mono (by decide)) (by rfl) T.G.g_text_of T.F.F_text_of.kp (bd_text_of T) .nil pass0 (by exact pa_cons (pv 0) (pa_nil))))
    (pss_cons (ps_if (pt_cmpR op_in_seq (pv 2) (pe_glob (by rfl) T.G.m_WORDS rfl) (by with_unfolding_all rfl)) (pss_one (ps_ret (pe_make T.C.mk_Token G_Token_init (hr.mono (by decide)) (by rfl) T.G.g_Token (bd_Token_init T) .nil pass0 (by exact pa_cons (pe_str) (pa_cons (pv 2) (pa_cons (pe_int) (pa_cons (pv 1) (pa_nil)))))))) (pss_nil))
    (pss_one (ps_ret (pe_make T.C.mk_Token G_Token_init (hr.mono (by decide)) (by rfl) T.G.g_Token (bd_Token_init T) .nil pass0 (by exact pa_cons (pe_str) (pa_cons (pv 2) (pa_cons (pe_int) (pa_cons (pv 1) (pa_nil))))))))))
/-- number_token: slots data, place, number, byte -/
def t_number_token (K : PySem.W.Frag) (d : Ad) (E : XK) (sp_Fault_init sp_Token_init : Sp) : TS :=
  tSeq (tAsg (tC (.int 0)) (gName 2))
    (tSeq (tFor (iList K (tVar 0)) (gName 3) (tAsg (tOp kSub (tOp kAdd (tOp kMul (tC (.int 10)) (tVar 2)) (tVar 3)) (tC (.int 48))) (gName 2)))
    (tSeq (tIfS (tOr (tTest (tOp kGt (tVar 2) (tC (.int 1000000000)))) (tAnd (tTest (tOp rEq (tOp (rIxL K) (tVar 0) (tC (.int 0))) (tC (.int 48)))) (tTest (tOp kGt (tCB (Evl.rLenS K) (tCons (tVar 0) (tNil))) (tC (.int 1)))))) (tRaiseO d.cFault sp_Fault_init E (tCons (tC (.int 2)) (tCons (tVar 1) (tNil)))) (tNext))
    (tRet (tMake d.cToken sp_Token_init [] E0 (tCons (tC (.str "number")) (tCons (tC (.str "")) (tCons (tVar 2) (tCons (tVar 1) (tNil)))))))))
theorem dv_number_token (T : Txt K mg d) {sp_Fault_init sp_Token_init : Sp} (G_Fault_init : FnOk P w K mg base CX0 1 d.f_Fault_init d.fd_Fault_init P_Fault_init sp_Fault_init) (G_Token_init : FnOk P w K mg base CX0 1 d.f_Token_init d.fd_Token_init P_Token_init sp_Token_init) {cdv : Value} {A : Around} {outer : List Env} {s : Shared} {H : Hp} {E : XK} (hr : Room 2 (A.deeper (envOfC "number_token" (defScope s_number_token) s.heap.objs.size d.f_number_token cdv))) :
    PSs (cxOf (L2.CX P w) P w K mg base N_number_token "number_token" (defScope s_number_token) d.f_number_token cdv A outer s H E) (defBody s_number_token) (t_number_token K d E sp_Fault_init sp_Token_init) :=
  pss_cons (ps_set (i := 2) sc_number_token.nd rfl (by first | exact Or.inl rfl | exact Or.inr rfl) (by exact pe_int))
    (pss_cons (ps_for (passes_of rfl) rfl (pi_list (pv 0)) (pg_name (i := 3) sc_number_token.nd rfl (by first | exact Or.inl rfl | exact Or.inr rfl)) (pss_one (ps_set (i := 2) sc_number_token.nd rfl (by first | exact Or.inl rfl | exact Or.inr rfl) (by exact pe_op op_sub (pe_op op_add (pe_op op_mul (pe_int) (pv 2)) (pv 3)) (pe_int)))))
    (pss_cons (ps_if (PW.pt (pw_or (pt_cmpR op_gt (pv 2) (pe_gI (by rfl) T.G.m_MOST_NUMBER) (nomark _)) (pw_or1 (PW.pt (pw_and (pt_cmpR op_eq (pe_ix ix_list (pv 0) (pe_int) (fun _ _ => rfl)) (pe_int) (nomark _)) (pw_and1 (pt_cmpR op_gt (pe_callB call_len_seq (by rfl) T.G.b_len PySem.boot_len (pa_cons (pv 0) (pa_nil))) (pe_int) (nomark _)))))))) (pss_one (ps_raise rfl (takes_of rfl rfl rfl rfl) (pmk_oex T.E.ox_Fault T.E.in_Fault T.E.ti_Fault G_Fault_init (hr.mono (by decide)) (bd_Fault_init T) .nil pass0 (by rfl) T.G.g_Fault (by exact pa_cons (pe_gI (by rfl) T.G.m_BAD_TOKEN) (pa_cons (pv 1) (pa_nil)))))) (pss_nil))
    (pss_one (ps_ret (pe_make T.C.mk_Token G_Token_init (hr.mono (by decide)) (by rfl) T.G.g_Token (bd_Token_init T) .nil pass0 (by exact pa_cons (pe_str) (pa_cons (pe_str) (pa_cons (pv 2) (pa_cons (pv 1) (pa_nil))))))))))
/-- sign_token: slots byte, place, sign -/
def t_sign_token (K : PySem.W.Frag) (d : Ad) (E : XK) (sp_Token_init sp_Fault_init : Sp) : TS :=
  tSeq (tFor (iStr (tC (.str ",:;-"))) (gName 2) (tIfS (tTest (tOp rEq (tVar 0) (tCB rOrd (tCons (tVar 2) (tNil))))) (tRet (tMake d.cToken sp_Token_init [] E0 (tCons (tC (.str "sign")) (tCons (tVar 2) (tCons (tC (.int 0)) (tCons (tVar 1) (tNil))))))) (tNext)))
    (tRaiseO d.cFault sp_Fault_init E (tCons (tC (.int 2)) (tCons (tVar 1) (tNil))))
theorem dv_sign_token (T : Txt K mg d) {sp_Token_init sp_Fault_init : Sp} (G_Token_init : FnOk P w K mg base CX0 1 d.f_Token_init d.fd_Token_init P_Token_init sp_Token_init) (G_Fault_init : FnOk P w K mg base CX0 1 d.f_Fault_init d.fd_Fault_init P_Fault_init sp_Fault_init) {cdv : Value} {A : Around} {outer : List Env} {s : Shared} {H : Hp} {E : XK} (hr : Room 2 (A.deeper (envOfC "sign_token" (defScope s_sign_token) s.heap.objs.size d.f_sign_token cdv))) :
    PSs (cxOf (L2.CX P w) P w K mg base N_sign_token "sign_token" (defScope s_sign_token) d.f_sign_token cdv A outer s H E) (defBody s_sign_token) (t_sign_token K d E sp_Token_init sp_Fault_init) :=
  pss_cons (ps_for (passes_of rfl) rfl (pi_str (pe_gS (by rfl) T.G.m_SIGNS)) (pg_name (i := 2) sc_sign_token.nd rfl (by first | exact Or.inl rfl | exact Or.inr rfl)) (pss_one (ps_if (pt_cmpR op_eq (pv 0) (pe_callB call_ord (by rfl) T.G.b_ord (by decide +kernel) (pa_cons (pv 2) (pa_nil))) (nomark _)) (pss_one (ps_ret (pe_make T.C.mk_Token G_Token_init (hr.mono (by decide)) (by rfl) T.G.g_Token (bd_Token_init T) .nil pass0 (by exact pa_cons (pe_str) (pa_cons (pv 2) (pa_cons (pe_int) (pa_cons (pv 1) (pa_nil)))))))) (pss_nil))))
    (pss_one (ps_raise rfl (takes_of rfl rfl rfl rfl) (pmk_oex T.E.ox_Fault T.E.in_Fault T.E.ti_Fault G_Fault_init (hr.mono (by decide)) (bd_Fault_init T) .nil pass0 (by rfl) T.G.g_Fault (by exact pa_cons (pe_gI (by rfl) T.G.m_BAD_TOKEN) (pa_cons (pv 1) (pa_nil))))))
/-- remark_end: slots text, place -/
def t_remark_end (K : PySem.W.Frag) (d : Ad) : TS :=
  tSeq (tWhile (tAnd (tTest (tOp kLt (tVar 1) (tCB (Evl.rLenS K) (tCons (tVar 0) (tNil))))) (tTest (tOp rNe (tOp (rIxL K) (tVar 0) (tVar 1)) (tC (.int 10))))) (tAug 1 (tC (.int 1)) (ipI fun i j => i + j)))
    (tRet (tVar 1))
theorem dv_remark_end (T : Txt K mg d) {cdv : Value} {A : Around} {outer : List Env} {s : Shared} {H : Hp} {E : XK} (hr : Room 0 (A.deeper (envOfC "remark_end" (defScope s_remark_end) s.heap.objs.size d.f_remark_end cdv))) :
    PSs (cxOf CX0 P w K mg base N_remark_end "remark_end" (defScope s_remark_end) d.f_remark_end cdv A outer s H E).nox (defBody s_remark_end) (t_remark_end K d) :=
  pss_cons (ps_while PassesOwn.never (PW.pt (pw_and (pt_cmpR op_lt (pv 1) (pe_callB call_len_seq (by rfl) T.G.b_len PySem.boot_len (pa_cons (pv 0) (pa_nil))) (nomark _)) (pw_and1 (pt_cmpR op_ne (pe_ix ix_list (pv 0) (pv 1) (fun _ _ => rfl)) (pe_gI (by rfl) T.G.m_ROW_END) (nomark _))))) (pss_one (ps_aug (i := 1) sc_remark_end.nd rfl (by first | exact Or.inl rfl | exact Or.inr rfl) (pe_int) ip_add)))
    (pss_one (ps_ret (pv 1)))
/-- word_end: slots text, place -/
def t_word_end (K : PySem.W.Frag) (d : Ad) (sp_is_digit sp_is_letter : Sp) : TS :=
  tSeq (tWhile (tAnd (tTest (tOp kLt (tVar 1) (tCB (Evl.rLenS K) (tCons (tVar 0) (tNil))))) (tOr (tB (tCall sp_is_letter [] E0 (tCons (tOp (rIxL K) (tVar 0) (tVar 1)) (tNil)))) (tB (tCall sp_is_digit [] E0 (tCons (tOp (rIxL K) (tVar 0) (tVar 1)) (tNil)))))) (tAug 1 (tC (.int 1)) (ipI fun i j => i + j)))
    (tRet (tVar 1))
theorem dv_word_end (T : Txt K mg d) {sp_is_digit sp_is_letter : Sp} (G_is_digit : FnOk P w K mg base CX0 1 d.f_is_digit d.fd_is_digit P_is_digit sp_is_digit) (G_is_letter : FnOk P w K mg base CX0 1 d.f_is_letter d.fd_is_letter P_is_letter sp_is_letter) {cdv : Value} {A : Around} {outer : List Env} {s : Shared} {H : Hp} {E : XK} (hr : Room 1 (A.deeper (envOfC "word_end" (defScope s_word_end) s.heap.objs.size d.f_word_end cdv))) :
    PSs (cxOf CX0 P w K mg base N_word_end "word_end" (defScope s_word_end) d.f_word_end cdv A outer s H E).nox (defBody s_word_end) (t_word_end K d sp_is_digit sp_is_letter) :=
  pss_cons (ps_while PassesOwn.never (PW.pt (pw_and (pt_cmpR op_lt (pv 1) (pe_callB call_len_seq (by rfl) T.G.b_len PySem.boot_len (pa_cons (pv 0) (pa_nil))) (nomark _)) (pw_and1 (PW.pt (pw_or (pt_val (pe_call G_is_letter (hr.mono (by decide)) (by rfl) T.G.g_is_letter T.F.F_is_letter.kp (bd_is_letter T) .nil pass0 (by exact pa_cons (pe_ix ix_list (pv 0) (pv 1) (fun _ _ => rfl)) (pa_nil)))) (pw_or1 (pt_val (pe_call G_is_digit (hr.mono (by decide)) (by rfl) T.G.g_is_digit T.F.F_is_digit.kp (bd_is_digit T) .nil pass0 (by exact pa_cons (pe_ix ix_list (pv 0) (pv 1) (fun _ _ => rfl)) (pa_nil)))))))))) (pss_one (ps_aug (i := 1) sc_word_end.nd rfl (by first | exact Or.inl rfl | exact Or.inr rfl) (pe_int) ip_add)))
    (pss_one (ps_ret (pv 1)))
/-- number_end: slots text, place -/
def t_number_end (K : PySem.W.Frag) (d : Ad) (sp_is_digit : Sp) : TS :=
  tSeq (tWhile (tAnd (tTest (tOp kLt (tVar 1) (tCB (Evl.rLenS K) (tCons (tVar 0) (tNil))))) (tB (tCall sp_is_digit [] E0 (tCons (tOp (rIxL K) (tVar 0) (tVar 1)) (tNil))))) (tAug 1 (tC (.int 1)) (ipI fun i j => i + j)))
    (tRet (tVar 1))
theorem dv_number_end (T : Txt K mg d) {sp_is_digit : Sp} (G_is_digit : FnOk P w K mg base CX0 1 d.f_is_digit d.fd_is_digit P_is_digit sp_is_digit) {cdv : Value} {A : Around} {outer : List Env} {s : Shared} {H : Hp} {E : XK} (hr : Room 1 (A.deeper (envOfC "number_end" (defScope s_number_end) s.heap.objs.size d.f_number_end cdv))) :
    PSs (cxOf CX0 P w K mg base N_number_end "number_end" (defScope s_number_end) d.f_number_end cdv A outer s H E).nox (defBody s_number_end) (t_number_end K d sp_is_digit) :=
  pss_cons (ps_while PassesOwn.never (PW.pt (pw_and (pt_cmpR op_lt (pv 1) (pe_callB call_len_seq (by rfl) T.G.b_len PySem.boot_len (pa_cons (pv 0) (pa_nil))) (nomark _)) (pw_and1 (pt_val (pe_call G_is_digit (hr.mono (by decide)) (by rfl) T.G.g_is_digit T.F.F_is_digit.kp (bd_is_digit T) .nil pass0 (by exact pa_cons (pe_ix ix_list (pv 0) (pv 1) (fun _ _ => rfl)) (pa_nil))))))) (pss_one (ps_aug (i := 1) sc_number_end.nd rfl (by first | exact Or.inl rfl | exact Or.inr rfl) (pe_int) ip_add)))
    (pss_one (ps_ret (pv 1)))
/-- tokens_of: slots text, found, place, end -/
def t_tokens_of (K : PySem.W.Frag) (d : Ad) (E : XK) (sp_remark_end sp_is_letter sp_word_end sp_word_token sp_is_digit sp_number_end sp_number_token sp_sign_token sp_Token_init : Sp) : TS :=
  tSeq (tAsg (tLst (tNil)) (gName 1))
    (tSeq (tAsg (tC (.int 0)) (gName 2))
    (tSeq (tWhile (tTest (tOp kLt (tVar 2) (tCB (Evl.rLenS K) (tCons (tVar 0) (tNil))))) (tSeq (tAsg (tOp kAdd (tVar 2) (tC (.int 1))) (gName 3))
    (tSeq (tIfS (tTest (tOp rEq (tOp (rIxL K) (tVar 0) (tVar 2)) (tC (.int 35)))) (tAsg (tCall sp_remark_end [] E0 (tCons (tVar 0) (tCons (tVar 2) (tNil)))) (gName 3)) (tIfS (tB (tCall sp_is_letter [] E0 (tCons (tOp (rIxL K) (tVar 0) (tVar 2)) (tNil)))) (tSeq (tAsg (tCall sp_word_end [] E0 (tCons (tVar 0) (tCons (tVar 2) (tNil)))) (gName 3))
    (tDrop (tBM K "list" rAppend (tVar 1) (tCons (tCall sp_word_token [] E (tCons (tSl (rSlL K) (tVar 0) (tPart (tVar 2)) (tPart (tVar 3))) (tCons (tVar 2) (tNil)))) (tNil))))) (tIfS (tB (tCall sp_is_digit [] E0 (tCons (tOp (rIxL K) (tVar 0) (tVar 2)) (tNil)))) (tSeq (tAsg (tCall sp_number_end [] E0 (tCons (tVar 0) (tCons (tVar 2) (tNil)))) (gName 3))
    (tDrop (tBM K "list" rAppend (tVar 1) (tCons (tCall sp_number_token [] E (tCons (tSl (rSlL K) (tVar 0) (tPart (tVar 2)) (tPart (tVar 3))) (tCons (tVar 2) (tNil)))) (tNil))))) (tIfS (tTest (tOp (rIn K true) (tOp (rIxL K) (tVar 0) (tVar 2)) (tC (.ref d.k_BLANKS)))) (tDrop (tBM K "list" rAppend (tVar 1) (tCons (tCall sp_sign_token [] E (tCons (tOp (rIxL K) (tVar 0) (tVar 2)) (tCons (tVar 2) (tNil)))) (tNil)))) (tNext)))))
    (tAsg (tVar 3) (gName 2)))))
    (tSeq (tDrop (tBM K "list" rAppend (tVar 1) (tCons (tMake d.cToken sp_Token_init [] E0 (tCons (tC (.str "end")) (tCons (tC (.str "")) (tCons (tC (.int 0)) (tCons (tCB (Evl.rLenS K) (tCons (tVar 0) (tNil))) (tNil)))))) (tNil))))
    (tRet (tVar 1)))))
theorem dv_tokens_of (T : Txt K mg d) {sp_remark_end sp_is_letter sp_word_end sp_word_token sp_is_digit sp_number_end sp_number_token sp_sign_token sp_Token_init : Sp} (G_remark_end : FnOk P w K mg base CX0 1 d.f_remark_end d.fd_remark_end P_remark_end sp_remark_end) (G_is_letter : FnOk P w K mg base CX0 1 d.f_is_letter d.fd_is_letter P_is_letter sp_is_letter) (G_word_end : FnOk P w K mg base CX0 2 d.f_word_end d.fd_word_end P_word_end sp_word_end) (G_word_token : FnOk P w K mg base (L2.CX P w) 3 d.f_word_token d.fd_word_token P_word_token sp_word_token) (G_is_digit : FnOk P w K mg base CX0 1 d.f_is_digit d.fd_is_digit P_is_digit sp_is_digit) (G_number_end : FnOk P w K mg base CX0 2 d.f_number_end d.fd_number_end P_number_end sp_number_end) (G_number_token : FnOk P w K mg base (L2.CX P w) 3 d.f_number_token d.fd_number_token P_number_token sp_number_token) (G_sign_token : FnOk P w K mg base (L2.CX P w) 3 d.f_sign_token d.fd_sign_token P_sign_token sp_sign_token) (G_Token_init : FnOk P w K mg base CX0 1 d.f_Token_init d.fd_Token_init P_Token_init sp_Token_init) {cdv : Value} {A : Around} {outer : List Env} {s : Shared} {H : Hp} {E : XK} (hr : Room 3 (A.deeper (envOfC "tokens_of" (defScope s_tokens_of) s.heap.objs.size d.f_tokens_of cdv))) :
    PSs (cxOf (L2.CX P w) P w K mg base N_tokens_of "tokens_of" (defScope s_tokens_of) d.f_tokens_of cdv A outer s H E) (defBody s_tokens_of) (t_tokens_of K d E sp_remark_end sp_is_letter sp_word_end sp_word_token sp_is_digit sp_number_end sp_number_token sp_sign_token sp_Token_init) :=
  pss_cons (ps_set (i := 1) sc_tokens_of.nd rfl (by first | exact Or.inl rfl | exact Or.inr rfl) (by exact pe_lst (pa_nil)))
    (pss_cons (ps_set (i := 2) sc_tokens_of.nd rfl (by first | exact Or.inl rfl | exact Or.inr rfl) (by exact pe_int))
    (pss_cons (ps_while (passes_of rfl) (pt_cmpR op_lt (pv 2) (pe_callB call_len_seq (by rfl) T.G.b_len PySem.boot_len (pa_cons (pv 0) (pa_nil))) (nomark _)) (pss_cons (ps_set (i := 3) sc_tokens_of.nd rfl (by first | exact Or.inl rfl | exact Or.inr rfl) (by exact pe_op op_add (pv 2) (pe_int)))
    (pss_cons (ps_if (pt_cmpR op_eq (pe_ix ix_list (pv 0) (pv 2) (fun _ _ => rfl)) (pe_gI (by rfl) T.G.m_REMARK) (nomark _)) (pss_one (ps_set (i := 3) sc_tokens_of.nd rfl (by first | exact Or.inl rfl | exact Or.inr rfl) (by exact pe_call G_remark_end (hr.mono (by decide)) (by rfl) T.G.g_remark_end T.F.F_remark_end.kp (bd_remark_end T) .nil pass0 (by exact pa_cons (pv 0) (pa_cons (pv 2) (pa_nil)))))) (pss_one (ps_if (pt_val (pe_call G_is_letter (hr.mono (by decide)) (by rfl) T.G.g_is_letter T.F.F_is_letter.kp (bd_is_letter T) .nil pass0 (by exact pa_cons (pe_ix ix_list (pv 0) (pv 2) (fun _ _ => rfl)) (pa_nil)))) (pss_cons (ps_set (i := 3) sc_tokens_of.nd rfl (by first | exact Or.inl rfl | exact Or.inr rfl) (by exact pe_call G_word_end (hr.mono (by decide)) (by rfl) T.G.g_word_end T.F.F_word_end.kp (bd_word_end T) .nil pass0 (by exact pa_cons (pv 0) (pa_cons (pv 2) (pa_nil)))))
    (pss_one (ps_expr (pe_bm PySem.F.plainAttrs_list PySem.F.slot_list_append PySem.F.type_list_append mt_append (pv 1) (pa_cons (pe_call G_word_token (hr.mono (by decide)) (by rfl) T.G.g_word_token T.F.F_word_token.kp (bd_word_token T) .nil (passes_call (takes_of rfl rfl rfl rfl) fun _ _ _ _ h => h) (by exact pa_cons (pe_slice sl_list (pv 0) (po_some (pv 2)) (po_some (pv 3))) (pa_cons (pv 2) (pa_nil)))) (pa_nil)))))) (pss_one (ps_if (pt_val (pe_call G_is_digit (hr.mono (by decide)) (by rfl) T.G.g_is_digit T.F.F_is_digit.kp (bd_is_digit T) .nil pass0 (by exact pa_cons (pe_ix ix_list (pv 0) (pv 2) (fun _ _ => rfl)) (pa_nil)))) (pss_cons (ps_set (i := 3) sc_tokens_of.nd rfl (by first | exact Or.inl rfl | exact Or.inr rfl) (by exact pe_call G_number_end (hr.mono (by decide)) (by rfl) T.G.g_number_end T.F.F_number_end.kp (bd_number_end T) .nil pass0 (by exact pa_cons (pv 0) (pa_cons (pv 2) (pa_nil)))))
    (pss_one (ps_expr (pe_bm PySem.F.plainAttrs_list PySem.F.slot_list_append PySem.F.type_list_append mt_append (pv 1) (pa_cons (pe_call G_number_token (hr.mono (by decide)) (by rfl) T.G.g_number_token T.F.F_number_token.kp (bd_number_token T) .nil (passes_call (takes_of rfl rfl rfl rfl) fun _ _ _ _ h => h) (by exact pa_cons (pe_slice sl_list (pv 0) (po_some (pv 2)) (po_some (pv 3))) (pa_cons (pv 2) (pa_nil)))) (pa_nil)))))) (pss_one (ps_if (pt_cmpR op_notIn_seq (pe_ix ix_list (pv 0) (pv 2) (fun _ _ => rfl)) (pe_glob (by rfl) T.G.m_BLANKS rfl) (by with_unfolding_all rfl)) (pss_one (ps_expr (pe_bm PySem.F.plainAttrs_list PySem.F.slot_list_append PySem.F.type_list_append mt_append (pv 1) (pa_cons (pe_call G_sign_token (hr.mono (by decide)) (by rfl) T.G.g_sign_token T.F.F_sign_token.kp (bd_sign_token T) .nil (passes_call (takes_of rfl rfl rfl rfl) fun _ _ _ _ h => h) (by exact pa_cons (pe_ix ix_list (pv 0) (pv 2) (fun _ _ => rfl)) (pa_cons (pv 2) (pa_nil)))) (pa_nil))))) (pss_nil))))))))
    (pss_one (ps_set (i := 2) sc_tokens_of.nd rfl (by first | exact Or.inl rfl | exact Or.inr rfl) (by exact pv 3))))))
    (pss_cons (ps_expr (pe_bm PySem.F.plainAttrs_list PySem.F.slot_list_append PySem.F.type_list_append mt_append (pv 1) (pa_cons (pe_make T.C.mk_Token G_Token_init (hr.mono (by decide)) (by rfl) T.G.g_Token (bd_Token_init T) .nil pass0 (by exact pa_cons (pe_str) (pa_cons (pe_str) (pa_cons (pe_int) (pa_cons (pe_callB call_len_seq (by rfl) T.G.b_len PySem.boot_len (pa_cons (pv 0) (pa_nil))) (pa_nil)))))) (pa_nil))))
    (pss_one (ps_ret (pv 1))))))
end
end KW
end
section
/-! Printed by gen.py: readings and derivations. -/
namespace KW
open PySem PySem.Spec PyProof.Rows L2
section
variable {P : Program} {w : World} {K : PySem.W.Frag} {mg : Str → Option Value} {base : Heap} {d : Ad}
/-- Question.__init__: slots self, grouping, often -/
def t_Question_init (K : PySem.W.Frag) (d : Ad) : TS :=
  tSeq (sFld K (tVar 0) (tVar 1) "grouping")
    (sFld K (tVar 0) (tVar 2) "often")
theorem dv_Question_init (T : Txt K mg d) {cdv : Value} {A : Around} {outer : List Env} {s : Shared} {H : Hp} {E : XK} (hr : Room 0 (A.deeper (envOfC "Question.__init__" (defScope s_Question_init) s.heap.objs.size d.f_Question_init cdv))) :
    PSs (cxOf CX0 P w K mg base N_Question_init "Question.__init__" (defScope s_Question_init) d.f_Question_init cdv A outer s H E).nox (defBody s_Question_init) (t_Question_init K d) :=
  pss_cons (ps_fld (pv 0) (pv 1) rfl)
    (pss_one (ps_fld (pv 0) (pv 2) rfl))
/-- Table.__init__: slots self -/
def t_Table_init (K : PySem.W.Frag) (d : Ad) : TS :=
  tSeq (sFld K (tVar 0) (tLst (tNil)) "columns")
    (tSeq (sFld K (tVar 0) (tLst (tNil)) "rows")
    (sFld K (tVar 0) (tLst (tNil)) "questions"))
theorem dv_Table_init (T : Txt K mg d) {cdv : Value} {A : Around} {outer : List Env} {s : Shared} {H : Hp} {E : XK} (hr : Room 0 (A.deeper (envOfC "Table.__init__" (defScope s_Table_init) s.heap.objs.size d.f_Table_init cdv))) :
    PSs (cxOf CX0 P w K mg base N_Table_init "Table.__init__" (defScope s_Table_init) d.f_Table_init cdv A outer s H E).nox (defBody s_Table_init) (t_Table_init K d) :=
  pss_cons (ps_fld (pv 0) (pe_lst (pa_nil)) rfl)
    (pss_cons (ps_fld (pv 0) (pe_lst (pa_nil)) rfl)
    (pss_one (ps_fld (pv 0) (pe_lst (pa_nil)) rfl)))
/-- Table.size: slots self, grouping, groups, row, group, place, value -/
def t_Table_size (K : PySem.W.Frag) (d : Ad) : TS :=
  tSeq (tAsg (tLst (tNil)) (gName 2))
    (tSeq (tFor (iList K (tFld K (tVar 0) "rows")) (gName 3) (tSeq (tAsg (tLc (iEnum K (tCons (tVar 3) (tNil))) (gTup K 2 (gCons (gName 5) (gCons (gName 6) (gNil)))) (tTest (tOp rEq (tOp kAnd (tOp kShr (tVar 1) (tVar 5)) (tC (.int 1))) (tC (.int 1)))) (tVar 6) [5, 6]) (gName 4))
    (tIfS (tTest (tOp (rNotInD K) (tVar 4) (tVar 2))) (tDrop (tBM K "list" rAppend (tVar 2) (tCons (tVar 4) (tNil)))) (tNext))))
    (tRet (tCB (Evl.rLenS K) (tCons (tVar 2) (tNil)))))
theorem dv_Table_size (T : Txt K mg d) {cdv : Value} {A : Around} {outer : List Env} {s : Shared} {H : Hp} {E : XK} (hr : Room 0 (A.deeper (envOfC "Table.size" (defScope s_Table_size) s.heap.objs.size d.f_Table_size cdv))) :
    PSs (cxOf CX0 P w K mg base N_Table_size "Table.size" (defScope s_Table_size) d.f_Table_size cdv A outer s H E).nox (defBody s_Table_size) (t_Table_size K d) :=
  pss_cons (ps_set (i := 2) sc_Table_size.nd rfl (by first | exact Or.inl rfl | exact Or.inr rfl) (by exact pe_lst (pa_nil)))
    (pss_cons (ps_for PassesOwn.never rfl (pi_list (pe_fld (pv 0) rfl)) (pg_name (i := 3) sc_Table_size.nd rfl (by first | exact Or.inl rfl | exact Or.inr rfl)) (pss_cons (ps_setLc (i := 4) (own := [("place", 5), ("value", 6)]) (g := gTup K 2 (gCons (gName 5) (gCons (gName 6) (gNil)))) (tt := tTest (tOp rEq (tOp kAnd (tOp kShr (tVar 1) (tVar 5)) (tC (.int 1))) (tC (.int 1)))) rfl sc_Table_size.nd rfl rfl (sw_true rfl rfl rfl (by decide +kernel)) (pi_enum (by rfl) T.G.b_enumerate (pa_cons (pv 3) (pa_nil))) (blkOk_by (own := [("place", 5), ("value", 6)]) (N := N_Table_size) (sc := defScope s_Table_size) (by decide +kernel)) (fun _ _ _ _ _ => pg_tup rfl (pgs_cons (pg_name (i := 5) sc_Table_size.nd rfl (by first | exact Or.inl rfl | exact Or.inr rfl)) (pgs_cons (pg_name (i := 6) sc_Table_size.nd rfl (by first | exact Or.inl rfl | exact Or.inr rfl)) (pgs_nil)))) (fun _ _ _ _ _ => pts_one (pt_cmpR op_eq (pe_op op_and (pe_op op_shr (pv 1) (pv 5)) (pe_int)) (pe_int) (nomark _))) (fun _ _ _ _ _ => pv 6))
    (pss_one (ps_if (pt_cmpR (op_notInD (hu65 hr)) (pv 4) (pv 2) (by with_unfolding_all rfl)) (pss_one (ps_expr (pe_bm PySem.F.plainAttrs_list PySem.F.slot_list_append PySem.F.type_list_append mt_append (pv 2) (pa_cons (pv 4) (pa_nil))))) (pss_nil)))))
    (pss_one (ps_ret (pe_callB call_len_seq (by rfl) T.G.b_len PySem.boot_len (pa_cons (pv 2) (pa_nil))))))
/-- Reader.__init__: slots self, text -/
def t_Reader_init (K : PySem.W.Frag) (d : Ad) (E : XK) (sp_Fault_init sp_tokens_of sp_Table_init : Sp) : TS :=
  tSeq (tIfS (tTest (tOp kGt (tCB (Evl.rLenS K) (tCons (tVar 1) (tNil))) (tC (.int 4096)))) (tRaiseO d.cFault sp_Fault_init E (tCons (tC (.int 1)) (tCons (tC (.int 4096)) (tNil)))) (tNext))
    (tSeq (sFld K (tVar 0) (tCall sp_tokens_of [] E (tCons (tVar 1) (tNil))) "tokens")
    (tSeq (sFld K (tVar 0) (tC (.int 0)) "at")
    (sFld K (tVar 0) (tMake d.cTable sp_Table_init [] E0 tNil) "table")))
theorem dv_Reader_init (T : Txt K mg d) {sp_Fault_init sp_tokens_of sp_Table_init : Sp} (G_Fault_init : FnOk P w K mg base CX0 1 d.f_Fault_init d.fd_Fault_init P_Fault_init sp_Fault_init) (G_tokens_of : FnOk P w K mg base (L2.CX P w) 4 d.f_tokens_of d.fd_tokens_of P_tokens_of sp_tokens_of) (G_Table_init : FnOk P w K mg base CX0 1 d.f_Table_init d.fd_Table_init P_Table_init sp_Table_init) {cdv : Value} {A : Around} {outer : List Env} {s : Shared} {H : Hp} {E : XK} (hr : Room 4 (A.deeper (envOfC "Reader.__init__" (defScope s_Reader_init) s.heap.objs.size d.f_Reader_init cdv))) :
    PSs (cxOf (L2.CX P w) P w K mg base N_Reader_init "Reader.__init__" (defScope s_Reader_init) d.f_Reader_init cdv A outer s H E) (defBody s_Reader_init) (t_Reader_init K d E sp_Fault_init sp_tokens_of sp_Table_init) :=
  pss_cons (ps_if (pt_cmpR op_gt (pe_callB call_len_seq (by rfl) T.G.b_len PySem.boot_len (pa_cons (pv 1) (pa_nil))) (pe_gI (by rfl) T.G.m_MOST_BYTES) (nomark _)) (pss_one (ps_raise rfl (takes_of rfl rfl rfl rfl) (pmk_oex T.E.ox_Fault T.E.in_Fault T.E.ti_Fault G_Fault_init (hr.mono (by decide)) (bd_Fault_init T) .nil pass0 (by rfl) T.G.g_Fault (by exact pa_cons (pe_gI (by rfl) T.G.m_TOO_LONG) (pa_cons (pe_gI (by rfl) T.G.m_MOST_BYTES) (pa_nil)))))) (pss_nil))
    (pss_cons (ps_fld (pv 0) (pe_call G_tokens_of (hr.mono (by decide)) (by rfl) T.G.g_tokens_of T.F.F_tokens_of.kp (bd_tokens_of T) .nil (passes_call (takes_of rfl rfl rfl rfl) fun _ _ _ _ h => h) (by exact pa_cons (pv 1) (pa_nil))) rfl)
    (pss_cons (ps_fld (pv 0) (pe_int) rfl)
    (pss_one (ps_fld (pv 0) (pe_make0 T.C.mk_Table G_Table_init (hr.mono (by decide)) (by rfl) T.G.g_Table (bd_Table_init T) .nil pass0) rfl))))
/-- Reader.here: slots self -/
def t_Reader_here (K : PySem.W.Frag) (d : Ad) : TS :=
  tRet (tOp (rIxL K) (tFld K (tVar 0) "tokens") (tFld K (tVar 0) "at"))
theorem dv_Reader_here (T : Txt K mg d) {cdv : Value} {A : Around} {outer : List Env} {s : Shared} {H : Hp} {E : XK} (hr : Room 0 (A.deeper (envOfC "Reader.here" (defScope s_Reader_here) s.heap.objs.size d.f_Reader_here cdv))) :
    PSs (cxOf CX0 P w K mg base N_Reader_here "Reader.here" (defScope s_Reader_here) d.f_Reader_here cdv A outer s H E).nox (defBody s_Reader_here) (t_Reader_here K d) :=
  pss_one (ps_ret (pe_ix ix_list (pe_fld (pv 0) rfl) (pe_fld (pv 0) rfl) (fun _ _ => rfl)))
/-- Reader.fail_if: slots self, truth, kind -/
def t_Reader_fail_if (K : PySem.W.Frag) (d : Ad) (E : XK) (sp_Fault_init sp_Reader_here : Sp) : TS :=
  tIfS (tB (tVar 1)) (tRaiseO d.cFault sp_Fault_init E (tCons (tVar 2) (tCons (tFld K (tMeth d.cReader "here" sp_Reader_here [] E0 (tVar 0) tNil) "place") (tNil)))) (tNext)
theorem dv_Reader_fail_if (T : Txt K mg d) {sp_Fault_init sp_Reader_here : Sp} (G_Fault_init : FnOk P w K mg base CX0 1 d.f_Fault_init d.fd_Fault_init P_Fault_init sp_Fault_init) (G_Reader_here : FnOk P w K mg base CX0 1 d.f_Reader_here d.fd_Reader_here P_Reader_here sp_Reader_here) {cdv : Value} {A : Around} {outer : List Env} {s : Shared} {H : Hp} {E : XK} (hr : Room 2 (A.deeper (envOfC "Reader.fail_if" (defScope s_Reader_fail_if) s.heap.objs.size d.f_Reader_fail_if cdv))) :
    PSs (cxOf (L2.CX P w) P w K mg base N_Reader_fail_if "Reader.fail_if" (defScope s_Reader_fail_if) d.f_Reader_fail_if cdv A outer s H E) (defBody s_Reader_fail_if) (t_Reader_fail_if K d E sp_Fault_init sp_Reader_here) :=
  pss_one (ps_if (pt_val (pv 1)) (pss_one (ps_raise rfl (takes_of rfl rfl rfl rfl) (pmk_oex T.E.ox_Fault T.E.in_Fault T.E.ti_Fault G_Fault_init (hr.mono (by decide)) (bd_Fault_init T) .nil pass0 (by rfl) T.G.g_Fault (by exact pa_cons (pv 2) (pa_cons (pe_fld (pe_meth0 (pv 0) T.C.cl_Reader T.C.me_Reader_here G_Reader_here (hr.mono (by decide)) (bd_Reader_here T) .nil pass0) rfl) (pa_nil)))))) (pss_nil))
/-- Reader.is_next: slots self, sort_told, text -/
def t_Reader_is_next (K : PySem.W.Frag) (d : Ad) (sp_Reader_here : Sp) : TS :=
  tRet (tAndV (tOp rEq (tFld K (tMeth d.cReader "here" sp_Reader_here [] E0 (tVar 0) tNil) "sort_told") (tVar 1)) (tOp rEq (tFld K (tMeth d.cReader "here" sp_Reader_here [] E0 (tVar 0) tNil) "text") (tVar 2)))
theorem dv_Reader_is_next (T : Txt K mg d) {sp_Reader_here : Sp} (G_Reader_here : FnOk P w K mg base CX0 1 d.f_Reader_here d.fd_Reader_here P_Reader_here sp_Reader_here) {cdv : Value} {A : Around} {outer : List Env} {s : Shared} {H : Hp} {E : XK} (hr : Room 1 (A.deeper (envOfC "Reader.is_next" (defScope s_Reader_is_next) s.heap.objs.size d.f_Reader_is_next cdv))) :
    PSs (cxOf CX0 P w K mg base N_Reader_is_next "Reader.is_next" (defScope s_Reader_is_next) d.f_Reader_is_next cdv A outer s H E).nox (defBody s_Reader_is_next) (t_Reader_is_next K d sp_Reader_here) :=
  pss_one (ps_ret (pe_and (pe_cmpR op_eq (pe_fld (pe_meth0 (pv 0) T.C.cl_Reader T.C.me_Reader_here G_Reader_here (hr.mono (by decide)) (bd_Reader_here T) .nil pass0) rfl) (pv 1) (nomark _)) (pe_one (pe_cmpR op_eq (pe_fld (pe_meth0 (pv 0) T.C.cl_Reader T.C.me_Reader_here G_Reader_here (hr.mono (by decide)) (bd_Reader_here T) .nil pass0) rfl) (pv 2) (nomark _)))))
/-- Reader.look_for: slots self, sort_told, text -/
def t_Reader_look_for (K : PySem.W.Frag) (d : Ad) (sp_Reader_is_next : Sp) : TS :=
  tSeq (tIfS (tNot (tB (tMeth d.cReader "is_next" sp_Reader_is_next [] E0 (tVar 0) (tCons (tVar 1) (tCons (tVar 2) (tNil)))))) (tRet (tC (.bl false))) (tNext))
    (tSeq (sFldAug K (tVar 0) (tC (.int 1)) rAdd "at")
    (tRet (tC (.bl true))))
theorem dv_Reader_look_for (T : Txt K mg d) {sp_Reader_is_next : Sp} (G_Reader_is_next : FnOk P w K mg base CX0 2 d.f_Reader_is_next d.fd_Reader_is_next P_Reader_is_next sp_Reader_is_next) {cdv : Value} {A : Around} {outer : List Env} {s : Shared} {H : Hp} {E : XK} (hr : Room 2 (A.deeper (envOfC "Reader.look_for" (defScope s_Reader_look_for) s.heap.objs.size d.f_Reader_look_for cdv))) :
    PSs (cxOf CX0 P w K mg base N_Reader_look_for "Reader.look_for" (defScope s_Reader_look_for) d.f_Reader_look_for cdv A outer s H E).nox (defBody s_Reader_look_for) (t_Reader_look_for K d sp_Reader_is_next) :=
  pss_cons (ps_if (pt_not (pt_val (pe_meth (pv 0) T.C.cl_Reader T.C.me_Reader_is_next G_Reader_is_next (hr.mono (by decide)) (bd_Reader_is_next T) .nil pass0 (by exact pa_cons (pv 1) (pa_cons (pv 2) (pa_nil)))))) (pss_one (ps_ret (pe_bl))) (pss_nil))
    (pss_cons (ps_fldaug (pv 0) (pe_int) in_add)
    (pss_one (ps_ret (pe_bl))))
/-- Reader.want: slots self, sort_told, text -/
def t_Reader_want (K : PySem.W.Frag) (d : Ad) (E : XK) (sp_Reader_fail_if sp_Reader_look_for : Sp) : TS :=
  tDrop (tMeth d.cReader "fail_if" sp_Reader_fail_if [] E (tVar 0) (tCons (tNotV (tMeth d.cReader "look_for" sp_Reader_look_for [] E0 (tVar 0) (tCons (tVar 1) (tCons (tVar 2) (tNil))))) (tCons (tC (.int 3)) (tNil))))
theorem dv_Reader_want (T : Txt K mg d) {sp_Reader_fail_if sp_Reader_look_for : Sp} (G_Reader_fail_if : FnOk P w K mg base (L2.CX P w) 3 d.f_Reader_fail_if d.fd_Reader_fail_if P_Reader_fail_if sp_Reader_fail_if) (G_Reader_look_for : FnOk P w K mg base CX0 3 d.f_Reader_look_for d.fd_Reader_look_for P_Reader_look_for sp_Reader_look_for) {cdv : Value} {A : Around} {outer : List Env} {s : Shared} {H : Hp} {E : XK} (hr : Room 3 (A.deeper (envOfC "Reader.want" (defScope s_Reader_want) s.heap.objs.size d.f_Reader_want cdv))) :
    PSs (cxOf (L2.CX P w) P w K mg base N_Reader_want "Reader.want" (defScope s_Reader_want) d.f_Reader_want cdv A outer s H E) (defBody s_Reader_want) (t_Reader_want K d E sp_Reader_fail_if sp_Reader_look_for) :=
  pss_one (ps_expr (pe_meth (pv 0) T.C.cl_Reader T.C.me_Reader_fail_if G_Reader_fail_if (hr.mono (by decide)) (bd_Reader_fail_if T) .nil (passes_call (takes_of rfl rfl rfl rfl) fun _ _ _ _ h => h) (by exact pa_cons (pe_not (pe_meth (pv 0) T.C.cl_Reader T.C.me_Reader_look_for G_Reader_look_for (hr.mono (by decide)) (bd_Reader_look_for T) .nil pass0 (by exact pa_cons (pv 1) (pa_cons (pv 2) (pa_nil))))) (pa_cons (pe_gI (by rfl) T.G.m_NOT_HERE) (pa_nil)))))
/-- Reader.read_number: slots self, low, high -/
def t_Reader_read_number (K : PySem.W.Frag) (d : Ad) (E : XK) (sp_Reader_fail_if sp_Reader_here : Sp) : TS :=
  tSeq (tDrop (tMeth d.cReader "fail_if" sp_Reader_fail_if [] E (tVar 0) (tCons (tOp rNe (tFld K (tMeth d.cReader "here" sp_Reader_here [] E0 (tVar 0) tNil) "sort_told") (tC (.str "number"))) (tCons (tC (.int 3)) (tNil)))))
    (tSeq (tDrop (tMeth d.cReader "fail_if" sp_Reader_fail_if [] E (tVar 0) (tCons (tNotV (tChain kLe kLe (tVar 1) (tFld K (tMeth d.cReader "here" sp_Reader_here [] E0 (tVar 0) tNil) "number") (tVar 2))) (tCons (tC (.int 7)) (tNil)))))
    (tSeq (sFldAug K (tVar 0) (tC (.int 1)) rAdd "at")
    (tRet (tFld K (tOp (rIxL K) (tFld K (tVar 0) "tokens") (tOp kSub (tFld K (tVar 0) "at") (tC (.int 1)))) "number"))))
theorem dv_Reader_read_number (T : Txt K mg d) {sp_Reader_fail_if sp_Reader_here : Sp} (G_Reader_fail_if : FnOk P w K mg base (L2.CX P w) 3 d.f_Reader_fail_if d.fd_Reader_fail_if P_Reader_fail_if sp_Reader_fail_if) (G_Reader_here : FnOk P w K mg base CX0 1 d.f_Reader_here d.fd_Reader_here P_Reader_here sp_Reader_here) {cdv : Value} {A : Around} {outer : List Env} {s : Shared} {H : Hp} {E : XK} (hr : Room 3 (A.deeper (envOfC "Reader.read_number" (defScope s_Reader_read_number) s.heap.objs.size d.f_Reader_read_number cdv))) :
    PSs (cxOf (L2.CX P w) P w K mg base N_Reader_read_number "Reader.read_number" (defScope s_Reader_read_number) d.f_Reader_read_number cdv A outer s H E) (defBody s_Reader_read_number) (t_Reader_read_number K d E sp_Reader_fail_if sp_Reader_here) :=
  pss_cons (ps_expr (pe_meth (pv 0) T.C.cl_Reader T.C.me_Reader_fail_if G_Reader_fail_if (hr.mono (by decide)) (bd_Reader_fail_if T) .nil (passes_call (takes_of rfl rfl rfl rfl) fun _ _ _ _ h => h) (by exact pa_cons (pe_cmpR op_ne (pe_fld (pe_meth0 (pv 0) T.C.cl_Reader T.C.me_Reader_here G_Reader_here (hr.mono (by decide)) (bd_Reader_here T) .nil pass0) rfl) (pe_str) (nomark _)) (pa_cons (pe_gI (by rfl) T.G.m_NOT_HERE) (pa_nil)))))
    (pss_cons (ps_expr (pe_meth (pv 0) T.C.cl_Reader T.C.me_Reader_fail_if G_Reader_fail_if (hr.mono (by decide)) (bd_Reader_fail_if T) .nil (passes_call (takes_of rfl rfl rfl rfl) fun _ _ _ _ h => h) (by exact pa_cons (pe_not (pe_chain op_le op_le (pv 1) (pe_fld (pe_meth0 (pv 0) T.C.cl_Reader T.C.me_Reader_here G_Reader_here (hr.mono (by decide)) (bd_Reader_here T) .nil pass0) rfl) (pv 2))) (pa_cons (pe_gI (by rfl) T.G.m_OUT_OF_RANGE) (pa_nil)))))
    (pss_cons (ps_fldaug (pv 0) (pe_int) in_add)
    (pss_one (ps_ret (pe_fld (pe_ix ix_list (pe_fld (pv 0) rfl) (pe_op op_sub (pe_fld (pv 0) rfl) (pe_int)) (fun _ _ => rfl)) rfl)))))
/-- Reader.read_column: slots self, columns -/
def t_Reader_read_column (K : PySem.W.Frag) (d : Ad) (E : XK) (sp_Reader_fail_if sp_Reader_here : Sp) : TS :=
  tSeq (tDrop (tMeth d.cReader "fail_if" sp_Reader_fail_if [] E (tVar 0) (tCons (tOp rNe (tFld K (tMeth d.cReader "here" sp_Reader_here [] E0 (tVar 0) tNil) "sort_told") (tC (.str "name"))) (tCons (tC (.int 3)) (tNil)))))
    (tSeq (tAsg (tFld K (tFld K (tVar 0) "table") "columns") (gName 1))
    (tSeq (tDrop (tMeth d.cReader "fail_if" sp_Reader_fail_if [] E (tVar 0) (tCons (tOp kGe (tCB (Evl.rLenS K) (tCons (tVar 1) (tNil))) (tC (.int 4))) (tCons (tC (.int 4)) (tNil)))))
    (tSeq (tDrop (tMeth d.cReader "fail_if" sp_Reader_fail_if [] E (tVar 0) (tCons (tOp (rIn K false) (tFld K (tMeth d.cReader "here" sp_Reader_here [] E0 (tVar 0) tNil) "text") (tVar 1)) (tCons (tC (.int 5)) (tNil)))))
    (tSeq (tDrop (tBM K "list" rAppend (tVar 1) (tCons (tFld K (tMeth d.cReader "here" sp_Reader_here [] E0 (tVar 0) tNil) "text") (tNil))))
    (sFldAug K (tVar 0) (tC (.int 1)) rAdd "at")))))
theorem dv_Reader_read_column (T : Txt K mg d) {sp_Reader_fail_if sp_Reader_here : Sp} (G_Reader_fail_if : FnOk P w K mg base (L2.CX P w) 3 d.f_Reader_fail_if d.fd_Reader_fail_if P_Reader_fail_if sp_Reader_fail_if) (G_Reader_here : FnOk P w K mg base CX0 1 d.f_Reader_here d.fd_Reader_here P_Reader_here sp_Reader_here) {cdv : Value} {A : Around} {outer : List Env} {s : Shared} {H : Hp} {E : XK} (hr : Room 3 (A.deeper (envOfC "Reader.read_column" (defScope s_Reader_read_column) s.heap.objs.size d.f_Reader_read_column cdv))) :
    PSs (cxOf (L2.CX P w) P w K mg base N_Reader_read_column "Reader.read_column" (defScope s_Reader_read_column) d.f_Reader_read_column cdv A outer s H E) (defBody s_Reader_read_column) (t_Reader_read_column K d E sp_Reader_fail_if sp_Reader_here) :=
  pss_cons (ps_expr (pe_meth (pv 0) T.C.cl_Reader T.C.me_Reader_fail_if G_Reader_fail_if (hr.mono (by decide)) (bd_Reader_fail_if T) .nil (passes_call (takes_of rfl rfl rfl rfl) fun _ _ _ _ h => h) (by exact pa_cons (pe_cmpR op_ne (pe_fld (pe_meth0 (pv 0) T.C.cl_Reader T.C.me_Reader_here G_Reader_here (hr.mono (by decide)) (bd_Reader_here T) .nil pass0) rfl) (pe_str) (nomark _)) (pa_cons (pe_gI (by rfl) T.G.m_NOT_HERE) (pa_nil)))))
    (pss_cons (ps_set (i := 1) sc_Reader_read_column.nd rfl (by first | exact Or.inl rfl | exact Or.inr rfl) (by exact pe_fld (pe_fld (pv 0) rfl) rfl))
    (pss_cons (ps_expr (pe_meth (pv 0) T.C.cl_Reader T.C.me_Reader_fail_if G_Reader_fail_if (hr.mono (by decide)) (bd_Reader_fail_if T) .nil (passes_call (takes_of rfl rfl rfl rfl) fun _ _ _ _ h => h) (by exact pa_cons (pe_cmpR op_ge (pe_callB call_len_seq (by rfl) T.G.b_len PySem.boot_len (pa_cons (pv 1) (pa_nil))) (pe_gI (by rfl) T.G.m_MOST_COLUMNS) (nomark _)) (pa_cons (pe_gI (by rfl) T.G.m_TOO_MANY) (pa_nil)))))
    (pss_cons (ps_expr (pe_meth (pv 0) T.C.cl_Reader T.C.me_Reader_fail_if G_Reader_fail_if (hr.mono (by decide)) (bd_Reader_fail_if T) .nil (passes_call (takes_of rfl rfl rfl rfl) fun _ _ _ _ h => h) (by exact pa_cons (pe_cmpR op_in_seq (pe_fld (pe_meth0 (pv 0) T.C.cl_Reader T.C.me_Reader_here G_Reader_here (hr.mono (by decide)) (bd_Reader_here T) .nil pass0) rfl) (pv 1) (by with_unfolding_all rfl)) (pa_cons (pe_gI (by rfl) T.G.m_COLUMN_TWICE) (pa_nil)))))
    (pss_cons (ps_expr (pe_bm PySem.F.plainAttrs_list PySem.F.slot_list_append PySem.F.type_list_append mt_append (pv 1) (pa_cons (pe_fld (pe_meth0 (pv 0) T.C.cl_Reader T.C.me_Reader_here G_Reader_here (hr.mono (by decide)) (bd_Reader_here T) .nil pass0) rfl) (pa_nil))))
    (pss_one (ps_fldaug (pv 0) (pe_int) in_add))))))
/-- Reader.read_columns: slots self -/
def t_Reader_read_columns (K : PySem.W.Frag) (d : Ad) (E : XK) (sp_Reader_want sp_Reader_read_column sp_Reader_look_for : Sp) : TS :=
  tSeq (tDrop (tMeth d.cReader "want" sp_Reader_want [] E (tVar 0) (tCons (tC (.str "word")) (tCons (tC (.str "columns")) (tNil)))))
    (tSeq (tDrop (tMeth d.cReader "read_column" sp_Reader_read_column [] E (tVar 0) tNil))
    (tSeq (tWhile (tB (tMeth d.cReader "look_for" sp_Reader_look_for [] E0 (tVar 0) (tCons (tC (.str "sign")) (tCons (tC (.str ",")) (tNil))))) (tDrop (tMeth d.cReader "read_column" sp_Reader_read_column [] E (tVar 0) tNil)))
    (tDrop (tMeth d.cReader "want" sp_Reader_want [] E (tVar 0) (tCons (tC (.str "sign")) (tCons (tC (.str ";")) (tNil)))))))
theorem dv_Reader_read_columns (T : Txt K mg d) {sp_Reader_want sp_Reader_read_column sp_Reader_look_for : Sp} (G_Reader_want : FnOk P w K mg base (L2.CX P w) 4 d.f_Reader_want d.fd_Reader_want P_Reader_want sp_Reader_want) (G_Reader_read_column : FnOk P w K mg base (L2.CX P w) 4 d.f_Reader_read_column d.fd_Reader_read_column P_Reader_read_column sp_Reader_read_column) (G_Reader_look_for : FnOk P w K mg base CX0 3 d.f_Reader_look_for d.fd_Reader_look_for P_Reader_look_for sp_Reader_look_for) {cdv : Value} {A : Around} {outer : List Env} {s : Shared} {H : Hp} {E : XK} (hr : Room 4 (A.deeper (envOfC "Reader.read_columns" (defScope s_Reader_read_columns) s.heap.objs.size d.f_Reader_read_columns cdv))) :
    PSs (cxOf (L2.CX P w) P w K mg base N_Reader_read_columns "Reader.read_columns" (defScope s_Reader_read_columns) d.f_Reader_read_columns cdv A outer s H E) (defBody s_Reader_read_columns) (t_Reader_read_columns K d E sp_Reader_want sp_Reader_read_column sp_Reader_look_for) :=
  pss_cons (ps_expr (pe_meth (pv 0) T.C.cl_Reader T.C.me_Reader_want G_Reader_want (hr.mono (by decide)) (bd_Reader_want T) .nil (passes_call (takes_of rfl rfl rfl rfl) fun _ _ _ _ h => h) (by exact pa_cons (pe_str) (pa_cons (pe_str) (pa_nil)))))
    (pss_cons (ps_expr (pe_meth0 (pv 0) T.C.cl_Reader T.C.me_Reader_read_column G_Reader_read_column (hr.mono (by decide)) (bd_Reader_read_column T) .nil (passes_call (takes_of rfl rfl rfl rfl) fun _ _ _ _ h => h)))
    (pss_cons (ps_while (passes_of rfl) (pt_val (pe_meth (pv 0) T.C.cl_Reader T.C.me_Reader_look_for G_Reader_look_for (hr.mono (by decide)) (bd_Reader_look_for T) .nil pass0 (by exact pa_cons (pe_str) (pa_cons (pe_str) (pa_nil))))) (pss_one (ps_expr (pe_meth0 (pv 0) T.C.cl_Reader T.C.me_Reader_read_column G_Reader_read_column (hr.mono (by decide)) (bd_Reader_read_column T) .nil (passes_call (takes_of rfl rfl rfl rfl) fun _ _ _ _ h => h)))))
    (pss_one (ps_expr (pe_meth (pv 0) T.C.cl_Reader T.C.me_Reader_want G_Reader_want (hr.mono (by decide)) (bd_Reader_want T) .nil (passes_call (takes_of rfl rfl rfl rfl) fun _ _ _ _ h => h) (by exact pa_cons (pe_str) (pa_cons (pe_str) (pa_nil))))))))
/-- Reader.read_row: slots self, found, place -/
def t_Reader_read_row (K : PySem.W.Frag) (d : Ad) (E : XK) (sp_Reader_want sp_Reader_read_number sp_Reader_look_for : Sp) : TS :=
  tSeq (tAsg (tLst (tNil)) (gName 1))
    (tSeq (tFor (iRng1 (tCons (tCB (Evl.rLenS K) (tCons (tFld K (tFld K (tVar 0) "table") "columns") (tNil))) (tNil))) (gName 2) (tSeq (tIfS (tTest (tOp kGt (tVar 2) (tC (.int 0)))) (tDrop (tMeth d.cReader "want" sp_Reader_want [] E (tVar 0) (tCons (tC (.str "sign")) (tCons (tC (.str ",")) (tNil))))) (tNext))
    (tDrop (tBM K "list" rAppend (tVar 1) (tCons (tMeth d.cReader "read_number" sp_Reader_read_number [] E (tVar 0) (tCons (tC (.int 0)) (tCons (tC (.int 9)) (tNil)))) (tNil))))))
    (tSeq (tDrop (tMeth d.cReader "want" sp_Reader_want [] E (tVar 0) (tCons (tC (.str "sign")) (tCons (tC (.str ":")) (tNil)))))
    (tSeq (tDrop (tMeth d.cReader "look_for" sp_Reader_look_for [] E0 (tVar 0) (tCons (tC (.str "sign")) (tCons (tC (.str "-")) (tNil)))))
    (tSeq (tDrop (tMeth d.cReader "read_number" sp_Reader_read_number [] E (tVar 0) (tCons (tC (.int 0)) (tCons (tC (.int 1000)) (tNil)))))
    (tSeq (tDrop (tMeth d.cReader "want" sp_Reader_want [] E (tVar 0) (tCons (tC (.str "sign")) (tCons (tC (.str ";")) (tNil)))))
    (tRet (tVar 1)))))))
theorem dv_Reader_read_row (T : Txt K mg d) {sp_Reader_want sp_Reader_read_number sp_Reader_look_for : Sp} (G_Reader_want : FnOk P w K mg base (L2.CX P w) 4 d.f_Reader_want d.fd_Reader_want P_Reader_want sp_Reader_want) (G_Reader_read_number : FnOk P w K mg base (L2.CX P w) 4 d.f_Reader_read_number d.fd_Reader_read_number P_Reader_read_number sp_Reader_read_number) (G_Reader_look_for : FnOk P w K mg base CX0 3 d.f_Reader_look_for d.fd_Reader_look_for P_Reader_look_for sp_Reader_look_for) {cdv : Value} {A : Around} {outer : List Env} {s : Shared} {H : Hp} {E : XK} (hr : Room 4 (A.deeper (envOfC "Reader.read_row" (defScope s_Reader_read_row) s.heap.objs.size d.f_Reader_read_row cdv))) :
    PSs (cxOf (L2.CX P w) P w K mg base N_Reader_read_row "Reader.read_row" (defScope s_Reader_read_row) d.f_Reader_read_row cdv A outer s H E) (defBody s_Reader_read_row) (t_Reader_read_row K d E sp_Reader_want sp_Reader_read_number sp_Reader_look_for) :=
  pss_cons (ps_set (i := 1) sc_Reader_read_row.nd rfl (by first | exact Or.inl rfl | exact Or.inr rfl) (by exact pe_lst (pa_nil)))
    (pss_cons (ps_for (passes_of rfl) rfl (pi_range1 (by rfl) T.G.b_range (pa_cons (pe_callB call_len_seq (by rfl) T.G.b_len PySem.boot_len (pa_cons (pe_fld (pe_fld (pv 0) rfl) rfl) (pa_nil))) (pa_nil))) (pg_name (i := 2) sc_Reader_read_row.nd rfl (by first | exact Or.inl rfl | exact Or.inr rfl)) (pss_cons (ps_if (pt_cmpR op_gt (pv 2) (pe_int) (nomark _)) (pss_one (ps_expr (pe_meth (pv 0) T.C.cl_Reader T.C.me_Reader_want G_Reader_want (hr.mono (by decide)) (bd_Reader_want T) .nil (passes_call (takes_of rfl rfl rfl rfl) fun _ _ _ _ h => h) (by exact pa_cons (pe_str) (pa_cons (pe_str) (pa_nil)))))) (pss_nil))
    (pss_one (ps_expr (pe_bm PySem.F.plainAttrs_list PySem.F.slot_list_append PySem.F.type_list_append mt_append (pv 1) (pa_cons (pe_meth (pv 0) T.C.cl_Reader T.C.me_Reader_read_number G_Reader_read_number (hr.mono (by decide)) (bd_Reader_read_number T) .nil (passes_call (takes_of rfl rfl rfl rfl) fun _ _ _ _ h => h) (by exact pa_cons (pe_int) (pa_cons (pe_gI (by rfl) T.G.m_MOST_VALUE) (pa_nil)))) (pa_nil)))))))
    (pss_cons (ps_expr (pe_meth (pv 0) T.C.cl_Reader T.C.me_Reader_want G_Reader_want (hr.mono (by decide)) (bd_Reader_want T) .nil (passes_call (takes_of rfl rfl rfl rfl) fun _ _ _ _ h => h) (by exact pa_cons (pe_str) (pa_cons (pe_str) (pa_nil)))))
    (pss_cons (ps_expr (pe_meth (pv 0) T.C.cl_Reader T.C.me_Reader_look_for G_Reader_look_for (hr.mono (by decide)) (bd_Reader_look_for T) .nil pass0 (by exact pa_cons (pe_str) (pa_cons (pe_str) (pa_nil)))))
    (pss_cons (ps_expr (pe_meth (pv 0) T.C.cl_Reader T.C.me_Reader_read_number G_Reader_read_number (hr.mono (by decide)) (bd_Reader_read_number T) .nil (passes_call (takes_of rfl rfl rfl rfl) fun _ _ _ _ h => h) (by exact pa_cons (pe_int) (pa_cons (pe_gI (by rfl) T.G.m_MOST_SUMMED) (pa_nil)))))
    (pss_cons (ps_expr (pe_meth (pv 0) T.C.cl_Reader T.C.me_Reader_want G_Reader_want (hr.mono (by decide)) (bd_Reader_want T) .nil (passes_call (takes_of rfl rfl rfl rfl) fun _ _ _ _ h => h) (by exact pa_cons (pe_str) (pa_cons (pe_str) (pa_nil)))))
    (pss_one (ps_ret (pv 1))))))))
/-- Reader.read_name: slots self, grouping, text, bit -/
def t_Reader_read_name (K : PySem.W.Frag) (d : Ad) (E : XK) (sp_Reader_fail_if sp_Reader_here : Sp) : TS :=
  tSeq (tDrop (tMeth d.cReader "fail_if" sp_Reader_fail_if [] E (tVar 0) (tCons (tOp rNe (tFld K (tMeth d.cReader "here" sp_Reader_here [] E0 (tVar 0) tNil) "sort_told") (tC (.str "name"))) (tCons (tC (.int 3)) (tNil)))))
    (tSeq (tAsg (tFld K (tMeth d.cReader "here" sp_Reader_here [] E0 (tVar 0) tNil) "text") (gName 2))
    (tSeq (tDrop (tMeth d.cReader "fail_if" sp_Reader_fail_if [] E (tVar 0) (tCons (tOp (rIn K true) (tVar 2) (tFld K (tFld K (tVar 0) "table") "columns")) (tCons (tC (.int 8)) (tNil)))))
    (tSeq (tAsg (tOp kShl (tC (.int 1)) (tBM K "list" (rIndex K) (tFld K (tFld K (tVar 0) "table") "columns") (tCons (tVar 2) (tNil)))) (gName 3))
    (tSeq (tDrop (tMeth d.cReader "fail_if" sp_Reader_fail_if [] E (tVar 0) (tCons (tOp kGt (tOp kAnd (tVar 1) (tVar 3)) (tC (.int 0))) (tCons (tC (.int 6)) (tNil)))))
    (tSeq (sFldAug K (tVar 0) (tC (.int 1)) rAdd "at")
    (tRet (tVar 3)))))))
theorem dv_Reader_read_name (T : Txt K mg d) {sp_Reader_fail_if sp_Reader_here : Sp} (G_Reader_fail_if : FnOk P w K mg base (L2.CX P w) 3 d.f_Reader_fail_if d.fd_Reader_fail_if P_Reader_fail_if sp_Reader_fail_if) (G_Reader_here : FnOk P w K mg base CX0 1 d.f_Reader_here d.fd_Reader_here P_Reader_here sp_Reader_here) {cdv : Value} {A : Around} {outer : List Env} {s : Shared} {H : Hp} {E : XK} (hr : Room 3 (A.deeper (envOfC "Reader.read_name" (defScope s_Reader_read_name) s.heap.objs.size d.f_Reader_read_name cdv))) :
    PSs (cxOf (L2.CX P w) P w K mg base N_Reader_read_name "Reader.read_name" (defScope s_Reader_read_name) d.f_Reader_read_name cdv A outer s H E) (defBody s_Reader_read_name) (t_Reader_read_name K d E sp_Reader_fail_if sp_Reader_here) :=
  pss_cons (ps_expr (pe_meth (pv 0) T.C.cl_Reader T.C.me_Reader_fail_if G_Reader_fail_if (hr.mono (by decide)) (bd_Reader_fail_if T) .nil (passes_call (takes_of rfl rfl rfl rfl) fun _ _ _ _ h => h) (by exact pa_cons (pe_cmpR op_ne (pe_fld (pe_meth0 (pv 0) T.C.cl_Reader T.C.me_Reader_here G_Reader_here (hr.mono (by decide)) (bd_Reader_here T) .nil pass0) rfl) (pe_str) (nomark _)) (pa_cons (pe_gI (by rfl) T.G.m_NOT_HERE) (pa_nil)))))
    (pss_cons (ps_set (i := 2) sc_Reader_read_name.nd rfl (by first | exact Or.inl rfl | exact Or.inr rfl) (by exact pe_fld (pe_meth0 (pv 0) T.C.cl_Reader T.C.me_Reader_here G_Reader_here (hr.mono (by decide)) (bd_Reader_here T) .nil pass0) rfl))
    (pss_cons (ps_expr (pe_meth (pv 0) T.C.cl_Reader T.C.me_Reader_fail_if G_Reader_fail_if (hr.mono (by decide)) (bd_Reader_fail_if T) .nil (passes_call (takes_of rfl rfl rfl rfl) fun _ _ _ _ h => h) (by exact pa_cons (pe_cmpR op_notIn_seq (pv 2) (pe_fld (pe_fld (pv 0) rfl) rfl) (by with_unfolding_all rfl)) (pa_cons (pe_gI (by rfl) T.G.m_NO_COLUMN) (pa_nil)))))
    (pss_cons (ps_set (i := 3) sc_Reader_read_name.nd rfl (by first | exact Or.inl rfl | exact Or.inr rfl) (by exact pe_op op_shl (pe_int) (pe_bm PySem.F.plainAttrs_list PySem.F.slot_list_index PySem.F.type_list_index mt_index (pe_fld (pe_fld (pv 0) rfl) rfl) (pa_cons (pv 2) (pa_nil)))))
    (pss_cons (ps_expr (pe_meth (pv 0) T.C.cl_Reader T.C.me_Reader_fail_if G_Reader_fail_if (hr.mono (by decide)) (bd_Reader_fail_if T) .nil (passes_call (takes_of rfl rfl rfl rfl) fun _ _ _ _ h => h) (by exact pa_cons (pe_cmpR op_gt (pe_op op_and (pv 1) (pv 3)) (pe_int) (nomark _)) (pa_cons (pe_gI (by rfl) T.G.m_NAME_TWICE) (pa_nil)))))
    (pss_cons (ps_fldaug (pv 0) (pe_int) in_add)
    (pss_one (ps_ret (pv 3))))))))
/-- Reader.read_question: slots self, grouping, often -/
def t_Reader_read_question (K : PySem.W.Frag) (d : Ad) (E : XK) (sp_Reader_here sp_Reader_read_name sp_Reader_look_for sp_Reader_read_number sp_Reader_want sp_Question_init : Sp) : TS :=
  tSeq (tAsg (tC (.int 0)) (gName 1))
    (tSeq (tIfS (tTest (tOp rEq (tFld K (tMeth d.cReader "here" sp_Reader_here [] E0 (tVar 0) tNil) "sort_told") (tC (.str "name")))) (tSeq (tAsg (tMeth d.cReader "read_name" sp_Reader_read_name [] E (tVar 0) (tCons (tC (.int 0)) (tNil))) (gName 1))
    (tWhile (tB (tMeth d.cReader "look_for" sp_Reader_look_for [] E0 (tVar 0) (tCons (tC (.str "sign")) (tCons (tC (.str ",")) (tNil))))) (tAug 1 (tMeth d.cReader "read_name" sp_Reader_read_name [] E (tVar 0) (tCons (tVar 1) (tNil))) (ipI fun i j => i + j)))) (tNext))
    (tSeq (tAsg (tC (.int 1)) (gName 2))
    (tSeq (tIfS (tB (tMeth d.cReader "look_for" sp_Reader_look_for [] E0 (tVar 0) (tCons (tC (.str "word")) (tCons (tC (.str "times")) (tNil))))) (tAsg (tMeth d.cReader "read_number" sp_Reader_read_number [] E (tVar 0) (tCons (tC (.int 1)) (tCons (tC (.int 99)) (tNil)))) (gName 2)) (tNext))
    (tSeq (tDrop (tMeth d.cReader "want" sp_Reader_want [] E (tVar 0) (tCons (tC (.str "sign")) (tCons (tC (.str ";")) (tNil)))))
    (tRet (tMake d.cQuestion sp_Question_init [] E0 (tCons (tVar 1) (tCons (tVar 2) (tNil)))))))))
theorem dv_Reader_read_question (T : Txt K mg d) {sp_Reader_here sp_Reader_read_name sp_Reader_look_for sp_Reader_read_number sp_Reader_want sp_Question_init : Sp} (G_Reader_here : FnOk P w K mg base CX0 1 d.f_Reader_here d.fd_Reader_here P_Reader_here sp_Reader_here) (G_Reader_read_name : FnOk P w K mg base (L2.CX P w) 4 d.f_Reader_read_name d.fd_Reader_read_name P_Reader_read_name sp_Reader_read_name) (G_Reader_look_for : FnOk P w K mg base CX0 3 d.f_Reader_look_for d.fd_Reader_look_for P_Reader_look_for sp_Reader_look_for) (G_Reader_read_number : FnOk P w K mg base (L2.CX P w) 4 d.f_Reader_read_number d.fd_Reader_read_number P_Reader_read_number sp_Reader_read_number) (G_Reader_want : FnOk P w K mg base (L2.CX P w) 4 d.f_Reader_want d.fd_Reader_want P_Reader_want sp_Reader_want) (G_Question_init : FnOk P w K mg base CX0 1 d.f_Question_init d.fd_Question_init P_Question_init sp_Question_init) {cdv : Value} {A : Around} {outer : List Env} {s : Shared} {H : Hp} {E : XK} (hr : Room 4 (A.deeper (envOfC "Reader.read_question" (defScope s_Reader_read_question) s.heap.objs.size d.f_Reader_read_question cdv))) :
    PSs (cxOf (L2.CX P w) P w K mg base N_Reader_read_question "Reader.read_question" (defScope s_Reader_read_question) d.f_Reader_read_question cdv A outer s H E) (defBody s_Reader_read_question) (t_Reader_read_question K d E sp_Reader_here sp_Reader_read_name sp_Reader_look_for sp_Reader_read_number sp_Reader_want sp_Question_init) :=
  pss_cons (ps_set (i := 1) sc_Reader_read_question.nd rfl (by first | exact Or.inl rfl | exact Or.inr rfl) (by exact pe_int))
    (pss_cons (ps_if (pt_cmpR op_eq (pe_fld (pe_meth0 (pv 0) T.C.cl_Reader T.C.me_Reader_here G_Reader_here (hr.mono (by decide)) (bd_Reader_here T) .nil pass0) rfl) (pe_str) (nomark _)) (pss_cons (ps_set (i := 1) sc_Reader_read_question.nd rfl (by first | exact Or.inl rfl | exact Or.inr rfl) (by exact pe_meth (pv 0) T.C.cl_Reader T.C.me_Reader_read_name G_Reader_read_name (hr.mono (by decide)) (bd_Reader_read_name T) .nil (passes_call (takes_of rfl rfl rfl rfl) fun _ _ _ _ h => h) (by exact pa_cons (pe_int) (pa_nil))))
    (pss_one (ps_while (passes_of rfl) (pt_val (pe_meth (pv 0) T.C.cl_Reader T.C.me_Reader_look_for G_Reader_look_for (hr.mono (by decide)) (bd_Reader_look_for T) .nil pass0 (by exact pa_cons (pe_str) (pa_cons (pe_str) (pa_nil))))) (pss_one (ps_aug (i := 1) sc_Reader_read_question.nd rfl (by first | exact Or.inl rfl | exact Or.inr rfl) (pe_meth (pv 0) T.C.cl_Reader T.C.me_Reader_read_name G_Reader_read_name (hr.mono (by decide)) (bd_Reader_read_name T) .nil (passes_call (takes_of rfl rfl rfl rfl) fun _ _ _ _ h => h) (by exact pa_cons (pv 1) (pa_nil))) ip_add))))) (pss_nil))
    (pss_cons (ps_set (i := 2) sc_Reader_read_question.nd rfl (by first | exact Or.inl rfl | exact Or.inr rfl) (by exact pe_int))
    (pss_cons (ps_if (pt_val (pe_meth (pv 0) T.C.cl_Reader T.C.me_Reader_look_for G_Reader_look_for (hr.mono (by decide)) (bd_Reader_look_for T) .nil pass0 (by exact pa_cons (pe_str) (pa_cons (pe_str) (pa_nil))))) (pss_one (ps_set (i := 2) sc_Reader_read_question.nd rfl (by first | exact Or.inl rfl | exact Or.inr rfl) (by exact pe_meth (pv 0) T.C.cl_Reader T.C.me_Reader_read_number G_Reader_read_number (hr.mono (by decide)) (bd_Reader_read_number T) .nil (passes_call (takes_of rfl rfl rfl rfl) fun _ _ _ _ h => h) (by exact pa_cons (pe_int) (pa_cons (pe_gI (by rfl) T.G.m_MOST_TIMES) (pa_nil)))))) (pss_nil))
    (pss_cons (ps_expr (pe_meth (pv 0) T.C.cl_Reader T.C.me_Reader_want G_Reader_want (hr.mono (by decide)) (bd_Reader_want T) .nil (passes_call (takes_of rfl rfl rfl rfl) fun _ _ _ _ h => h) (by exact pa_cons (pe_str) (pa_cons (pe_str) (pa_nil)))))
    (pss_one (ps_ret (pe_make T.C.mk_Question G_Question_init (hr.mono (by decide)) (by rfl) T.G.g_Question (bd_Question_init T) .nil pass0 (by exact pa_cons (pv 1) (pa_cons (pv 2) (pa_nil))))))))))
/-- Reader.read: slots self, table -/
def t_Reader_read (K : PySem.W.Frag) (d : Ad) (E : XK) (sp_Reader_read_columns sp_Reader_here sp_Reader_is_next sp_Reader_fail_if sp_Reader_want sp_Reader_read_row sp_Reader_read_question : Sp) : TS :=
  tSeq (tDrop (tMeth d.cReader "read_columns" sp_Reader_read_columns [] E (tVar 0) tNil))
    (tSeq (tAsg (tFld K (tVar 0) "table") (gName 1))
    (tSeq (tWhile (tTest (tOp rNe (tFld K (tMeth d.cReader "here" sp_Reader_here [] E0 (tVar 0) tNil) "sort_told") (tC (.str "end")))) (tIfS (tB (tMeth d.cReader "is_next" sp_Reader_is_next [] E0 (tVar 0) (tCons (tC (.str "word")) (tCons (tC (.str "row")) (tNil))))) (tSeq (tDrop (tMeth d.cReader "fail_if" sp_Reader_fail_if [] E (tVar 0) (tCons (tOp kGe (tCB (Evl.rLenS K) (tCons (tFld K (tVar 1) "rows") (tNil))) (tC (.int 16))) (tCons (tC (.int 4)) (tNil)))))
    (tSeq (tDrop (tMeth d.cReader "want" sp_Reader_want [] E (tVar 0) (tCons (tC (.str "word")) (tCons (tC (.str "row")) (tNil)))))
    (tDrop (tBM K "list" rAppend (tFld K (tVar 1) "rows") (tCons (tMeth d.cReader "read_row" sp_Reader_read_row [] E (tVar 0) tNil) (tNil)))))) (tSeq (tDrop (tMeth d.cReader "fail_if" sp_Reader_fail_if [] E (tVar 0) (tCons (tNotV (tMeth d.cReader "is_next" sp_Reader_is_next [] E0 (tVar 0) (tCons (tC (.str "word")) (tCons (tC (.str "ask")) (tNil))))) (tCons (tC (.int 3)) (tNil)))))
    (tSeq (tDrop (tMeth d.cReader "fail_if" sp_Reader_fail_if [] E (tVar 0) (tCons (tOp kGe (tCB (Evl.rLenS K) (tCons (tFld K (tVar 1) "questions") (tNil))) (tC (.int 8))) (tCons (tC (.int 4)) (tNil)))))
    (tSeq (tDrop (tMeth d.cReader "want" sp_Reader_want [] E (tVar 0) (tCons (tC (.str "word")) (tCons (tC (.str "ask")) (tNil)))))
    (tDrop (tBM K "list" rAppend (tFld K (tVar 1) "questions") (tCons (tMeth d.cReader "read_question" sp_Reader_read_question [] E (tVar 0) tNil) (tNil)))))))))
    (tRet (tVar 1))))
theorem dv_Reader_read (T : Txt K mg d) {sp_Reader_read_columns sp_Reader_here sp_Reader_is_next sp_Reader_fail_if sp_Reader_want sp_Reader_read_row sp_Reader_read_question : Sp} (G_Reader_read_columns : FnOk P w K mg base (L2.CX P w) 5 d.f_Reader_read_columns d.fd_Reader_read_columns P_Reader_read_columns sp_Reader_read_columns) (G_Reader_here : FnOk P w K mg base CX0 1 d.f_Reader_here d.fd_Reader_here P_Reader_here sp_Reader_here) (G_Reader_is_next : FnOk P w K mg base CX0 2 d.f_Reader_is_next d.fd_Reader_is_next P_Reader_is_next sp_Reader_is_next) (G_Reader_fail_if : FnOk P w K mg base (L2.CX P w) 3 d.f_Reader_fail_if d.fd_Reader_fail_if P_Reader_fail_if sp_Reader_fail_if) (G_Reader_want : FnOk P w K mg base (L2.CX P w) 4 d.f_Reader_want d.fd_Reader_want P_Reader_want sp_Reader_want) (G_Reader_read_row : FnOk P w K mg base (L2.CX P w) 5 d.f_Reader_read_row d.fd_Reader_read_row P_Reader_read_row sp_Reader_read_row) (G_Reader_read_question : FnOk P w K mg base (L2.CX P w) 5 d.f_Reader_read_question d.fd_Reader_read_question P_Reader_read_question sp_Reader_read_question) {cdv : Value} {A : Around} {outer : List Env} {s : Shared} {H : Hp} {E : XK} (hr : Room 5 (A.deeper (envOfC "Reader.read" (defScope s_Reader_read) s.heap.objs.size d.f_Reader_read cdv))) :
    PSs (cxOf (L2.CX P w) P w K mg base N_Reader_read "Reader.read" (defScope s_Reader_read) d.f_Reader_read cdv A outer s H E) (defBody s_Reader_read) (t_Reader_read K d E sp_Reader_read_columns sp_Reader_here sp_Reader_is_next sp_Reader_fail_if sp_Reader_want sp_Reader_read_row sp_Reader_read_question) :=
  pss_cons (ps_expr (pe_meth0 (pv 0) T.C.cl_Reader T.C.me_Reader_read_columns G_Reader_read_columns (hr.mono (by decide)) (bd_Reader_read_columns T) .nil (passes_call (takes_of rfl rfl rfl rfl) fun _ _ _ _ h => h)))
    (pss_cons (ps_set (i := 1) sc_Reader_read.nd rfl (by first | exact Or.inl rfl | exact Or.inr rfl) (by exact pe_fld (pv 0) rfl))
    (pss_cons (ps_while (passes_of rfl) (pt_cmpR op_ne (pe_fld (pe_meth0 (pv 0) T.C.cl_Reader T.C.me_Reader_here G_Reader_here (hr.mono (by decide)) (bd_Reader_here T) .nil pass0) rfl) (pe_str) (nomark _)) (pss_one (ps_if (pt_val (pe_meth (pv 0) T.C.cl_Reader T.C.me_Reader_is_next G_Reader_is_next (hr.mono (by decide)) (bd_Reader_is_next T) .nil pass0 (by exact pa_cons (pe_str) (pa_cons (pe_str) (pa_nil))))) (pss_cons (ps_expr (pe_meth (pv 0) T.C.cl_Reader T.C.me_Reader_fail_if G_Reader_fail_if (hr.mono (by decide)) (bd_Reader_fail_if T) .nil (passes_call (takes_of rfl rfl rfl rfl) fun _ _ _ _ h => h) (by exact pa_cons (pe_cmpR op_ge (pe_callB call_len_seq (by rfl) T.G.b_len PySem.boot_len (pa_cons (pe_fld (pv 1) rfl) (pa_nil))) (pe_gI (by rfl) T.G.m_MOST_ROWS) (nomark _)) (pa_cons (pe_gI (by rfl) T.G.m_TOO_MANY) (pa_nil)))))
    (pss_cons (ps_expr (pe_meth (pv 0) T.C.cl_Reader T.C.me_Reader_want G_Reader_want (hr.mono (by decide)) (bd_Reader_want T) .nil (passes_call (takes_of rfl rfl rfl rfl) fun _ _ _ _ h => h) (by exact pa_cons (pe_str) (pa_cons (pe_str) (pa_nil)))))
    (pss_one (ps_expr (pe_bm PySem.F.plainAttrs_list PySem.F.slot_list_append PySem.F.type_list_append mt_append (pe_fld (pv 1) rfl) (pa_cons (pe_meth0 (pv 0) T.C.cl_Reader T.C.me_Reader_read_row G_Reader_read_row (hr.mono (by decide)) (bd_Reader_read_row T) .nil (passes_call (takes_of rfl rfl rfl rfl) fun _ _ _ _ h => h)) (pa_nil))))))) (pss_cons (ps_expr (pe_meth (pv 0) T.C.cl_Reader T.C.me_Reader_fail_if G_Reader_fail_if (hr.mono (by decide)) (bd_Reader_fail_if T) .nil (passes_call (takes_of rfl rfl rfl rfl) fun _ _ _ _ h => h) (by exact pa_cons (pe_not (pe_meth (pv 0) T.C.cl_Reader T.C.me_Reader_is_next G_Reader_is_next (hr.mono (by decide)) (bd_Reader_is_next T) .nil pass0 (by exact pa_cons (pe_str) (pa_cons (pe_str) (pa_nil))))) (pa_cons (pe_gI (by rfl) T.G.m_NOT_HERE) (pa_nil)))))
    (pss_cons (ps_expr (pe_meth (pv 0) T.C.cl_Reader T.C.me_Reader_fail_if G_Reader_fail_if (hr.mono (by decide)) (bd_Reader_fail_if T) .nil (passes_call (takes_of rfl rfl rfl rfl) fun _ _ _ _ h => h) (by exact pa_cons (pe_cmpR op_ge (pe_callB call_len_seq (by rfl) T.G.b_len PySem.boot_len (pa_cons (pe_fld (pv 1) rfl) (pa_nil))) (pe_gI (by rfl) T.G.m_MOST_QUESTIONS) (nomark _)) (pa_cons (pe_gI (by rfl) T.G.m_TOO_MANY) (pa_nil)))))
    (pss_cons (ps_expr (pe_meth (pv 0) T.C.cl_Reader T.C.me_Reader_want G_Reader_want (hr.mono (by decide)) (bd_Reader_want T) .nil (passes_call (takes_of rfl rfl rfl rfl) fun _ _ _ _ h => h) (by exact pa_cons (pe_str) (pa_cons (pe_str) (pa_nil)))))
    (pss_one (ps_expr (pe_bm PySem.F.plainAttrs_list PySem.F.slot_list_append PySem.F.type_list_append mt_append (pe_fld (pv 1) rfl) (pa_cons (pe_meth0 (pv 0) T.C.cl_Reader T.C.me_Reader_read_question G_Reader_read_question (hr.mono (by decide)) (bd_Reader_read_question T) .nil (passes_call (takes_of rfl rfl rfl rfl) fun _ _ _ _ h => h)) (pa_nil)))))))))))
    (pss_one (ps_ret (pv 1)))))
/-- table_of: slots text -/
def t_table_of (K : PySem.W.Frag) (d : Ad) (E : XK) (sp_Reader_init sp_Reader_read : Sp) : TS :=
  tRet (tMeth d.cReader "read" sp_Reader_read [] E (tMake d.cReader sp_Reader_init [] E (tCons (tVar 0) (tNil))) tNil)
theorem dv_table_of (T : Txt K mg d) {sp_Reader_init sp_Reader_read : Sp} (G_Reader_init : FnOk P w K mg base (L2.CX P w) 5 d.f_Reader_init d.fd_Reader_init P_Reader_init sp_Reader_init) (G_Reader_read : FnOk P w K mg base (L2.CX P w) 6 d.f_Reader_read d.fd_Reader_read P_Reader_read sp_Reader_read) {cdv : Value} {A : Around} {outer : List Env} {s : Shared} {H : Hp} {E : XK} (hr : Room 6 (A.deeper (envOfC "table_of" (defScope s_table_of) s.heap.objs.size d.f_table_of cdv))) :
    PSs (cxOf (L2.CX P w) P w K mg base N_table_of "table_of" (defScope s_table_of) d.f_table_of cdv A outer s H E) (defBody s_table_of) (t_table_of K d E sp_Reader_init sp_Reader_read) :=
  pss_one (ps_ret (pe_meth0 (pe_make T.C.mk_Reader G_Reader_init (hr.mono (by decide)) (by rfl) T.G.g_Reader (bd_Reader_init T) .nil (passes_call (takes_of rfl rfl rfl rfl) fun _ _ _ _ h => h) (by exact pa_cons (pv 0) (pa_nil))) T.C.cl_Reader T.C.me_Reader_read G_Reader_read (hr.mono (by decide)) (bd_Reader_read T) .nil (passes_call (takes_of rfl rfl rfl rfl) fun _ _ _ _ h => h)))
end
end KW
end
section
/-! Printed by gen.py: readings and derivations. -/
namespace KW
open PySem PySem.Spec PyProof.Rows L2
section
variable {P : Program} {w : World} {K : PySem.W.Frag} {mg : Str → Option Value} {base : Heap} {d : Ad}
/-- Refused.__init__: slots self, why -/
def t_Refused_init (K : PySem.W.Frag) (d : Ad) : TS :=
  tOst K "why" (tVar 0) (tVar 1)
theorem dv_Refused_init (T : Txt K mg d) {cdv : Value} {A : Around} {outer : List Env} {s : Shared} {H : Hp} {E : XK} (hr : Room 0 (A.deeper (envOfC "Refused.__init__" (defScope s_Refused_init) s.heap.objs.size d.f_Refused_init cdv))) :
    PSs (cxOf CX0 P w K mg base N_Refused_init "Refused.__init__" (defScope s_Refused_init) d.f_Refused_init cdv A outer s H E).nox (defBody s_Refused_init) (t_Refused_init K d) :=
  pss_one (ps_ost (pv 0) (pv 1))
/-- refuse_if: slots truth, why -/
def t_refuse_if (K : PySem.W.Frag) (d : Ad) (E : XK) (sp_Refused_init : Sp) : TS :=
  tIfS (tB (tVar 0)) (tRaiseO d.cRefused sp_Refused_init E (tCons (tVar 1) (tNil))) (tNext)
theorem dv_refuse_if (T : Txt K mg d) {sp_Refused_init : Sp} (G_Refused_init : FnOk P w K mg base CX0 1 d.f_Refused_init d.fd_Refused_init P_Refused_init sp_Refused_init) {cdv : Value} {A : Around} {outer : List Env} {s : Shared} {H : Hp} {E : XK} (hr : Room 2 (A.deeper (envOfC "refuse_if" (defScope s_refuse_if) s.heap.objs.size d.f_refuse_if cdv))) :
    PSs (cxOf (L2.CX P w) P w K mg base N_refuse_if "refuse_if" (defScope s_refuse_if) d.f_refuse_if cdv A outer s H E) (defBody s_refuse_if) (t_refuse_if K d E sp_Refused_init) :=
  pss_one (ps_if (pt_val (pv 0)) (pss_one (ps_raise rfl (takes_of rfl rfl rfl rfl) (pmk_oex T.E.ox_Refused T.E.in_Refused T.E.ti_Refused G_Refused_init (hr.mono (by decide)) (bd_Refused_init T) .nil pass0 (by rfl) T.G.g_Refused (by exact pa_cons (pv 1) (pa_nil))))) (pss_nil))
/-- Desk.__init__: slots self -/
def t_Desk_init (K : PySem.W.Frag) (d : Ad) : TS :=
  sFld K (tVar 0) (tC .non) "held"
theorem dv_Desk_init (T : Txt K mg d) {cdv : Value} {A : Around} {outer : List Env} {s : Shared} {H : Hp} {E : XK} (hr : Room 0 (A.deeper (envOfC "Desk.__init__" (defScope s_Desk_init) s.heap.objs.size d.f_Desk_init cdv))) :
    PSs (cxOf CX0 P w K mg base N_Desk_init "Desk.__init__" (defScope s_Desk_init) d.f_Desk_init cdv A outer s H E).nox (defBody s_Desk_init) (t_Desk_init K d) :=
  pss_one (ps_fld (pv 0) (pe_non) rfl)
/-- Desk.look_at_room: slots self, room -/
def t_Desk_look_at_room (K : PySem.W.Frag) (d : Ad) (E : XK) (sp_refuse_if : Sp) : TS :=
  tDrop (tCall sp_refuse_if [] E (tCons (tNotV (tChain kLe kLe (tC (.int 0)) (tVar 1) (tC (.int 1000)))) (tCons (tUn kNeg (tC (.int 6))) (tNil))))
theorem dv_Desk_look_at_room (T : Txt K mg d) {sp_refuse_if : Sp} (G_refuse_if : FnOk P w K mg base (L2.CX P w) 3 d.f_refuse_if d.fd_refuse_if P_refuse_if sp_refuse_if) {cdv : Value} {A : Around} {outer : List Env} {s : Shared} {H : Hp} {E : XK} (hr : Room 3 (A.deeper (envOfC "Desk.look_at_room" (defScope s_Desk_look_at_room) s.heap.objs.size d.f_Desk_look_at_room cdv))) :
    PSs (cxOf (L2.CX P w) P w K mg base N_Desk_look_at_room "Desk.look_at_room" (defScope s_Desk_look_at_room) d.f_Desk_look_at_room cdv A outer s H E) (defBody s_Desk_look_at_room) (t_Desk_look_at_room K d E sp_refuse_if) :=
  pss_one (ps_expr (pe_call G_refuse_if (hr.mono (by decide)) (by rfl) T.G.g_refuse_if T.F.F_refuse_if.kp (bd_refuse_if T) .nil (passes_call (takes_of rfl rfl rfl rfl) fun _ _ _ _ h => h) (by exact pa_cons (pe_not (pe_chain op_le op_le (pe_int) (pv 1) (pe_gI (by rfl) T.G.m_MOST_ROOM))) (pa_cons (pe_un un_neg (pe_int)) (pa_nil)))))
/-- Desk.look_at_set: slots self, number -/
def t_Desk_look_at_set (K : PySem.W.Frag) (d : Ad) (E : XK) (sp_refuse_if sp_Choice_count_sets : Sp) : TS :=
  tDrop (tCall sp_refuse_if [] E (tCons (tNotV (tChain kLe kLt (tC (.int 0)) (tVar 1) (tMeth d.cChoice "count_sets" sp_Choice_count_sets [] E0 (tFld K (tVar 0) "held") tNil))) (tCons (tUn kNeg (tC (.int 7))) (tNil))))
theorem dv_Desk_look_at_set (T : Txt K mg d) {sp_refuse_if sp_Choice_count_sets : Sp} (G_refuse_if : FnOk P w K mg base (L2.CX P w) 3 d.f_refuse_if d.fd_refuse_if P_refuse_if sp_refuse_if) (G_Choice_count_sets : FnOk P w K mg base CX0 1 d.f_Choice_count_sets d.fd_Choice_count_sets P_Choice_count_sets sp_Choice_count_sets) {cdv : Value} {A : Around} {outer : List Env} {s : Shared} {H : Hp} {E : XK} (hr : Room 3 (A.deeper (envOfC "Desk.look_at_set" (defScope s_Desk_look_at_set) s.heap.objs.size d.f_Desk_look_at_set cdv))) :
    PSs (cxOf (L2.CX P w) P w K mg base N_Desk_look_at_set "Desk.look_at_set" (defScope s_Desk_look_at_set) d.f_Desk_look_at_set cdv A outer s H E) (defBody s_Desk_look_at_set) (t_Desk_look_at_set K d E sp_refuse_if sp_Choice_count_sets) :=
  pss_one (ps_expr (pe_call G_refuse_if (hr.mono (by decide)) (by rfl) T.G.g_refuse_if T.F.F_refuse_if.kp (bd_refuse_if T) .nil (passes_call (takes_of rfl rfl rfl rfl) fun _ _ _ _ h => h) (by exact pa_cons (pe_not (pe_chain op_le op_lt (pe_int) (pv 1) (pe_meth0 (pe_fld (pv 0) rfl) T.C.cl_Choice T.C.me_Choice_count_sets G_Choice_count_sets (hr.mono (by decide)) (bd_Choice_count_sets T) .nil pass0))) (pa_cons (pe_un un_neg (pe_int)) (pa_nil)))))
/-- Desk.cands: slots self, groupings, most, grouping -/
def t_Desk_cands (K : PySem.W.Frag) (d : Ad) (E : XK) (sp_refuse_if sp_Choice_put_candidates : Sp) : TS :=
  tSeq (tAsg (tOp kShl (tC (.int 1)) (tCB (Evl.rLenS K) (tCons (tFld K (tFld K (tFld K (tVar 0) "held") "table") "columns") (tNil)))) (gName 2))
    (tSeq (tDrop (tCall sp_refuse_if [] E (tCons (tOp (rNeD K) (tLc (iList K (tVar 1)) (gName 3) (tNot (tTest (tChain kLe kLt (tC (.int 0)) (tVar 3) (tVar 2)))) (tVar 3) [3]) (tLst (tNil))) (tCons (tUn kNeg (tC (.int 2))) (tNil)))))
    (tSeq (tDrop (tCall sp_refuse_if [] E (tCons (tOrV (tOp kGt (tCB (Evl.rLenS K) (tCons (tVar 1) (tNil))) (tC (.int 4))) (tOp kLt (tLenSetG K (tVar 1)) (tCB (Evl.rLenS K) (tCons (tVar 1) (tNil))))) (tCons (tUn kNeg (tC (.int 4))) (tNil)))))
    (tSeq (tDrop (tMeth d.cChoice "put_candidates" sp_Choice_put_candidates [] E0 (tFld K (tVar 0) "held") (tCons (tVar 1) (tNil))))
    (tRet (tOp rCat (tLst (tCons (tC (.int 1)) (tNil))) (tFld K (tFld K (tVar 0) "held") "sizes"))))))
theorem dv_Desk_cands (T : Txt K mg d) {sp_refuse_if sp_Choice_put_candidates : Sp} (G_refuse_if : FnOk P w K mg base (L2.CX P w) 3 d.f_refuse_if d.fd_refuse_if P_refuse_if sp_refuse_if) (G_Choice_put_candidates : FnOk P w K mg base CX0 2 d.f_Choice_put_candidates d.fd_Choice_put_candidates P_Choice_put_candidates sp_Choice_put_candidates) {cdv : Value} {A : Around} {outer : List Env} {s : Shared} {H : Hp} {E : XK} (hr : Room 3 (A.deeper (envOfC "Desk.cands" (defScope s_Desk_cands) s.heap.objs.size d.f_Desk_cands cdv))) :
    PSs (cxOf (L2.CX P w) P w K mg base N_Desk_cands "Desk.cands" (defScope s_Desk_cands) d.f_Desk_cands cdv A outer s H E) (defBody s_Desk_cands) (t_Desk_cands K d E sp_refuse_if sp_Choice_put_candidates) :=
  pss_cons (ps_set (i := 2) sc_Desk_cands.nd rfl (by first | exact Or.inl rfl | exact Or.inr rfl) (by exact pe_op op_shl (pe_int) (pe_callB call_len_seq (by rfl) T.G.b_len PySem.boot_len (pa_cons (pe_fld (pe_fld (pe_fld (pv 0) rfl) rfl) rfl) (pa_nil)))))
    (pss_cons (ps_expr (pe_call G_refuse_if (hr.mono (by decide)) (by rfl) T.G.g_refuse_if T.F.F_refuse_if.kp (bd_refuse_if T) .nil (passes_call (takes_of rfl rfl rfl rfl) fun _ _ _ _ h => h) (by exact pa_cons (pe_cmpR (op_neD hr.units) (pe_lc (own := [("grouping", 3)]) (g := gName 3) (tt := tNot (tTest (tChain kLe kLt (tC (.int 0)) (tVar 3) (tVar 2)))) rfl sc_Desk_cands.nd (pi_list (pv 1)) (blkOk_by (own := [("grouping", 3)]) (N := N_Desk_cands) (sc := defScope s_Desk_cands) (by decide +kernel)) (fun _ _ _ _ _ => pg_name (i := 3) sc_Desk_cands.nd rfl (by first | exact Or.inl rfl | exact Or.inr rfl)) (fun _ _ _ _ _ => pts_one (pt_not (pt_chain op_le op_lt (pe_int) (pv 3) (pv 2)))) (fun _ _ _ _ _ => pv 3)) (pe_lst (pa_nil)) (nomark _)) (pa_cons (pe_un un_neg (pe_int)) (pa_nil)))))
    (pss_cons (ps_expr (pe_call G_refuse_if (hr.mono (by decide)) (by rfl) T.G.g_refuse_if T.F.F_refuse_if.kp (bd_refuse_if T) .nil (passes_call (takes_of rfl rfl rfl rfl) fun _ _ _ _ h => h) (by exact pa_cons (pe_or (pe_cmpR op_gt (pe_callB call_len_seq (by rfl) T.G.b_len PySem.boot_len (pa_cons (pv 1) (pa_nil))) (pe_gI (by rfl) T.G.m_MOST_CANDIDATES) (nomark _)) (pe_one (pe_cmpR op_lt (pe_lenSetG (by rfl) T.G.b_len (by rfl) T.G.b_set (pv 1)) (pe_callB call_len_seq (by rfl) T.G.b_len PySem.boot_len (pa_cons (pv 1) (pa_nil))) (nomark _)))) (pa_cons (pe_un un_neg (pe_int)) (pa_nil)))))
    (pss_cons (ps_expr (pe_meth (pe_fld (pv 0) rfl) T.C.cl_Choice T.C.me_Choice_put_candidates G_Choice_put_candidates (hr.mono (by decide)) (bd_Choice_put_candidates T) .nil pass0 (by exact pa_cons (pv 1) (pa_nil))))
    (pss_one (ps_ret (pe_op op_cat (pe_lst (pa_cons (pe_int) (pa_nil))) (pe_fld (pe_fld (pv 0) rfl) rfl)))))))
/-- Desk.put_days: slots self, times, many, often -/
def t_Desk_put_days (K : PySem.W.Frag) (d : Ad) (E : XK) (sp_refuse_if sp_Choice_put_days : Sp) : TS :=
  tSeq (tAsg (tCB (Evl.rLenS K) (tCons (tFld K (tFld K (tFld K (tVar 0) "held") "table") "questions") (tNil))) (gName 2))
    (tSeq (tDrop (tCall sp_refuse_if [] E (tCons (tOrV (tOp rEq (tVar 2) (tC (.int 0))) (tOrV (tOp kGt (tOp kMod (tCB (Evl.rLenS K) (tCons (tVar 1) (tNil))) (tVar 2)) (tC (.int 0))) (tOp kGt (tCB (Evl.rLenS K) (tCons (tVar 1) (tNil))) (tOp kMul (tC (.int 8)) (tVar 2))))) (tCons (tUn kNeg (tC (.int 5))) (tNil)))))
    (tSeq (tDrop (tCall sp_refuse_if [] E (tCons (tOp (rNeD K) (tLc (iList K (tVar 1)) (gName 3) (tNot (tTest (tChain kLe kLe (tC (.int 0)) (tVar 3) (tC (.int 99))))) (tVar 3) [3]) (tLst (tNil))) (tCons (tUn kNeg (tC (.int 5))) (tNil)))))
    (tSeq (tDrop (tMeth d.cChoice "put_days" sp_Choice_put_days [] E0 (tFld K (tVar 0) "held") (tCons (tVar 1) (tNil))))
    (tRet (tLst (tCons (tC (.int 1)) (tCons (tCB (Evl.rLenS K) (tCons (tFld K (tFld K (tVar 0) "held") "days") (tNil))) (tNil))))))))
theorem dv_Desk_put_days (T : Txt K mg d) {sp_refuse_if sp_Choice_put_days : Sp} (G_refuse_if : FnOk P w K mg base (L2.CX P w) 3 d.f_refuse_if d.fd_refuse_if P_refuse_if sp_refuse_if) (G_Choice_put_days : FnOk P w K mg base CX0 1 d.f_Choice_put_days d.fd_Choice_put_days P_Choice_put_days sp_Choice_put_days) {cdv : Value} {A : Around} {outer : List Env} {s : Shared} {H : Hp} {E : XK} (hr : Room 3 (A.deeper (envOfC "Desk.put_days" (defScope s_Desk_put_days) s.heap.objs.size d.f_Desk_put_days cdv))) :
    PSs (cxOf (L2.CX P w) P w K mg base N_Desk_put_days "Desk.put_days" (defScope s_Desk_put_days) d.f_Desk_put_days cdv A outer s H E) (defBody s_Desk_put_days) (t_Desk_put_days K d E sp_refuse_if sp_Choice_put_days) :=
  pss_cons (ps_set (i := 2) sc_Desk_put_days.nd rfl (by first | exact Or.inl rfl | exact Or.inr rfl) (by exact pe_callB call_len_seq (by rfl) T.G.b_len PySem.boot_len (pa_cons (pe_fld (pe_fld (pe_fld (pv 0) rfl) rfl) rfl) (pa_nil))))
    (pss_cons (ps_expr (pe_call G_refuse_if (hr.mono (by decide)) (by rfl) T.G.g_refuse_if T.F.F_refuse_if.kp (bd_refuse_if T) .nil (passes_call (takes_of rfl rfl rfl rfl) fun _ _ _ _ h => h) (by exact pa_cons (pe_or (pe_cmpR op_eq (pv 2) (pe_int) (nomark _)) (pe_or (pe_cmpR op_gt (pe_op op_mod (pe_callB call_len_seq (by rfl) T.G.b_len PySem.boot_len (pa_cons (pv 1) (pa_nil))) (pv 2)) (pe_int) (nomark _)) (pe_one (pe_cmpR op_gt (pe_callB call_len_seq (by rfl) T.G.b_len PySem.boot_len (pa_cons (pv 1) (pa_nil))) (pe_op op_mul (pe_gI (by rfl) T.G.m_MOST_DAYS) (pv 2)) (nomark _))))) (pa_cons (pe_un un_neg (pe_int)) (pa_nil)))))
    (pss_cons (ps_expr (pe_call G_refuse_if (hr.mono (by decide)) (by rfl) T.G.g_refuse_if T.F.F_refuse_if.kp (bd_refuse_if T) .nil (passes_call (takes_of rfl rfl rfl rfl) fun _ _ _ _ h => h) (by exact pa_cons (pe_cmpR (op_neD hr.units) (pe_lc (own := [("often", 3)]) (g := gName 3) (tt := tNot (tTest (tChain kLe kLe (tC (.int 0)) (tVar 3) (tC (.int 99))))) rfl sc_Desk_put_days.nd (pi_list (pv 1)) (blkOk_by (own := [("often", 3)]) (N := N_Desk_put_days) (sc := defScope s_Desk_put_days) (by decide +kernel)) (fun _ _ _ _ _ => pg_name (i := 3) sc_Desk_put_days.nd rfl (by first | exact Or.inl rfl | exact Or.inr rfl)) (fun _ _ _ _ _ => pts_one (pt_not (pt_chain op_le op_le (pe_int) (pv 3) (pe_gI (by rfl) T.G.m_MOST_OFTEN)))) (fun _ _ _ _ _ => pv 3)) (pe_lst (pa_nil)) (nomark _)) (pa_cons (pe_un un_neg (pe_int)) (pa_nil)))))
    (pss_cons (ps_expr (pe_meth (pe_fld (pv 0) rfl) T.C.cl_Choice T.C.me_Choice_put_days G_Choice_put_days (hr.mono (by decide)) (bd_Choice_put_days T) .nil pass0 (by exact pa_cons (pv 1) (pa_nil))))
    (pss_one (ps_ret (pe_lst (pa_cons (pe_int) (pa_cons (pe_callB call_len_seq (by rfl) T.G.b_len PySem.boot_len (pa_cons (pe_fld (pe_fld (pv 0) rfl) rfl) (pa_nil))) (pa_nil)))))))))
/-- Desk.best: slots self, room -/
def t_Desk_best (K : PySem.W.Frag) (d : Ad) (E : XK) (sp_Desk_look_at_room sp_Choice_best : Sp) : TS :=
  tSeq (tDrop (tMeth d.cDesk "look_at_room" sp_Desk_look_at_room [] E (tVar 0) (tCons (tVar 1) (tNil))))
    (tRet (tMeth d.cChoice "best" sp_Choice_best [] E0 (tFld K (tVar 0) "held") (tCons (tVar 1) (tNil))))
theorem dv_Desk_best (T : Txt K mg d) {sp_Desk_look_at_room sp_Choice_best : Sp} (G_Desk_look_at_room : FnOk P w K mg base (L2.CX P w) 4 d.f_Desk_look_at_room d.fd_Desk_look_at_room P_Desk_look_at_room sp_Desk_look_at_room) (G_Choice_best : FnOk P w K mg base CX0 4 d.f_Choice_best d.fd_Choice_best P_Choice_best sp_Choice_best) {cdv : Value} {A : Around} {outer : List Env} {s : Shared} {H : Hp} {E : XK} (hr : Room 4 (A.deeper (envOfC "Desk.best" (defScope s_Desk_best) s.heap.objs.size d.f_Desk_best cdv))) :
    PSs (cxOf (L2.CX P w) P w K mg base N_Desk_best "Desk.best" (defScope s_Desk_best) d.f_Desk_best cdv A outer s H E) (defBody s_Desk_best) (t_Desk_best K d E sp_Desk_look_at_room sp_Choice_best) :=
  pss_cons (ps_expr (pe_meth (pv 0) T.C.cl_Desk T.C.me_Desk_look_at_room G_Desk_look_at_room (hr.mono (by decide)) (bd_Desk_look_at_room T) .nil (passes_call (takes_of rfl rfl rfl rfl) fun _ _ _ _ h => h) (by exact pa_cons (pv 1) (pa_nil))))
    (pss_one (ps_ret (pe_meth (pe_fld (pv 0) rfl) T.C.cl_Choice T.C.me_Choice_best G_Choice_best (hr.mono (by decide)) (bd_Choice_best T) .nil pass0 (by exact pa_cons (pv 1) (pa_nil)))))
/-- Desk.always: slots self, room -/
def t_Desk_always (K : PySem.W.Frag) (d : Ad) (E : XK) (sp_Desk_look_at_room sp_Choice_same_always : Sp) : TS :=
  tSeq (tDrop (tMeth d.cDesk "look_at_room" sp_Desk_look_at_room [] E (tVar 0) (tCons (tVar 1) (tNil))))
    (tRet (tMeth d.cChoice "same_always" sp_Choice_same_always [] E0 (tFld K (tVar 0) "held") (tCons (tVar 1) (tNil))))
theorem dv_Desk_always (T : Txt K mg d) {sp_Desk_look_at_room sp_Choice_same_always : Sp} (G_Desk_look_at_room : FnOk P w K mg base (L2.CX P w) 4 d.f_Desk_look_at_room d.fd_Desk_look_at_room P_Desk_look_at_room sp_Desk_look_at_room) (G_Choice_same_always : FnOk P w K mg base CX0 4 d.f_Choice_same_always d.fd_Choice_same_always P_Choice_same_always sp_Choice_same_always) {cdv : Value} {A : Around} {outer : List Env} {s : Shared} {H : Hp} {E : XK} (hr : Room 4 (A.deeper (envOfC "Desk.always" (defScope s_Desk_always) s.heap.objs.size d.f_Desk_always cdv))) :
    PSs (cxOf (L2.CX P w) P w K mg base N_Desk_always "Desk.always" (defScope s_Desk_always) d.f_Desk_always cdv A outer s H E) (defBody s_Desk_always) (t_Desk_always K d E sp_Desk_look_at_room sp_Choice_same_always) :=
  pss_cons (ps_expr (pe_meth (pv 0) T.C.cl_Desk T.C.me_Desk_look_at_room G_Desk_look_at_room (hr.mono (by decide)) (bd_Desk_look_at_room T) .nil (passes_call (takes_of rfl rfl rfl rfl) fun _ _ _ _ h => h) (by exact pa_cons (pv 1) (pa_nil))))
    (pss_one (ps_ret (pe_meth (pe_fld (pv 0) rfl) T.C.cl_Choice T.C.me_Choice_same_always G_Choice_same_always (hr.mono (by decide)) (bd_Choice_same_always T) .nil pass0 (by exact pa_cons (pv 1) (pa_nil)))))
/-- Desk.check: slots self, room, sets, number, day -/
def t_Desk_check (K : PySem.W.Frag) (d : Ad) (E : XK) (sp_Desk_look_at_room sp_refuse_if sp_Desk_look_at_set sp_Choice_room sp_Choice_plan_cost : Sp) : TS :=
  tSeq (tDrop (tMeth d.cDesk "look_at_room" sp_Desk_look_at_room [] E (tVar 0) (tCons (tVar 1) (tNil))))
    (tSeq (tDrop (tCall sp_refuse_if [] E (tCons (tOp rNe (tCB (Evl.rLenS K) (tCons (tVar 2) (tNil))) (tCB (Evl.rLenS K) (tCons (tFld K (tFld K (tVar 0) "held") "days") (tNil)))) (tCons (tUn kNeg (tC (.int 7))) (tNil)))))
    (tSeq (tFor (iList K (tVar 2)) (gName 3) (tDrop (tMeth d.cDesk "look_at_set" sp_Desk_look_at_set [] E (tVar 0) (tCons (tVar 3) (tNil)))))
    (tSeq (tFor (iEnum K (tCons (tVar 2) (tNil))) (gTup K 2 (gCons (gName 4) (gCons (gName 3) (gNil)))) (tIfS (tTest (tOp kGt (tMeth d.cChoice "room" sp_Choice_room [] E0 (tFld K (tVar 0) "held") (tCons (tVar 3) (tNil))) (tVar 1))) (tRet (tLst (tCons (tC (.int 0)) (tCons (tVar 4) (tNil))))) (tNext)))
    (tRet (tLst (tCons (tC (.int 1)) (tCons (tMeth d.cChoice "plan_cost" sp_Choice_plan_cost [] E0 (tFld K (tVar 0) "held") (tCons (tVar 2) (tNil))) (tNil))))))))
theorem dv_Desk_check (T : Txt K mg d) {sp_Desk_look_at_room sp_refuse_if sp_Desk_look_at_set sp_Choice_room sp_Choice_plan_cost : Sp} (G_Desk_look_at_room : FnOk P w K mg base (L2.CX P w) 4 d.f_Desk_look_at_room d.fd_Desk_look_at_room P_Desk_look_at_room sp_Desk_look_at_room) (G_refuse_if : FnOk P w K mg base (L2.CX P w) 3 d.f_refuse_if d.fd_refuse_if P_refuse_if sp_refuse_if) (G_Desk_look_at_set : FnOk P w K mg base (L2.CX P w) 4 d.f_Desk_look_at_set d.fd_Desk_look_at_set P_Desk_look_at_set sp_Desk_look_at_set) (G_Choice_room : FnOk P w K mg base CX0 1 d.f_Choice_room d.fd_Choice_room P_Choice_room sp_Choice_room) (G_Choice_plan_cost : FnOk P w K mg base CX0 3 d.f_Choice_plan_cost d.fd_Choice_plan_cost P_Choice_plan_cost sp_Choice_plan_cost) {cdv : Value} {A : Around} {outer : List Env} {s : Shared} {H : Hp} {E : XK} (hr : Room 4 (A.deeper (envOfC "Desk.check" (defScope s_Desk_check) s.heap.objs.size d.f_Desk_check cdv))) :
    PSs (cxOf (L2.CX P w) P w K mg base N_Desk_check "Desk.check" (defScope s_Desk_check) d.f_Desk_check cdv A outer s H E) (defBody s_Desk_check) (t_Desk_check K d E sp_Desk_look_at_room sp_refuse_if sp_Desk_look_at_set sp_Choice_room sp_Choice_plan_cost) :=
  pss_cons (ps_expr (pe_meth (pv 0) T.C.cl_Desk T.C.me_Desk_look_at_room G_Desk_look_at_room (hr.mono (by decide)) (bd_Desk_look_at_room T) .nil (passes_call (takes_of rfl rfl rfl rfl) fun _ _ _ _ h => h) (by exact pa_cons (pv 1) (pa_nil))))
    (pss_cons (ps_expr (pe_call G_refuse_if (hr.mono (by decide)) (by rfl) T.G.g_refuse_if T.F.F_refuse_if.kp (bd_refuse_if T) .nil (passes_call (takes_of rfl rfl rfl rfl) fun _ _ _ _ h => h) (by exact pa_cons (pe_cmpR op_ne (pe_callB call_len_seq (by rfl) T.G.b_len PySem.boot_len (pa_cons (pv 2) (pa_nil))) (pe_callB call_len_seq (by rfl) T.G.b_len PySem.boot_len (pa_cons (pe_fld (pe_fld (pv 0) rfl) rfl) (pa_nil))) (nomark _)) (pa_cons (pe_un un_neg (pe_int)) (pa_nil)))))
    (pss_cons (ps_for (passes_of rfl) rfl (pi_list (pv 2)) (pg_name (i := 3) sc_Desk_check.nd rfl (by first | exact Or.inl rfl | exact Or.inr rfl)) (pss_one (ps_expr (pe_meth (pv 0) T.C.cl_Desk T.C.me_Desk_look_at_set G_Desk_look_at_set (hr.mono (by decide)) (bd_Desk_look_at_set T) .nil (passes_call (takes_of rfl rfl rfl rfl) fun _ _ _ _ h => h) (by exact pa_cons (pv 3) (pa_nil))))))
    (pss_cons (ps_for (passes_of rfl) rfl (pi_enum (by rfl) T.G.b_enumerate (pa_cons (pv 2) (pa_nil))) (pg_tup rfl (pgs_cons (pg_name (i := 4) sc_Desk_check.nd rfl (by first | exact Or.inl rfl | exact Or.inr rfl)) (pgs_cons (pg_name (i := 3) sc_Desk_check.nd rfl (by first | exact Or.inl rfl | exact Or.inr rfl)) (pgs_nil)))) (pss_one (ps_if (pt_cmpR op_gt (pe_meth (pe_fld (pv 0) rfl) T.C.cl_Choice T.C.me_Choice_room G_Choice_room (hr.mono (by decide)) (bd_Choice_room T) .nil pass0 (by exact pa_cons (pv 3) (pa_nil))) (pv 1) (nomark _)) (pss_one (ps_ret (pe_lst (pa_cons (pe_int) (pa_cons (pv 4) (pa_nil)))))) (pss_nil))))
    (pss_one (ps_ret (pe_lst (pa_cons (pe_int) (pa_cons (pe_meth (pe_fld (pv 0) rfl) T.C.cl_Choice T.C.me_Choice_plan_cost G_Choice_plan_cost (hr.mono (by decide)) (bd_Choice_plan_cost T) .nil pass0 (by exact pa_cons (pv 2) (pa_nil))) (pa_nil)))))))))
/-- Desk.day: slots self, number, kept -/
def t_Desk_day (K : PySem.W.Frag) (d : Ad) (E : XK) (sp_refuse_if sp_Desk_look_at_set sp_Choice_room sp_Choice_day_cost : Sp) : TS :=
  tSeq (tDrop (tCall sp_refuse_if [] E (tCons (tNotV (tChain kLe kLt (tC (.int 0)) (tVar 1) (tCB (Evl.rLenS K) (tCons (tFld K (tFld K (tVar 0) "held") "days") (tNil))))) (tCons (tUn kNeg (tC (.int 8))) (tNil)))))
    (tSeq (tDrop (tMeth d.cDesk "look_at_set" sp_Desk_look_at_set [] E (tVar 0) (tCons (tVar 2) (tNil))))
    (tRet (tLst (tCons (tMeth d.cChoice "day_cost" sp_Choice_day_cost [] E0 (tFld K (tVar 0) "held") (tCons (tOp (rIxL K) (tFld K (tFld K (tVar 0) "held") "days") (tVar 1)) (tCons (tVar 2) (tNil)))) (tCons (tMeth d.cChoice "room" sp_Choice_room [] E0 (tFld K (tVar 0) "held") (tCons (tVar 2) (tNil))) (tNil))))))
theorem dv_Desk_day (T : Txt K mg d) {sp_refuse_if sp_Desk_look_at_set sp_Choice_room sp_Choice_day_cost : Sp} (G_refuse_if : FnOk P w K mg base (L2.CX P w) 3 d.f_refuse_if d.fd_refuse_if P_refuse_if sp_refuse_if) (G_Desk_look_at_set : FnOk P w K mg base (L2.CX P w) 4 d.f_Desk_look_at_set d.fd_Desk_look_at_set P_Desk_look_at_set sp_Desk_look_at_set) (G_Choice_room : FnOk P w K mg base CX0 1 d.f_Choice_room d.fd_Choice_room P_Choice_room sp_Choice_room) (G_Choice_day_cost : FnOk P w K mg base CX0 2 d.f_Choice_day_cost d.fd_Choice_day_cost P_Choice_day_cost sp_Choice_day_cost) {cdv : Value} {A : Around} {outer : List Env} {s : Shared} {H : Hp} {E : XK} (hr : Room 4 (A.deeper (envOfC "Desk.day" (defScope s_Desk_day) s.heap.objs.size d.f_Desk_day cdv))) :
    PSs (cxOf (L2.CX P w) P w K mg base N_Desk_day "Desk.day" (defScope s_Desk_day) d.f_Desk_day cdv A outer s H E) (defBody s_Desk_day) (t_Desk_day K d E sp_refuse_if sp_Desk_look_at_set sp_Choice_room sp_Choice_day_cost) :=
  pss_cons (ps_expr (pe_call G_refuse_if (hr.mono (by decide)) (by rfl) T.G.g_refuse_if T.F.F_refuse_if.kp (bd_refuse_if T) .nil (passes_call (takes_of rfl rfl rfl rfl) fun _ _ _ _ h => h) (by exact pa_cons (pe_not (pe_chain op_le op_lt (pe_int) (pv 1) (pe_callB call_len_seq (by rfl) T.G.b_len PySem.boot_len (pa_cons (pe_fld (pe_fld (pv 0) rfl) rfl) (pa_nil))))) (pa_cons (pe_un un_neg (pe_int)) (pa_nil)))))
    (pss_cons (ps_expr (pe_meth (pv 0) T.C.cl_Desk T.C.me_Desk_look_at_set G_Desk_look_at_set (hr.mono (by decide)) (bd_Desk_look_at_set T) .nil (passes_call (takes_of rfl rfl rfl rfl) fun _ _ _ _ h => h) (by exact pa_cons (pv 2) (pa_nil))))
    (pss_one (ps_ret (pe_lst (pa_cons (pe_meth (pe_fld (pv 0) rfl) T.C.cl_Choice T.C.me_Choice_day_cost G_Choice_day_cost (hr.mono (by decide)) (bd_Choice_day_cost T) .nil pass0 (by exact pa_cons (pe_ix ix_list (pe_fld (pe_fld (pv 0) rfl) rfl) (pv 1) (fun _ _ => rfl)) (pa_cons (pv 2) (pa_nil)))) (pa_cons (pe_meth (pe_fld (pv 0) rfl) T.C.cl_Choice T.C.me_Choice_room G_Choice_room (hr.mono (by decide)) (bd_Choice_room T) .nil pass0 (by exact pa_cons (pv 2) (pa_nil))) (pa_nil)))))))
/-- Desk.go: slots self, old, new -/
def t_Desk_go (K : PySem.W.Frag) (d : Ad) (E : XK) (sp_Desk_look_at_set sp_Choice_going : Sp) : TS :=
  tSeq (tDrop (tMeth d.cDesk "look_at_set" sp_Desk_look_at_set [] E (tVar 0) (tCons (tVar 1) (tNil))))
    (tSeq (tDrop (tMeth d.cDesk "look_at_set" sp_Desk_look_at_set [] E (tVar 0) (tCons (tVar 2) (tNil))))
    (tRet (tLst (tCons (tMeth d.cChoice "going" sp_Choice_going [] E0 (tFld K (tVar 0) "held") (tCons (tVar 1) (tCons (tVar 2) (tNil)))) (tNil)))))
theorem dv_Desk_go (T : Txt K mg d) {sp_Desk_look_at_set sp_Choice_going : Sp} (G_Desk_look_at_set : FnOk P w K mg base (L2.CX P w) 4 d.f_Desk_look_at_set d.fd_Desk_look_at_set P_Desk_look_at_set sp_Desk_look_at_set) (G_Choice_going : FnOk P w K mg base CX0 2 d.f_Choice_going d.fd_Choice_going P_Choice_going sp_Choice_going) {cdv : Value} {A : Around} {outer : List Env} {s : Shared} {H : Hp} {E : XK} (hr : Room 4 (A.deeper (envOfC "Desk.go" (defScope s_Desk_go) s.heap.objs.size d.f_Desk_go cdv))) :
    PSs (cxOf (L2.CX P w) P w K mg base N_Desk_go "Desk.go" (defScope s_Desk_go) d.f_Desk_go cdv A outer s H E) (defBody s_Desk_go) (t_Desk_go K d E sp_Desk_look_at_set sp_Choice_going) :=
  pss_cons (ps_expr (pe_meth (pv 0) T.C.cl_Desk T.C.me_Desk_look_at_set G_Desk_look_at_set (hr.mono (by decide)) (bd_Desk_look_at_set T) .nil (passes_call (takes_of rfl rfl rfl rfl) fun _ _ _ _ h => h) (by exact pa_cons (pv 1) (pa_nil))))
    (pss_cons (ps_expr (pe_meth (pv 0) T.C.cl_Desk T.C.me_Desk_look_at_set G_Desk_look_at_set (hr.mono (by decide)) (bd_Desk_look_at_set T) .nil (passes_call (takes_of rfl rfl rfl rfl) fun _ _ _ _ h => h) (by exact pa_cons (pv 2) (pa_nil))))
    (pss_one (ps_ret (pe_lst (pa_cons (pe_meth (pe_fld (pv 0) rfl) T.C.cl_Choice T.C.me_Choice_going G_Choice_going (hr.mono (by decide)) (bd_Choice_going T) .nil pass0 (by exact pa_cons (pv 1) (pa_cons (pv 2) (pa_nil)))) (pa_nil))))))
/-- Desk.ends: slots self, room, asked, pieces, found, number, begin, end -/
def t_Desk_ends (K : PySem.W.Frag) (d : Ad) (E : XK) (sp_Desk_look_at_room sp_refuse_if sp_pieces_of sp_lines_of : Sp) : TS :=
  tSeq (tDrop (tMeth d.cDesk "look_at_room" sp_Desk_look_at_room [] E (tVar 0) (tCons (tVar 1) (tNil))))
    (tSeq (tDrop (tCall sp_refuse_if [] E (tCons (tNotV (tChain kLe kLt (tC (.int 0)) (tVar 2) (tCB (Evl.rLenS K) (tCons (tFld K (tFld K (tFld K (tVar 0) "held") "table") "questions") (tNil))))) (tCons (tUn kNeg (tC (.int 3))) (tNil)))))
    (tSeq (tAsg (tCall sp_pieces_of [] E0 (tCons (tCall sp_lines_of [] E0 (tCons (tFld K (tVar 0) "held") (tCons (tVar 1) (tCons (tVar 2) (tNil))))) (tNil))) (gName 3))
    (tSeq (tAsg (tLst (tCons (tCB (Evl.rLenS K) (tCons (tVar 3) (tNil))) (tNil))) (gName 4))
    (tSeq (tFor (iList K (tVar 3)) (gTup K 3 (gCons (gName 5) (gCons (gName 6) (gCons (gName 7) (gNil))))) (tAsg (tOp rCat (tVar 4) (tLst (tCons (tVar 5) (tCons (tOp (rIxT K) (tVar 6) (tC (.int 0))) (tCons (tOp (rIxT K) (tVar 6) (tC (.int 1))) (tCons (tOp (rIxT K) (tVar 7) (tC (.int 0))) (tCons (tOp (rIxT K) (tVar 7) (tC (.int 1))) (tNil)))))))) (gName 4)))
    (tRet (tVar 4))))))
theorem dv_Desk_ends (T : Txt K mg d) {sp_Desk_look_at_room sp_refuse_if sp_pieces_of sp_lines_of : Sp} (G_Desk_look_at_room : FnOk P w K mg base (L2.CX P w) 4 d.f_Desk_look_at_room d.fd_Desk_look_at_room P_Desk_look_at_room sp_Desk_look_at_room) (G_refuse_if : FnOk P w K mg base (L2.CX P w) 3 d.f_refuse_if d.fd_refuse_if P_refuse_if sp_refuse_if) (G_pieces_of : FnOk P w K mg base CX0 5 d.f_pieces_of d.fd_pieces_of P_pieces_of sp_pieces_of) (G_lines_of : FnOk P w K mg base CX0 3 d.f_lines_of d.fd_lines_of P_lines_of sp_lines_of) {cdv : Value} {A : Around} {outer : List Env} {s : Shared} {H : Hp} {E : XK} (hr : Room 5 (A.deeper (envOfC "Desk.ends" (defScope s_Desk_ends) s.heap.objs.size d.f_Desk_ends cdv))) :
    PSs (cxOf (L2.CX P w) P w K mg base N_Desk_ends "Desk.ends" (defScope s_Desk_ends) d.f_Desk_ends cdv A outer s H E) (defBody s_Desk_ends) (t_Desk_ends K d E sp_Desk_look_at_room sp_refuse_if sp_pieces_of sp_lines_of) :=
  pss_cons (ps_expr (pe_meth (pv 0) T.C.cl_Desk T.C.me_Desk_look_at_room G_Desk_look_at_room (hr.mono (by decide)) (bd_Desk_look_at_room T) .nil (passes_call (takes_of rfl rfl rfl rfl) fun _ _ _ _ h => h) (by exact pa_cons (pv 1) (pa_nil))))
    (pss_cons (ps_expr (pe_call G_refuse_if (hr.mono (by decide)) (by rfl) T.G.g_refuse_if T.F.F_refuse_if.kp (bd_refuse_if T) .nil (passes_call (takes_of rfl rfl rfl rfl) fun _ _ _ _ h => h) (by exact pa_cons (pe_not (pe_chain op_le op_lt (pe_int) (pv 2) (pe_callB call_len_seq (by rfl) T.G.b_len PySem.boot_len (pa_cons (pe_fld (pe_fld (pe_fld (pv 0) rfl) rfl) rfl) (pa_nil))))) (pa_cons (pe_un un_neg (pe_int)) (pa_nil)))))
    (pss_cons (ps_set (i := 3) sc_Desk_ends.nd rfl (by first | exact Or.inl rfl | exact Or.inr rfl) (by exact pe_call G_pieces_of (hr.mono (by decide)) (by rfl) T.G.g_pieces_of T.F.F_pieces_of.kp (bd_pieces_of T) .nil pass0 (by exact pa_cons (pe_call G_lines_of (hr.mono (by decide)) (by rfl) T.G.g_lines_of T.F.F_lines_of.kp (bd_lines_of T) .nil pass0 (by exact pa_cons (pe_fld (pv 0) rfl) (pa_cons (pv 1) (pa_cons (pv 2) (pa_nil))))) (pa_nil))))
    (pss_cons (ps_set (i := 4) sc_Desk_ends.nd rfl (by first | exact Or.inl rfl | exact Or.inr rfl) (by exact pe_lst (pa_cons (pe_callB call_len_seq (by rfl) T.G.b_len PySem.boot_len (pa_cons (pv 3) (pa_nil))) (pa_nil))))
    (pss_cons (ps_for (passes_of rfl) rfl (pi_list (pv 3)) (pg_tup rfl (pgs_cons (pg_name (i := 5) sc_Desk_ends.nd rfl (by first | exact Or.inl rfl | exact Or.inr rfl)) (pgs_cons (pg_name (i := 6) sc_Desk_ends.nd rfl (by first | exact Or.inl rfl | exact Or.inr rfl)) (pgs_cons (pg_name (i := 7) sc_Desk_ends.nd rfl (by first | exact Or.inl rfl | exact Or.inr rfl)) (pgs_nil))))) (pss_one (ps_set (i := 4) sc_Desk_ends.nd rfl (by first | exact Or.inl rfl | exact Or.inr rfl) (by exact pe_op op_cat (pv 4) (pe_lst (pa_cons (pv 5) (pa_cons (pe_ix ix_tup (pv 6) (pe_int) (fun _ _ => rfl)) (pa_cons (pe_ix ix_tup (pv 6) (pe_int) (fun _ _ => rfl)) (pa_cons (pe_ix ix_tup (pv 7) (pe_int) (fun _ _ => rfl)) (pa_cons (pe_ix ix_tup (pv 7) (pe_int) (fun _ _ => rfl)) (pa_nil)))))))))))
    (pss_one (ps_ret (pv 4)))))))
/-- call_told: slots desk, call, numbers, row -/
def t_call_told (K : PySem.W.Frag) (d : Ad) (E : XK) (sp_Desk_load sp_refuse_if sp_Desk_cands sp_Desk_put_days sp_Desk_best sp_Desk_always sp_Desk_check sp_Desk_day sp_Desk_go sp_Desk_ends : Sp) : TS :=
  tSeq (tIfS (tTest (tOp rEq (tVar 1) (tC (.int 0)))) (tRet (tMeth d.cDesk "load" sp_Desk_load [] E0 (tVar 0) (tCons (tVar 3) (tNil)))) (tNext))
    (tSeq (tDrop (tCall sp_refuse_if [] E (tCons (tOp rIsNn (tFld K (tVar 0) "held") (tC .non)) (tCons (tUn kNeg (tC (.int 1))) (tNil)))))
    (tSeq (tIfS (tTest (tOp rEq (tVar 1) (tC (.int 1)))) (tRet (tMeth d.cDesk "cands" sp_Desk_cands [] E (tVar 0) (tCons (tVar 3) (tNil)))) (tNext))
    (tSeq (tIfS (tTest (tOp rEq (tVar 1) (tC (.int 2)))) (tRet (tMeth d.cDesk "put_days" sp_Desk_put_days [] E (tVar 0) (tCons (tVar 3) (tNil)))) (tNext))
    (tSeq (tIfS (tTest (tOp rEq (tVar 1) (tC (.int 3)))) (tRet (tMeth d.cDesk "best" sp_Desk_best [] E (tVar 0) (tCons (tOp (rIxL K) (tVar 2) (tC (.int 0))) (tNil)))) (tNext))
    (tSeq (tIfS (tTest (tOp rEq (tVar 1) (tC (.int 4)))) (tRet (tMeth d.cDesk "always" sp_Desk_always [] E (tVar 0) (tCons (tOp (rIxL K) (tVar 2) (tC (.int 0))) (tNil)))) (tNext))
    (tSeq (tIfS (tTest (tOp rEq (tVar 1) (tC (.int 5)))) (tRet (tMeth d.cDesk "check" sp_Desk_check [] E (tVar 0) (tCons (tOp (rIxL K) (tVar 2) (tC (.int 0))) (tCons (tVar 3) (tNil))))) (tNext))
    (tSeq (tIfS (tTest (tOp rEq (tVar 1) (tC (.int 6)))) (tRet (tMeth d.cDesk "day" sp_Desk_day [] E (tVar 0) (tCons (tOp (rIxL K) (tVar 2) (tC (.int 0))) (tCons (tOp (rIxL K) (tVar 2) (tC (.int 1))) (tNil))))) (tNext))
    (tSeq (tIfS (tTest (tOp rEq (tVar 1) (tC (.int 7)))) (tRet (tMeth d.cDesk "go" sp_Desk_go [] E (tVar 0) (tCons (tOp (rIxL K) (tVar 2) (tC (.int 0))) (tCons (tOp (rIxL K) (tVar 2) (tC (.int 1))) (tNil))))) (tNext))
    (tRet (tMeth d.cDesk "ends" sp_Desk_ends [] E (tVar 0) (tCons (tOp (rIxL K) (tVar 2) (tC (.int 0))) (tCons (tOp (rIxL K) (tVar 2) (tC (.int 1))) (tNil)))))))))))))
theorem dv_call_told (T : Txt K mg d) {sp_Desk_load sp_refuse_if sp_Desk_cands sp_Desk_put_days sp_Desk_best sp_Desk_always sp_Desk_check sp_Desk_day sp_Desk_go sp_Desk_ends : Sp} (G_Desk_load : FnOk P w K mg base CX0 8 d.f_Desk_load d.fd_Desk_load P_Desk_load sp_Desk_load) (G_refuse_if : FnOk P w K mg base (L2.CX P w) 3 d.f_refuse_if d.fd_refuse_if P_refuse_if sp_refuse_if) (G_Desk_cands : FnOk P w K mg base (L2.CX P w) 4 d.f_Desk_cands d.fd_Desk_cands P_Desk_cands sp_Desk_cands) (G_Desk_put_days : FnOk P w K mg base (L2.CX P w) 4 d.f_Desk_put_days d.fd_Desk_put_days P_Desk_put_days sp_Desk_put_days) (G_Desk_best : FnOk P w K mg base (L2.CX P w) 5 d.f_Desk_best d.fd_Desk_best P_Desk_best sp_Desk_best) (G_Desk_always : FnOk P w K mg base (L2.CX P w) 5 d.f_Desk_always d.fd_Desk_always P_Desk_always sp_Desk_always) (G_Desk_check : FnOk P w K mg base (L2.CX P w) 5 d.f_Desk_check d.fd_Desk_check P_Desk_check sp_Desk_check) (G_Desk_day : FnOk P w K mg base (L2.CX P w) 5 d.f_Desk_day d.fd_Desk_day P_Desk_day sp_Desk_day) (G_Desk_go : FnOk P w K mg base (L2.CX P w) 5 d.f_Desk_go d.fd_Desk_go P_Desk_go sp_Desk_go) (G_Desk_ends : FnOk P w K mg base (L2.CX P w) 6 d.f_Desk_ends d.fd_Desk_ends P_Desk_ends sp_Desk_ends) {cdv : Value} {A : Around} {outer : List Env} {s : Shared} {H : Hp} {E : XK} (hr : Room 8 (A.deeper (envOfC "call_told" (defScope s_call_told) s.heap.objs.size d.f_call_told cdv))) :
    PSs (cxOf (L2.CX P w) P w K mg base N_call_told "call_told" (defScope s_call_told) d.f_call_told cdv A outer s H E) (defBody s_call_told) (t_call_told K d E sp_Desk_load sp_refuse_if sp_Desk_cands sp_Desk_put_days sp_Desk_best sp_Desk_always sp_Desk_check sp_Desk_day sp_Desk_go sp_Desk_ends) :=
  pss_cons (ps_if (pt_cmpR op_eq (pv 1) (pe_gI (by rfl) T.G.m_LOAD) (nomark _)) (pss_one (ps_ret (pe_meth (pv 0) T.C.cl_Desk T.C.me_Desk_load G_Desk_load (hr.mono (by decide)) (bd_Desk_load T) .nil pass0 (by exact pa_cons (pv 3) (pa_nil))))) (pss_nil))
    (pss_cons (ps_expr (pe_call G_refuse_if (hr.mono (by decide)) (by rfl) T.G.g_refuse_if T.F.F_refuse_if.kp (bd_refuse_if T) .nil (passes_call (takes_of rfl rfl rfl rfl) fun _ _ _ _ h => h) (by exact pa_cons (pe_cmpR op_isN (pe_fld (pv 0) rfl) (pe_non) (nomark _)) (pa_cons (pe_un un_neg (pe_int)) (pa_nil)))))
    (pss_cons (ps_if (pt_cmpR op_eq (pv 1) (pe_gI (by rfl) T.G.m_CANDS) (nomark _)) (pss_one (ps_ret (pe_meth (pv 0) T.C.cl_Desk T.C.me_Desk_cands G_Desk_cands (hr.mono (by decide)) (bd_Desk_cands T) .nil (passes_call (takes_of rfl rfl rfl rfl) fun _ _ _ _ h => h) (by exact pa_cons (pv 3) (pa_nil))))) (pss_nil))
    (pss_cons (ps_if (pt_cmpR op_eq (pv 1) (pe_gI (by rfl) T.G.m_DAYS) (nomark _)) (pss_one (ps_ret (pe_meth (pv 0) T.C.cl_Desk T.C.me_Desk_put_days G_Desk_put_days (hr.mono (by decide)) (bd_Desk_put_days T) .nil (passes_call (takes_of rfl rfl rfl rfl) fun _ _ _ _ h => h) (by exact pa_cons (pv 3) (pa_nil))))) (pss_nil))
    (pss_cons (ps_if (pt_cmpR op_eq (pv 1) (pe_gI (by rfl) T.G.m_BEST) (nomark _)) (pss_one (ps_ret (pe_meth (pv 0) T.C.cl_Desk T.C.me_Desk_best G_Desk_best (hr.mono (by decide)) (bd_Desk_best T) .nil (passes_call (takes_of rfl rfl rfl rfl) fun _ _ _ _ h => h) (by exact pa_cons (pe_ix ix_list (pv 2) (pe_int) (fun _ _ => rfl)) (pa_nil))))) (pss_nil))
    (pss_cons (ps_if (pt_cmpR op_eq (pv 1) (pe_gI (by rfl) T.G.m_ALWAYS) (nomark _)) (pss_one (ps_ret (pe_meth (pv 0) T.C.cl_Desk T.C.me_Desk_always G_Desk_always (hr.mono (by decide)) (bd_Desk_always T) .nil (passes_call (takes_of rfl rfl rfl rfl) fun _ _ _ _ h => h) (by exact pa_cons (pe_ix ix_list (pv 2) (pe_int) (fun _ _ => rfl)) (pa_nil))))) (pss_nil))
    (pss_cons (ps_if (pt_cmpR op_eq (pv 1) (pe_gI (by rfl) T.G.m_CHECK) (nomark _)) (pss_one (ps_ret (pe_meth (pv 0) T.C.cl_Desk T.C.me_Desk_check G_Desk_check (hr.mono (by decide)) (bd_Desk_check T) .nil (passes_call (takes_of rfl rfl rfl rfl) fun _ _ _ _ h => h) (by exact pa_cons (pe_ix ix_list (pv 2) (pe_int) (fun _ _ => rfl)) (pa_cons (pv 3) (pa_nil)))))) (pss_nil))
    (pss_cons (ps_if (pt_cmpR op_eq (pv 1) (pe_gI (by rfl) T.G.m_DAY) (nomark _)) (pss_one (ps_ret (pe_meth (pv 0) T.C.cl_Desk T.C.me_Desk_day G_Desk_day (hr.mono (by decide)) (bd_Desk_day T) .nil (passes_call (takes_of rfl rfl rfl rfl) fun _ _ _ _ h => h) (by exact pa_cons (pe_ix ix_list (pv 2) (pe_int) (fun _ _ => rfl)) (pa_cons (pe_ix ix_list (pv 2) (pe_int) (fun _ _ => rfl)) (pa_nil)))))) (pss_nil))
    (pss_cons (ps_if (pt_cmpR op_eq (pv 1) (pe_gI (by rfl) T.G.m_GO) (nomark _)) (pss_one (ps_ret (pe_meth (pv 0) T.C.cl_Desk T.C.me_Desk_go G_Desk_go (hr.mono (by decide)) (bd_Desk_go T) .nil (passes_call (takes_of rfl rfl rfl rfl) fun _ _ _ _ h => h) (by exact pa_cons (pe_ix ix_list (pv 2) (pe_int) (fun _ _ => rfl)) (pa_cons (pe_ix ix_list (pv 2) (pe_int) (fun _ _ => rfl)) (pa_nil)))))) (pss_nil))
    (pss_one (ps_ret (pe_meth (pv 0) T.C.cl_Desk T.C.me_Desk_ends G_Desk_ends (hr.mono (by decide)) (bd_Desk_ends T) .nil (passes_call (takes_of rfl rfl rfl rfl) fun _ _ _ _ h => h) (by exact pa_cons (pe_ix ix_list (pv 2) (pe_int) (fun _ _ => rfl)) (pa_cons (pe_ix ix_list (pv 2) (pe_int) (fun _ _ => rfl)) (pa_nil))))))))))))))
/-- CallReader.__init__: slots self, calls -/
def t_CallReader_init (K : PySem.W.Frag) (d : Ad) : TS :=
  tSeq (sFld K (tVar 0) (tVar 1) "calls")
    (sFld K (tVar 0) (tC (.int 0)) "at")
theorem dv_CallReader_init (T : Txt K mg d) {cdv : Value} {A : Around} {outer : List Env} {s : Shared} {H : Hp} {E : XK} (hr : Room 0 (A.deeper (envOfC "CallReader.__init__" (defScope s_CallReader_init) s.heap.objs.size d.f_CallReader_init cdv))) :
    PSs (cxOf CX0 P w K mg base N_CallReader_init "CallReader.__init__" (defScope s_CallReader_init) d.f_CallReader_init cdv A outer s H E).nox (defBody s_CallReader_init) (t_CallReader_init K d) :=
  pss_cons (ps_fld (pv 0) (pv 1) rfl)
    (pss_one (ps_fld (pv 0) (pe_int) rfl))
/-- CallReader.is_done: slots self -/
def t_CallReader_is_done (K : PySem.W.Frag) (d : Ad) : TS :=
  tRet (tOp kGe (tFld K (tVar 0) "at") (tCB (Evl.rLenS K) (tCons (tFld K (tVar 0) "calls") (tNil))))
theorem dv_CallReader_is_done (T : Txt K mg d) {cdv : Value} {A : Around} {outer : List Env} {s : Shared} {H : Hp} {E : XK} (hr : Room 0 (A.deeper (envOfC "CallReader.is_done" (defScope s_CallReader_is_done) s.heap.objs.size d.f_CallReader_is_done cdv))) :
    PSs (cxOf CX0 P w K mg base N_CallReader_is_done "CallReader.is_done" (defScope s_CallReader_is_done) d.f_CallReader_is_done cdv A outer s H E).nox (defBody s_CallReader_is_done) (t_CallReader_is_done K d) :=
  pss_one (ps_ret (pe_cmpR op_ge (pe_fld (pv 0) rfl) (pe_callB call_len_seq (by rfl) T.G.b_len PySem.boot_len (pa_cons (pe_fld (pv 0) rfl) (pa_nil))) (nomark _)))
/-- CallReader.next_some: slots self, many -/
def t_CallReader_next_some (K : PySem.W.Frag) (d : Ad) : TS :=
  tSeq (sFldAug K (tVar 0) (tVar 1) rAdd "at")
    (tRet (tSl (rSlL K) (tFld K (tVar 0) "calls") (tPart (tOp kSub (tFld K (tVar 0) "at") (tVar 1))) (tPart (tFld K (tVar 0) "at"))))
theorem dv_CallReader_next_some (T : Txt K mg d) {cdv : Value} {A : Around} {outer : List Env} {s : Shared} {H : Hp} {E : XK} (hr : Room 0 (A.deeper (envOfC "CallReader.next_some" (defScope s_CallReader_next_some) s.heap.objs.size d.f_CallReader_next_some cdv))) :
    PSs (cxOf CX0 P w K mg base N_CallReader_next_some "CallReader.next_some" (defScope s_CallReader_next_some) d.f_CallReader_next_some cdv A outer s H E).nox (defBody s_CallReader_next_some) (t_CallReader_next_some K d) :=
  pss_cons (ps_fldaug (pv 0) (pv 1) in_add)
    (pss_one (ps_ret (pe_slice sl_list (pe_fld (pv 0) rfl) (po_some (pe_op op_sub (pe_fld (pv 0) rfl) (pv 1))) (po_some (pe_fld (pv 0) rfl)))))
/-- answers: slots calls, desk, reader, found, call, numbers, row, answer -/
def t_answers (K : PySem.W.Frag) (d : Ad) (sp_Desk_init sp_CallReader_init sp_CallReader_is_done sp_CallReader_next_some sp_answer_of : Sp) : TS :=
  tSeq (tAsg (tMake d.cDesk sp_Desk_init [] E0 tNil) (gName 1))
    (tSeq (tAsg (tMake d.cCallReader sp_CallReader_init [] E0 (tCons (tVar 0) (tNil))) (gName 2))
    (tSeq (tAsg (tLst (tNil)) (gName 3))
    (tSeq (tWhile (tNot (tB (tMeth d.cCallReader "is_done" sp_CallReader_is_done [] E0 (tVar 2) tNil))) (tSeq (tAsg (tOp (rIxL K) (tMeth d.cCallReader "next_some" sp_CallReader_next_some [] E0 (tVar 2) (tCons (tC (.int 1)) (tNil))) (tC (.int 0))) (gName 4))
    (tSeq (tAsg (tMeth d.cCallReader "next_some" sp_CallReader_next_some [] E0 (tVar 2) (tCons (tOp (rIxT K) (tC (.ref d.k_NUMBERS)) (tVar 4)) (tNil))) (gName 5))
    (tSeq (tAsg (tLst (tNil)) (gName 6))
    (tSeq (tIfS (tTest (tOp kGt (tOp (rIxT K) (tC (.ref d.k_ROWS)) (tVar 4)) (tC (.int 0)))) (tAsg (tMeth d.cCallReader "next_some" sp_CallReader_next_some [] E0 (tVar 2) (tCons (tOp (rIxL K) (tMeth d.cCallReader "next_some" sp_CallReader_next_some [] E0 (tVar 2) (tCons (tC (.int 1)) (tNil))) (tC (.int 0))) (tNil))) (gName 6)) (tNext))
    (tSeq (tAsg (tCall sp_answer_of [] E0 (tCons (tVar 1) (tCons (tVar 4) (tCons (tVar 5) (tCons (tVar 6) (tNil)))))) (gName 7))
    (tSeq (tDrop (tBM K "list" rAppend (tVar 3) (tCons (tCB (Evl.rLenS K) (tCons (tVar 7) (tNil))) (tNil))))
    (tDrop (tBM K "list" rExtend (tVar 3) (tCons (tVar 7) (tNil)))))))))))
    (tRet (tVar 3)))))
theorem dv_answers (T : Txt K mg d) {sp_Desk_init sp_CallReader_init sp_CallReader_is_done sp_CallReader_next_some sp_answer_of : Sp} (G_Desk_init : FnOk P w K mg base CX0 1 d.f_Desk_init d.fd_Desk_init P_Desk_init sp_Desk_init) (G_CallReader_init : FnOk P w K mg base CX0 1 d.f_CallReader_init d.fd_CallReader_init P_CallReader_init sp_CallReader_init) (G_CallReader_is_done : FnOk P w K mg base CX0 1 d.f_CallReader_is_done d.fd_CallReader_is_done P_CallReader_is_done sp_CallReader_is_done) (G_CallReader_next_some : FnOk P w K mg base CX0 1 d.f_CallReader_next_some d.fd_CallReader_next_some P_CallReader_next_some sp_CallReader_next_some) (G_answer_of : FnOk P w K mg base CX0 10 d.f_answer_of d.fd_answer_of P_answer_of sp_answer_of) {cdv : Value} {A : Around} {outer : List Env} {s : Shared} {H : Hp} {E : XK} (hr : Room 10 (A.deeper (envOfC "answers" (defScope s_answers) s.heap.objs.size d.f_answers cdv))) :
    PSs (cxOf CX0 P w K mg base N_answers "answers" (defScope s_answers) d.f_answers cdv A outer s H E).nox (defBody s_answers) (t_answers K d sp_Desk_init sp_CallReader_init sp_CallReader_is_done sp_CallReader_next_some sp_answer_of) :=
  pss_cons (ps_set (i := 1) sc_answers.nd rfl (by first | exact Or.inl rfl | exact Or.inr rfl) (by exact pe_make0 T.C.mk_Desk G_Desk_init (hr.mono (by decide)) (by rfl) T.G.g_Desk (bd_Desk_init T) .nil pass0))
    (pss_cons (ps_set (i := 2) sc_answers.nd rfl (by first | exact Or.inl rfl | exact Or.inr rfl) (by exact pe_make T.C.mk_CallReader G_CallReader_init (hr.mono (by decide)) (by rfl) T.G.g_CallReader (bd_CallReader_init T) .nil pass0 (by exact pa_cons (pv 0) (pa_nil))))
    (pss_cons (ps_set (i := 3) sc_answers.nd rfl (by first | exact Or.inl rfl | exact Or.inr rfl) (by exact pe_lst (pa_nil)))
    (pss_cons (ps_while PassesOwn.never (pt_not (pt_val (pe_meth0 (pv 2) T.C.cl_CallReader T.C.me_CallReader_is_done G_CallReader_is_done (hr.mono (by decide)) (bd_CallReader_is_done T) .nil pass0))) (pss_cons (ps_set (i := 4) sc_answers.nd rfl (by first | exact Or.inl rfl | exact Or.inr rfl) (by exact pe_ix ix_list (pe_meth (pv 2) T.C.cl_CallReader T.C.me_CallReader_next_some G_CallReader_next_some (hr.mono (by decide)) (bd_CallReader_next_some T) .nil pass0 (by exact pa_cons (pe_int) (pa_nil))) (pe_int) (fun _ _ => rfl)))
    (pss_cons (ps_set (i := 5) sc_answers.nd rfl (by first | exact Or.inl rfl | exact Or.inr rfl) (by exact pe_meth (pv 2) T.C.cl_CallReader T.C.me_CallReader_next_some G_CallReader_next_some (hr.mono (by decide)) (bd_CallReader_next_some T) .nil pass0 (by exact pa_cons (pe_ix ix_tup (pe_glob (by rfl) T.G.m_NUMBERS rfl) (pv 4) (fun _ _ => rfl)) (pa_nil))))
    (pss_cons (ps_set (i := 6) sc_answers.nd rfl (by first | exact Or.inl rfl | exact Or.inr rfl) (by exact pe_lst (pa_nil)))
    (pss_cons (ps_if (pt_cmpR op_gt (pe_ix ix_tup (pe_glob (by rfl) T.G.m_ROWS rfl) (pv 4) (fun _ _ => rfl)) (pe_int) (nomark _)) (pss_one (ps_set (i := 6) sc_answers.nd rfl (by first | exact Or.inl rfl | exact Or.inr rfl) (by exact pe_meth (pv 2) T.C.cl_CallReader T.C.me_CallReader_next_some G_CallReader_next_some (hr.mono (by decide)) (bd_CallReader_next_some T) .nil pass0 (by exact pa_cons (pe_ix ix_list (pe_meth (pv 2) T.C.cl_CallReader T.C.me_CallReader_next_some G_CallReader_next_some (hr.mono (by decide)) (bd_CallReader_next_some T) .nil pass0 (by exact pa_cons (pe_int) (pa_nil))) (pe_int) (fun _ _ => rfl)) (pa_nil))))) (pss_nil))
    (pss_cons (ps_set (i := 7) sc_answers.nd rfl (by first | exact Or.inl rfl | exact Or.inr rfl) (by exact pe_call G_answer_of (hr.mono (by decide)) (by rfl) T.G.g_answer_of T.F.F_answer_of.kp (bd_answer_of T) .nil pass0 (by exact pa_cons (pv 1) (pa_cons (pv 4) (pa_cons (pv 5) (pa_cons (pv 6) (pa_nil)))))))
    (pss_cons (ps_expr (pe_bm PySem.F.plainAttrs_list PySem.F.slot_list_append PySem.F.type_list_append mt_append (pv 3) (pa_cons (pe_callB call_len_seq (by rfl) T.G.b_len PySem.boot_len (pa_cons (pv 7) (pa_nil))) (pa_nil))))
    (pss_one (ps_expr (pe_bm PySem.F.plainAttrs_list PySem.F.slot_list_extend PySem.F.type_list_extend mt_extend (pv 3) (pa_cons (pv 7) (pa_nil))))))))))))
    (pss_one (ps_ret (pv 3))))))
end
end KW
end
section
/-! # plans: rooms, costs, goings, days -/
namespace KW
open PySem PySem.Spec PyProof.Rows L2 Evl
def sp_room (d : Ad) : Sp := fun vs H Q _ => ∃ (a : Addr) (z : Vamvse.Held) (s : Nat), vs = [.ref a, nV s] ∧ ChoiceAt d H a z ∧ HeldOk z ∧ RetV (nV (Vamvse.roomOf z.t z.cs s)) H Q
def sp_count_sets (d : Ad) : Sp := fun vs H Q _ => ∃ (a : Addr) (z : Vamvse.Held), vs = [.ref a] ∧ ChoiceAt d H a z ∧ HeldOk z ∧ RetV (nV (2 ^ z.cs.length)) H Q
def sp_fitting (d : Ad) : Sp := fun vs H Q _ => ∃ (a : Addr) (z : Vamvse.Held) (r : Nat), vs = [.ref a, nV r] ∧ ChoiceAt d H a z ∧ HeldOk z ∧ RetL ((Vamvse.fitting z.t z.cs r).map nV) H Q
def sp_cost (d : Ad) : Sp := fun vs H Q _ => ∃ (a : Addr) (z : Vamvse.Held) (g s : Nat), vs = [.ref a, nV g, nV s] ∧ ChoiceAt d H a z ∧ HeldOk z ∧ g < 2 ^ Vamvsa.width z.t ∧ RetV (nV (Vamvsa.costOf z.t (Vamvse.setOf z.cs s) g)) H Q
section
variable {P : Program} {w : World} {K : PySem.W.Frag} {mg : Str → Option Value} {base : Heap} {d : Ad}
theorem nV_at {l : List Nat} {n : Nat} {x : V} (h : (l.map nV)[n]? = some x) : ∃ c, l[n]? = some c ∧ x = nV c := by
  rw [List.getElem?_map] at h
  cases e : l[n]? with
  | none =>
    rw [e] at h
    cases h
  | some c =>
    rw [e] at h
    exact ⟨c, rfl, (Option.some.inj h).symm⟩
theorem at_nV {l : List Nat} {n c : Nat} (h : l[n]? = some c) : (l.map nV)[n]? = some (nV c) := by
  rw [List.getElem?_map, h]
  rfl
theorem el_is {te : TE} {σ : L2.St} {H : Hp} {xs ys : List V} (h : EvL te σ H xs) (e : xs = ys) : EvL te σ H ys := e ▸ h
theorem mapV_le {α : Type} {l : List α} {f : α → V} {n : Nat} (h : l.length ≤ n) : (l.map f).length ≤ n := by
  rw [List.length_map]
  exact h
theorem getD_at {l : List V} {n : Nat} {x y : V} (h : l[n]? = some x) : l.getD n y = x := by
  rw [List.getD_eq_getElem?_getD, h]
  rfl
theorem ok_room (T : Txt K mg d) : FnOk P w K mg base CX0 1 d.f_Choice_room d.fd_Choice_room P_Choice_room (sp_room d) := by
  refine T.F.F_Choice_room.ok sc_Choice_room (fun vs H Q E h => ?_) (fun cdv A outer s H vs Q E hr h => ⟨t_Choice_room K d, dv_Choice_room T hr, ?_⟩)
  · obtain ⟨a, z, s, rfl, _⟩ := h
    rfl
  · obtain ⟨a, z, s, rfl, ⟨dx, ta, ca, sa, da, hI, hT, hc, hs, hd⟩, hz, k⟩ := h
    have h4 := hz.cs4
    refine s_ret (ev_is (ev_sumN (ns := ((KA.roomM (z.cs.map (Vamvsa.sizeOf_ z.t)) s).map fun n : Nat => (n : Int))) (el_is (el_lcEn (fun n => KA.bit s n) (fun n => ((z.cs.map (Vamvsa.sizeOf_ z.t)).map nV).getD n .non)
      (ev_Choice_sizes T (ev_var rfl) hI) (sq_of hs) (mapV_le (by rw [List.length_map]; omega)) (fun _ _ => rfl) (fun n x H1 e hx => et_test (ev_bit1 (ev_var rfl) (ev_var rfl))) (fun n x H1 e hx _ => ev_var (by rw [getD_at hx]; rfl))) ?_)) ?_) k
    · rw [List.length_map, given_zip (fun _ i => KA.bit s i) nV (z.cs.map (Vamvsa.sizeOf_ z.t)) 0 _ _ (fun i x hx => ⟨by rw [Nat.zero_add], getD_at (at_nV hx)⟩)]
      unfold KA.roomM
      rw [List.map_map, List.map_map]
      rfl
    · rw [sum_nat, KA.room_eq]
theorem ok_count_sets (T : Txt K mg d) : FnOk P w K mg base CX0 1 d.f_Choice_count_sets d.fd_Choice_count_sets P_Choice_count_sets (sp_count_sets d) := by
  refine T.F.F_Choice_count_sets.ok sc_Choice_count_sets (fun vs H Q E h => ?_) (fun cdv A outer s H vs Q E hr h => ⟨t_Choice_count_sets K d, dv_Choice_count_sets T hr, ?_⟩)
  · obtain ⟨a, z, rfl, _⟩ := h
    rfl
  · obtain ⟨a, z, rfl, ⟨dx, ta, ca, sa, da, hI, hT, hc, hs, hd⟩, hz, k⟩ := h
    have h4 := hz.cs4
    refine s_ret (ev_shl1 (n := z.cs.length) (by omega) (ev_is (ev_len (ev_Choice_candidates T (ev_var rfl) hI) (sq_of hc)) ?_)) k
    rw [List.length_map]
theorem spv_room {a : Addr} {z : Vamvse.Held} {s : Nat} {H : Hp} (hC : ChoiceAt d H a z) (hz : HeldOk z) : SpV (sp_room d) [.ref a, nV s] H (nV (Vamvse.roomOf z.t z.cs s)) := fun H1 e Q q E =>
  ⟨a, z, s, rfl, hC.mono e, hz, q⟩
theorem spv_count_sets {a : Addr} {z : Vamvse.Held} {H : Hp} (hC : ChoiceAt d H a z) (hz : HeldOk z) : SpV (sp_count_sets d) [.ref a] H (nV (2 ^ z.cs.length)) := fun H1 e Q q E =>
  ⟨a, z, rfl, hC.mono e, hz, q⟩
theorem spl_fitting {a : Addr} {z : Vamvse.Held} {r : Nat} {H : Hp} (hC : ChoiceAt d H a z) (hz : HeldOk z) : SpL (sp_fitting d) [.ref a, nV r] H ((Vamvse.fitting z.t z.cs r).map nV) := fun H1 e Q q E =>
  ⟨a, z, r, rfl, hC.mono e, hz, q⟩
theorem spv_cost {a : Addr} {z : Vamvse.Held} {g s : Nat} {H : Hp} (hC : ChoiceAt d H a z) (hz : HeldOk z) (hg : g < 2 ^ Vamvsa.width z.t) : SpV (sp_cost d) [.ref a, nV g, nV s] H (nV (Vamvsa.costOf z.t (Vamvse.setOf z.cs s) g)) := fun H1 e Q q E =>
  ⟨a, z, g, s, rfl, hC.mono e, hz, hg, q⟩
theorem ok_fitting (T : Txt K mg d) : FnOk P w K mg base CX0 2 d.f_Choice_fitting d.fd_Choice_fitting P_Choice_fitting (sp_fitting d) := by
  refine T.F.F_Choice_fitting.ok sc_Choice_fitting (fun vs H Q E h => ?_) (fun cdv A outer s H vs Q E hr h => ⟨t_Choice_fitting K d (sp_count_sets d) (sp_room d), dv_Choice_fitting T (ok_count_sets T) (ok_room T) hr, ?_⟩)
  · obtain ⟨a, z, r, rfl, _⟩ := h
    rfl
  · obtain ⟨a, z, r, rfl, hC, hz, k⟩ := h
    have hC0 := hC
    obtain ⟨dx, ta, ca, sa, da, hI, hT, hc, hs, hd⟩ := hC
    have h4 := hz.cs4
    have h16 : 2 ^ z.cs.length ≤ 16 := Nat.pow_le_pow_right (by decide) h4
    refine s_retL (el_is (el_lcR1 (n := ((2 ^ z.cs.length : Nat) : Int)) (fun n => decide (Vamvse.roomOf z.t z.cs n ≤ r)) nV (ea_cons (ev_methG (ev_var rfl) hI (no_Choice_count_sets ..) ea_nil (spv_count_sets hC0 hz)) ea_nil) ⟨Int.natCast_nonneg _, Int.le_trans (Int.ofNat_le.mpr h16) (by decide)⟩ (fun _ => rfl)
      (fun i H1 e hi => et_test (ev_is (ev_op (ev_methG (ev_var rfl) (e.at hI) (no_Choice_room ..) (ea_cons (ev_var rfl) ea_nil) (spv_room (hC0.mono e) hz)) (ev_var rfl) rv_le) ?_)) (fun i H1 e hi _ => ev_var rfl)) ?_) k
    · congr 1
      exact decide_eq_decide.mpr Int.ofNat_le
    · unfold given Vamvse.fitting Vamvse.setsOf
      rw [Int.toNat_natCast]
theorem ok_cost (T : Txt K mg d) : FnOk P w K mg base CX0 1 d.f_Choice_cost d.fd_Choice_cost P_Choice_cost (sp_cost d) := by
  refine T.F.F_Choice_cost.ok sc_Choice_cost (fun vs H Q E h => ?_) (fun cdv A outer s H vs Q E hr h => ⟨t_Choice_cost K d, dv_Choice_cost T hr, ?_⟩)
  · obtain ⟨a, z, g, s, rfl, _⟩ := h
    rfl
  · obtain ⟨a, z, g, s, rfl, ⟨dx, ta, ca, sa, da, hI, hT, hc, hs, hd⟩, hz, hg, k⟩ := h
    obtain ⟨dxt, cola, ra, qa, hIt, hcol, ⟨rs, hra, hrs⟩, hq⟩ := hT
    have h4 := hz.cs4
    have hf : ∀ n : Nat, n ≤ z.cs.length → (given n (fun n => KA.bit s n && KA.subs g (z.cs.getD n 0)) (fun n => nV ((z.cs.map (Vamvsa.sizeOf_ z.t)).getD n 0))).length ≤ 4 := fun n hn => by
      have := given_len n (fun n => KA.bit s n && KA.subs g (z.cs.getD n 0)) (fun n => nV ((z.cs.map (Vamvsa.sizeOf_ z.t)).getD n 0))
      omega
    refine q_asgL (el_lst ea_nil (by decide)) fun l H1 hl e1 hl1 => ?_
    refine s_forEn (ev_Choice_candidates T (ev_var rfl) (e1.at hI)) (sq_of (e1.at hc)) (fun n σ' H' => ∃ v1 v2 : Option V, σ' = [some (.ref a), some (nV g), some (nV s), some (.ref l), v1, v2] ∧ Ex H H' ∧
        H' l = some (.lst (given n (fun n => KA.bit s n && KA.subs g (z.cs.getD n 0)) (fun n => nV ((z.cs.map (Vamvsa.sizeOf_ z.t)).getD n 0)))))
      (fun H2 e2 => ⟨none, none, rfl, e1.trans e2, e2.at hl1⟩) (fun n σ' H' hn ⟨_, _, _, e, _⟩ => sq_of (e.at hc)) ?_ ?_
    · rintro n x σ' H2 H3 hx ⟨v1, v2, rfl, e2, hl2⟩ e3
      obtain ⟨c, hcn, rfl⟩ := nV_at hx
      have hn : n < z.cs.length := (List.getElem?_eq_some_iff.mp hcn).1
      have ec : z.cs.getD n 0 = c := by rw [List.getD_eq_getElem?_getD, hcn]; rfl
      refine s_when (et_and (et_test (ev_bit1 (k := n) (ev_var rfl) (ev_var rfl))) (fun _ => et_test (ev_subs (ev_var rfl) (ev_var rfl) (ev_var rfl)))) (fun hb H4 e4 => ?_) (fun hb H4 e4 => ⟨_, _, rfl, (e2.trans e3).trans e4, ?_⟩)
      · refine s_app (v := nV ((z.cs.map (Vamvsa.sizeOf_ z.t)).getD n 0)) ((e3.trans e4).at hl2) (ev_var rfl) (ev_op (ev_Choice_sizes T (ev_var rfl) (((e2.trans e3).trans e4).at hI)) (ev_var rfl) (rv_ixL (sq_of (((e2.trans e3).trans e4).at hs)) (atI_nat ?_))) (by have := hf n (by omega); omega) (fun H5 e5 => ⟨_, _, rfl, Ex.mut (((e2.trans e3).trans e4).trans e5) hl, ?_⟩)
        · rw [List.getElem?_map, List.getD_eq_getElem?_getD, List.getElem?_map, hcn]
          rfl
        · rw [given_yes (by rw [ec]; exact hb)]
          exact upd_same
      · rw [given_no (by rw [ec]; exact hb)]
        exact (e3.trans e4).at hl2
    · rintro σ' H2 ⟨v1, v2, rfl, e2, hl2⟩
      have eg : given (z.cs.map nV).length (fun n => KA.bit s n && KA.subs g (z.cs.getD n 0)) (fun n => nV ((z.cs.map (Vamvsa.sizeOf_ z.t)).getD n 0)) = (KA.someOf z.cs (z.cs.map (Vamvsa.sizeOf_ z.t)) s g).map nV := by
        have e := given_zip (fun (x : Nat × Nat) i => KA.bit s i && KA.subs g x.1) (fun x => nV x.2) (z.cs.zip (z.cs.map (Vamvsa.sizeOf_ z.t))) 0 (fun n => KA.bit s n && KA.subs g (z.cs.getD n 0)) (fun n => nV ((z.cs.map (Vamvsa.sizeOf_ z.t)).getD n 0)) (fun i x hx => by
          obtain ⟨h1, h2⟩ := List.getElem?_zip_eq_some.mp hx
          rw [Nat.zero_add, List.getD_eq_getElem?_getD, List.getD_eq_getElem?_getD, h1, h2]
          exact ⟨rfl, rfl⟩)
        rw [List.length_zip, List.length_map, Nat.min_self] at e
        rw [List.length_map, e]
        unfold KA.someOf
        rw [List.map_map]
        rfl
      rw [eg, map_nV] at hl2
      refine s_ret (ev_is (ev_minD (ev_var rfl) (sq_of hl2) (ev_len (ev_Table_rows T (ev_Choice_table T (ev_var rfl) (e2.at hI)) (e2.at hIt)) (sq_of (e2.at hra)))) ?_) fun H3 e3 => k H3 (e2.trans e3)
      have hlen : ((rs.map V.ref).length : Int) = ((z.t.rows.length : Nat) : Int) := by
        have := pair_len hrs
        rw [List.length_map] at this
        rw [List.length_map, this]
      rw [hlen, minI_nat, KA.cost_eq hz.csB hg]
end
end KW
end
section
/-! # tables' sizes; goings, days, plans -/
namespace KW
open PySem PySem.Spec PyProof.Rows L2 Evl
/-! ### sums of the first so many -/
theorem zipIdx_take {α : Type} {l : List α} {n : Nat} {x : α} (h : l[n]? = some x) : (l.take (n + 1)).zipIdx = (l.take n).zipIdx ++ [(x, n)] := by
  have hl : n < l.length := (List.getElem?_eq_some_iff.mp h).1
  have e : l.take (n + 1) = l.take n ++ [x] := by
    rw [List.take_add_one, h]
    rfl
  rw [e, List.zipIdx_append, List.length_take, Nat.min_eq_left (Nat.le_of_lt hl), Nat.zero_add]
  rfl
theorem take_next {α : Type} {l : List α} {n : Nat} {x : α} (h : l[n]? = some x) : l.take (n + 1) = l.take n ++ [x] := by
  rw [List.take_add_one, h]
  rfl
theorem going_next (f : Nat → Nat) {cs : List Nat} {n c old new : Nat} (h : cs[n]? = some c) : (KA.goingM f (cs.take (n + 1)) old new).sum = (KA.goingM f (cs.take n) old new).sum + (if (KA.bit new n && !KA.bit old n) = true then f c else 0) := by
  unfold KA.goingM
  rw [zipIdx_take h, List.filter_append, List.map_append, List.sum_append_nat, List.filter_cons]
  by_cases hb : (KA.bit new n && !KA.bit old n) = true
  · rw [if_pos hb, if_pos (show (KA.bit new (c, n).2 && !KA.bit old (c, n).2) = true from hb)]
    simp
  · rw [if_neg hb, if_neg (show ¬ (KA.bit new (c, n).2 && !KA.bit old (c, n).2) = true from hb)]
    simp
theorem put_not {g : Nat} {gs : List (List Nat)} {vs : List Nat} (h : KA.grp g vs ∉ gs) : KA.putGrp g gs vs = gs ++ [KA.grp g vs] := if_neg h
theorem put_in {g : Nat} {gs : List (List Nat)} {vs : List Nat} (h : KA.grp g vs ∈ gs) : KA.putGrp g gs vs = gs := if_pos h
/-! ### promises -/
def sp_size (d : Ad) : Sp := fun vs H Q _ => ∃ (a : Addr) (cols : List VamvsBase.Bytes) (rows : List (List Nat)) (qs : List Vamvsa.Ask) (g : Nat), vs = [.ref a, nV g] ∧ TableAt d H a cols rows qs ∧ rows.length ≤ 16 ∧ (∀ r ∈ rows, r.length ≤ 4) ∧ RetV (nV (KA.sizeM rows g)) H Q
def sp_going (d : Ad) : Sp := fun vs H Q _ => ∃ (a : Addr) (z : Vamvse.Held) (old new : Nat), vs = [.ref a, nV old, nV new] ∧ ChoiceAt d H a z ∧ HeldOk z ∧ RetV (nV (Vamvse.goCost z.t z.cs old new)) H Q
def sp_day_cost (d : Ad) : Sp := fun vs H Q _ => ∃ (a p : Addr) (z : Vamvse.Held) (ks : List Nat) (s : Nat), vs = [.ref a, .ref p, nV s] ∧ ChoiceAt d H a z ∧ HeldOk z ∧ H p = some (.lst (ks.map nV)) ∧ (∀ k ∈ ks, k ≤ 99) ∧ RetV (nV (Vamvse.dayCost z.t z.cs ks s)) H Q
def sp_plan_cost (d : Ad) : Sp := fun vs H Q _ => ∃ (a p : Addr) (z : Vamvse.Held) (pl : List Nat), vs = [.ref a, .ref p] ∧ ChoiceAt d H a z ∧ HeldOk z ∧ H p = some (.lst (pl.map nV)) ∧ RetV (nV (Vamvse.planCost z.t z.cs z.days pl)) H Q
section
variable {P : Program} {w : World} {K : PySem.W.Frag} {mg : Str → Option Value} {base : Heap} {d : Ad}
theorem spv_size {a : Addr} {cols : List VamvsBase.Bytes} {rows : List (List Nat)} {qs : List Vamvsa.Ask} {g : Nat} {H : Hp} (hT : TableAt d H a cols rows qs) (h1 : rows.length ≤ 16) (h2 : ∀ r ∈ rows, r.length ≤ 4) : SpV (sp_size d) [.ref a, nV g] H (nV (KA.sizeM rows g)) := fun H1 e Q q E =>
  ⟨a, cols, rows, qs, g, rfl, hT.mono e, h1, h2, q⟩
theorem spv_going {a : Addr} {z : Vamvse.Held} {old new : Nat} {H : Hp} (hC : ChoiceAt d H a z) (hz : HeldOk z) : SpV (sp_going d) [.ref a, nV old, nV new] H (nV (Vamvse.goCost z.t z.cs old new)) := fun H1 e Q q E =>
  ⟨a, z, old, new, rfl, hC.mono e, hz, q⟩
theorem spv_day_cost {a p : Addr} {z : Vamvse.Held} {ks : List Nat} {s : Nat} {H : Hp} (hC : ChoiceAt d H a z) (hz : HeldOk z) (hp : H p = some (.lst (ks.map nV))) (hk : ∀ k ∈ ks, k ≤ 99) : SpV (sp_day_cost d) [.ref a, .ref p, nV s] H (nV (Vamvse.dayCost z.t z.cs ks s)) := fun H1 e Q q E =>
  ⟨a, p, z, ks, s, rfl, hC.mono e, hz, e _ _ hp, hk, q⟩
theorem spv_plan_cost {a p : Addr} {z : Vamvse.Held} {pl : List Nat} {H : Hp} (hC : ChoiceAt d H a z) (hz : HeldOk z) (hp : H p = some (.lst (pl.map nV))) : SpV (sp_plan_cost d) [.ref a, .ref p] H (nV (Vamvse.planCost z.t z.cs z.days pl)) := fun H1 e Q q E =>
  ⟨a, p, z, pl, rfl, hC.mono e, hz, e _ _ hp, q⟩
/-! ### lists of lists, as data -/
theorem dp_nats {H : Hp} (l : List Nat) : DpAll K H (l.map nV) (l.map fun n : Nat => PyData.int n)  := by
  induction l with
  | nil => exact .nil
  | cons n l ih => exact .cons (.int _) ih
theorem dp_rows {H : Hp} : ∀ {ps : List Addr} {gs : List (List Nat)}, Paired (fun r l => H r = some (.lst (l.map nV))) ps gs → DpAll K H (ps.map V.ref) (gs.map fun l => PyData.list (l.map fun n : Nat => PyData.int n))
  | [], _, .nil => .nil
  | p :: ps, _, .cons h t => .cons (.lst (sq_of h) (dp_nats _)) (dp_rows t)
theorem lay_nats : ∀ l : List Nat, PyData.canLayAll0 (l.map fun n : Nat => PyData.int n) = true
  | [] => by simp [PyData.canLayAll0]
  | n :: l => by simp [PyData.canLayAll0, PyData.canLay0, lay_nats l]
theorem depth_nats : ∀ l : List Nat, PyData.depthAll (l.map fun n : Nat => PyData.int n) = 0
  | [] => by simp [PyData.depthAll]
  | n :: l => by simp [PyData.depthAll, PyData.depth, depth_nats l]
theorem lay_rows : ∀ l : List (List Nat), PyData.canLayAll0 (l.map fun l => PyData.list (l.map fun n : Nat => PyData.int n)) = true
  | [] => by simp [PyData.canLayAll0]
  | n :: l => by
    simp only [List.map_cons, PyData.canLayAll0, PyData.canLay0, lay_nats, lay_rows l, Bool.and_self]
theorem depth_rows : ∀ l : List (List Nat), PyData.depthAll (l.map fun l => PyData.list (l.map fun n : Nat => PyData.int n)) ≤ 1
  | [] => by simp [PyData.depthAll]
  | n :: l => by
    have h := depth_rows l
    simp only [List.map_cons, PyData.depthAll, PyData.depth, depth_nats]
    omega
theorem shaped_nats (l : List Nat) : SeqAt.shaped (.list (l.map fun n : Nat => PyData.int n)) = true := by
  show (PyData.canLay0 _ && decide (PyData.depth _ ≤ 64)) = true
  rw [Bool.and_eq_true]
  refine ⟨by simp only [PyData.canLay0]; exact lay_nats l, decide_eq_true ?_⟩
  simp only [PyData.depth, depth_nats]
  omega
theorem shaped_rows (l : List (List Nat)) : SeqAt.shaped (.list (l.map fun l => PyData.list (l.map fun n : Nat => PyData.int n))) = true := by
  have h := depth_rows l
  show (PyData.canLay0 _ && decide (PyData.depth _ ≤ 64)) = true
  rw [Bool.and_eq_true]
  refine ⟨by simp only [PyData.canLay0]; exact lay_rows l, decide_eq_true ?_⟩
  simp only [PyData.depth]
  omega
theorem eqv_nats (a b : List Nat) : PyData.eqv (.list (a.map fun n : Nat => PyData.int n)) (.list (b.map fun n : Nat => PyData.int n)) = decide (a = b) := by
  have e := PySem.W.Datum.eqv (α := List Int) (a.map fun n : Nat => (n : Int)) (b.map fun n : Nat => (n : Int))
  have c : ∀ l : List Nat, (PySem.W.Datum.toD (l.map fun n : Nat => (n : Int)) : PyData) = .list (l.map fun n : Nat => PyData.int n) := fun l => by
    show PyData.list ((l.map fun n : Nat => (n : Int)).map PyData.int) = _
    rw [List.map_map]
    rfl
  rw [c, c] at e
  rw [e]
  have inj : (a.map fun n : Nat => (n : Int)) = (b.map fun n : Nat => (n : Int)) ↔ a = b := by
    constructor
    · intro h
      have h2 := congrArg (fun l : List Int => l.map Int.toNat) h
      simp only [List.map_map] at h2
      have id' : ∀ l : List Nat, l.map (Int.toNat ∘ fun n : Nat => (n : Int)) = l := fun l => by
        have : (Int.toNat ∘ fun n : Nat => (n : Int)) = id := by
          funext n
          exact Int.toNat_natCast n
        rw [this, List.map_id]
      rw [id', id'] at h2
      exact h2
    · intro h
      rw [h]
  exact decide_eq_decide.mpr inj
theorem any_nats (k : List Nat) : ∀ gs : List (List Nat), ((gs.map fun l => PyData.list (l.map fun n : Nat => PyData.int n)).any fun z => PyData.eqv z (.list (k.map fun n : Nat => PyData.int n))) = decide (k ∈ gs)
  | [] => by simp
  | g :: gs => by
    rw [List.map_cons, List.any_cons, any_nats k gs, eqv_nats]
    by_cases h : g = k
    · subst h
      simp
    · rw [decide_eq_false h, Bool.false_or]
      refine decide_eq_decide.mpr ⟨fun q => List.mem_cons_of_mem _ q, fun q => ?_⟩
      rcases List.mem_cons.mp q with e | e
      · exact absurd e.symm h
      · exact e
theorem rv_notInRows {H : Hp} {p l : Addr} {k : List Nat} {ps : List Addr} {gs : List (List Nat)} (hp : H p = some (.lst (k.map nV))) (hl : H l = some (.lst (ps.map V.ref))) (h : Paired (fun r l => H r = some (.lst (l.map nV))) ps gs) : RV (rNotInD K) (.ref p) (.ref l) H (.bl (!decide (k ∈ gs))) := fun H1 e Q q =>
  ⟨_, _, .lst (sq_of (e _ _ hp)) (dp_nats k), .lst (sq_of (e _ _ hl)) (dp_rows (pair_imp h fun _ _ z => e _ _ z)), shaped_nats k, shaped_rows gs, by
    rw [any_nats]
    exact q H1 (Ex.refl H1)⟩
/-! ### bodies -/
theorem ok_size (T : Txt K mg d) : FnOk P w K mg base CX0 1 d.f_Table_size d.fd_Table_size P_Table_size (sp_size d) := by
  refine T.F.F_Table_size.ok sc_Table_size (fun vs H Q E h => ?_) (fun cdv A outer s H vs Q E hr h => ⟨t_Table_size K d, dv_Table_size T hr, ?_⟩)
  · obtain ⟨a, cols, rows, qs, g, rfl, _⟩ := h
    rfl
  · obtain ⟨a, cols, rows, qs, g, rfl, ⟨dxt, cola, ra, qa, hIt, hcol, ⟨rs, hra, hrs⟩, hq⟩, hm, hw, k⟩ := h
    have hlen : rs.length = rows.length := pair_len hrs
    have small : ∀ n : Nat, ((rows.take n).foldl (KA.putGrp g) []).length ≤ n := fun n => by
      have key : ∀ (l : List (List Nat)) (gs : List (List Nat)), (l.foldl (KA.putGrp g) gs).length ≤ gs.length + l.length := by
        intro l
        induction l with
        | nil => exact fun gs => Nat.le_refl _
        | cons x l ih =>
          intro gs
          rw [List.foldl_cons]
          have h1 := ih (KA.putGrp g gs x)
          have h2 : (KA.putGrp g gs x).length ≤ gs.length + 1 := by
            unfold KA.putGrp
            split
            · omega
            · rw [List.length_append]
              exact Nat.le_refl _
          rw [List.length_cons]
          omega
      have h1 := key (rows.take n) []
      rw [List.length_take] at h1
      simp only [List.length_nil] at h1
      omega
    refine q_asgL (el_lst ea_nil (by decide)) fun l H1 hl e1 hl1 => ?_
    refine q_forLn (ev_Table_rows T (ev_var rfl) (e1.at hIt)) (sq_of (e1.at hra)) (fun n σ' H' => ∃ v1 v2 : Option V, σ' = [some (.ref a), some (nV g), some (.ref l), v1, v2, none, none] ∧ Ex H H' ∧
        ∃ ps : List Addr, H' l = some (.lst (ps.map V.ref)) ∧ Paired (fun r k => H' r = some (.lst (k.map nV)) ∧ r ≠ l) ps ((rows.take n).foldl (KA.putGrp g) []))
      (fun H2 e2 => ⟨none, none, rfl, e1.trans e2, [], e2.at hl1, .nil⟩) (fun n σ' H' hn ⟨_, _, _, e, _⟩ => sq_of (e.at hra)) ?_ ?_
    · rintro n x σ' H2 hx ⟨v1, v2, rfl, e2, ps, hps, hpp⟩
      have hx' : rs[n]? = some (match x with | .ref r => r | _ => 0) ∧ ∃ r, x = .ref r := by
        rw [List.getElem?_map] at hx
        cases e : rs[n]? with
        | none =>
          rw [e] at hx
          cases hx
        | some r =>
          rw [e] at hx
          have e3 := (Option.some.inj hx).symm
          subst e3
          exact ⟨rfl, r, rfl⟩
      obtain ⟨hr1, r, rfl⟩ := hx'
      have hr1 : rs[n]? = some r := hr1
      obtain ⟨vs, hvs, hrv⟩ := paired_get hrs hr1
      have hvl := hw vs (List.mem_of_getElem? hvs)
      have hn : n < rs.length := (List.getElem?_eq_some_iff.mp hr1).1
      have hstep : (rows.take (n + 1)).foldl (KA.putGrp g) [] = KA.putGrp g ((rows.take n).foldl (KA.putGrp g) []) vs := by
        rw [take_next hvs, List.foldl_append]
        rfl
      refine q_asgL (el_is (el_lcEn (fun n => KA.bit g n) (fun n => (vs.map nV).getD n .non) (ev_var rfl) (sq_of (e2.at hrv)) (mapV_le (by omega)) (fun _ _ => rfl) (fun m y H3 e3 hy => et_test (ev_bit1 (ev_var rfl) (ev_var rfl))) (fun m y H3 e3 hy _ => ev_var (by rw [getD_at hy]; rfl))) (ys := (KA.grp g vs).map nV) ?_) fun p H3 hp e3 hp3 => ?_
      · rw [List.length_map, given_zip (fun _ i => KA.bit g i) nV vs 0 _ _ (fun i x hx => ⟨by rw [Nat.zero_add], getD_at (at_nV hx)⟩)]
        unfold KA.grp
        rw [List.map_map]
        rfl
      · have hpl : p ≠ l := fun z => by
          rw [z, hps] at hp
          cases hp
        refine s_when (et_test (ev_op (ev_var rfl) (ev_var rfl) (rv_notInRows hp3 (e3.at hps) (pair_imp hpp fun _ _ z => e3.at z.1)))) (fun hb H4 e4 => ?_) (fun hb H4 e4 => ⟨_, _, rfl, (e2.trans e3).trans e4, ps, (e3.trans e4).at hps, ?_⟩)
        · have hnot : KA.grp g vs ∉ (rows.take n).foldl (KA.putGrp g) [] := by simpa using hb
          refine s_app ((e3.trans e4).at hps) (ev_var rfl) (ev_var rfl) (by
            have h1 := small n
            rw [List.length_map, pair_len hpp]
            omega) (fun H5 e5 => ⟨_, _, rfl, Ex.mut (((e2.trans e3).trans e4).trans e5) hl, ps ++ [p], by rw [List.map_append]; exact upd_same, ?_⟩)
          rw [hstep, put_not hnot]
          refine pair_app (pair_imp hpp fun q k z => ⟨?_, z.2⟩) ⟨?_, hpl⟩
          · rw [upd_ne z.2]
            exact ((e3.trans e4).trans e5).at z.1
          · rw [upd_ne hpl]
            exact (e4.trans e5).at hp3
        · have hin : KA.grp g vs ∈ (rows.take n).foldl (KA.putGrp g) [] := by simpa using hb
          rw [hstep, put_in hin]
          exact pair_imp hpp fun q k z => ⟨(e3.trans e4).at z.1, z.2⟩
    · rintro σ' H2 ⟨v1, v2, rfl, e2, ps, hps, hpp⟩
      refine s_ret (ev_is (ev_len (ev_var rfl) (sq_of hps)) ?_) fun H3 e3 => k H3 (e2.trans e3)
      have h1 := pair_len hpp
      rw [List.length_map, hlen, List.take_length] at h1
      rw [List.length_map, h1]
      rfl
theorem ok_going (T : Txt K mg d) : FnOk P w K mg base CX0 2 d.f_Choice_going d.fd_Choice_going P_Choice_going (sp_going d) := by
  refine T.F.F_Choice_going.ok sc_Choice_going (fun vs H Q E h => ?_) (fun cdv A outer s H vs Q E hr h => ⟨t_Choice_going K d (sp_cost d), dv_Choice_going T (ok_cost T) hr, ?_⟩)
  · obtain ⟨a, z, old, new, rfl, _⟩ := h
    rfl
  · obtain ⟨a, z, old, new, rfl, hC, hz, k⟩ := h
    have hC0 := hC
    obtain ⟨dx, ta, ca, sa, da, hI, hT, hc, hs, hd⟩ := hC
    refine q_asg ev_c fun H1 e1 => ?_
    refine s_forEn (ev_Choice_candidates T (ev_var rfl) (e1.at hI)) (sq_of (e1.at hc)) (fun n σ' H' => ∃ v1 v2 : Option V, σ' = [some (.ref a), some (nV old), some (nV new), some (nV (KA.goingM (fun c => Vamvsa.costOf z.t (Vamvse.setOf z.cs old) c) (z.cs.take n) old new).sum), v1, v2] ∧ Ex H H')
      (fun H2 e2 => ⟨none, none, rfl, e1.trans e2⟩) (fun n σ' H' hn ⟨_, _, _, e⟩ => sq_of (e.at hc)) ?_ ?_
    · rintro n x σ' H2 H3 hx ⟨v1, v2, rfl, e2⟩ e3
      obtain ⟨c, hcn, rfl⟩ := nV_at hx
      have hst := going_next (fun c => Vamvsa.costOf z.t (Vamvse.setOf z.cs old) c) (old := old) (new := new) hcn
      refine s_when (et_and (et_test (ev_bit1 (k := n) (ev_var rfl) (ev_var rfl))) (fun _ => et_test (ev_bit0 (k := n) (ev_var rfl) (ev_var rfl)))) (fun hb H4 e4 => ?_) (fun hb H4 e4 => ⟨some (nV n), some (nV c), ?_, (e2.trans e3).trans e4⟩)
      · have hI4 := ((e2.trans e3).trans e4).at hI
        refine s_aug rfl (ev_methG (ev_var rfl) hI4 (no_Choice_cost ..) (ea_cons (ev_var rfl) (ea_cons (ev_var rfl) ea_nil)) (spv_cost (hC0.mono ((e2.trans e3).trans e4)) hz (hz.csB c (List.mem_of_getElem? hcn)))) fun H5 e5 => ⟨some (nV n), some (nV c), ?_, ((e2.trans e3).trans e4).trans e5⟩
        rw [hst, if_pos hb]
        show _ = [_, _, _, some (V.int (((_ + _ : Nat)) : Int)), _, _]
        push_cast
        rfl
      · rw [hst, if_neg (by rw [hb]; decide)]
        rfl
    · rintro σ' H2 ⟨v1, v2, rfl, e2⟩
      refine s_ret (ev_is (ev_var rfl) ?_) fun H3 e3 => k H3 (e2.trans e3)
      rw [List.length_map, List.take_length, KA.going_eq z.t hz.csN]
theorem ok_day_cost (T : Txt K mg d) : FnOk P w K mg base CX0 2 d.f_Choice_day_cost d.fd_Choice_day_cost P_Choice_day_cost (sp_day_cost d) := by
  refine T.F.F_Choice_day_cost.ok sc_Choice_day_cost (fun vs H Q E h => ?_) (fun cdv A outer s H vs Q E hr h => ⟨t_Choice_day_cost K d (sp_cost d), dv_Choice_day_cost T (ok_cost T) hr, ?_⟩)
  · obtain ⟨a, p, z, ks, s, rfl, _⟩ := h
    rfl
  · obtain ⟨a, p, z, ks, s, rfl, hC, hz, hp, hk, k⟩ := h
    have hC0 := hC
    obtain ⟨dx, ta, ca, sa, da, hI, ⟨dxt, cola, ra, qa, hIt, hcol, hrw, ⟨qr, hqa, hqq⟩⟩, hc, hs, hd⟩ := hC
    have hlq : qr.length = z.t.asks.length := pair_len hqq
    refine q_asg ev_c fun H1 e1 => ?_
    refine s_forZip (ev_Table_questions T (ev_Choice_table T (ev_var rfl) (e1.at hI)) (e1.at hIt)) (ev_var rfl) (sq_of (e1.at hqa)) (sq_of (e1.at hp)) (fun n σ' H' => ∃ v1 v2 : Option V, σ' = [some (.ref a), some (.ref p), some (nV s), some (nV (((z.t.asks.zip ks).take n).map fun x => x.2 * Vamvsa.costOf z.t (Vamvse.setOf z.cs s) x.1.g).sum), v1, v2] ∧ Ex H H')
      (fun H2 e2 => ⟨none, none, rfl, e1.trans e2⟩) (fun n σ' H' hn ⟨_, _, _, e⟩ => ⟨sq_of (e.at hqa), sq_of (e.at hp)⟩) ?_ ?_
    · rintro n x y σ' H2 H3 hx hy ⟨v1, v2, rfl, e2⟩ e3
      obtain ⟨kk, hkn, rfl⟩ := nV_at hy
      obtain ⟨r, hr1, rfl⟩ : ∃ r, qr[n]? = some r ∧ x = .ref r := by
        rw [List.getElem?_map] at hx
        cases e : qr[n]? with
        | none =>
          rw [e] at hx
          cases hx
        | some r =>
          rw [e] at hx
          exact ⟨r, rfl, (Option.some.inj hx).symm⟩
      obtain ⟨q, hqn, dq, hq⟩ := paired_get hqq hr1
      have hz1 : (z.t.asks.zip ks)[n]? = some (q, kk) := List.getElem?_zip_eq_some.mpr ⟨hqn, hkn⟩
      have e4 := e2.trans e3
      have hb := (hz.asked q (List.mem_of_getElem? hqn)).1
      have hk9 := hk kk (List.mem_of_getElem? hkn)
      refine s_aug rfl (ev_op (ev_var rfl) (ev_methG (ev_var rfl) (e4.at hI) (no_Choice_cost ..) (ea_cons (ev_Question_grouping T (ev_var rfl) (e4.at hq)) (ea_cons (ev_var rfl) ea_nil)) (spv_cost (hC0.mono e4) hz hb)) (rv_mul (.inl ⟨by omega, by omega⟩))) fun H5 e5 => ⟨some (.ref r), some (nV kk), ?_, e4.trans e5⟩
      rw [take_next hz1, List.map_append, List.sum_append_nat]
      have e9 : ([(q, kk)].map fun x : Vamvsa.Ask × Nat => x.2 * Vamvsa.costOf z.t (Vamvse.setOf z.cs s) x.1.g).sum = kk * Vamvsa.costOf z.t (Vamvse.setOf z.cs s) q.g := Nat.add_zero _
      rw [e9]
      show _ = [_, _, _, some (V.int (((_ + _ : Nat)) : Int)), _, _]
      push_cast
      rfl
    · rintro σ' H2 ⟨v1, v2, rfl, e2⟩
      refine s_ret (ev_is (ev_var rfl) ?_) fun H3 e3 => k H3 (e2.trans e3)
      rw [List.length_map, List.length_map, hlq, ← List.length_zip, List.take_length]
      rfl
theorem ok_plan_cost (T : Txt K mg d) : FnOk P w K mg base CX0 3 d.f_Choice_plan_cost d.fd_Choice_plan_cost P_Choice_plan_cost (sp_plan_cost d) := by
  refine T.F.F_Choice_plan_cost.ok sc_Choice_plan_cost (fun vs H Q E h => ?_) (fun cdv A outer s H vs Q E hr h => ⟨t_Choice_plan_cost K d (sp_going d) (sp_day_cost d), dv_Choice_plan_cost T (ok_going T) (ok_day_cost T) hr, ?_⟩)
  · obtain ⟨a, p, z, pl, rfl, _⟩ := h
    rfl
  · obtain ⟨a, p, z, pl, rfl, hC, hz, hp, k⟩ := h
    have hC0 := hC
    obtain ⟨dx, ta, ca, sa, da, hI, hT, hc, hs, ⟨dr, hda, hdd⟩⟩ := hC
    have hld : dr.length = z.days.length := pair_len hdd
    refine q_asg ev_c fun H1 e1 => ?_
    refine q_asg ev_c fun H1' e1' => ?_
    have e1 := e1.trans e1'
    refine s_forZip (ev_var rfl) (ev_Choice_days T (ev_var rfl) (e1.at hI)) (sq_of (e1.at hp)) (sq_of (e1.at hda)) (fun n σ' H' => ∃ v1 v2 : Option V, σ' = [some (.ref a), some (.ref p), some (nV (((pl.zip z.days).take n).foldl (KA.planStep z.t z.cs) (0, 0)).1), some (nV (((pl.zip z.days).take n).foldl (KA.planStep z.t z.cs) (0, 0)).2), v1, v2] ∧ Ex H H')
      (fun H2 e2 => ⟨none, none, rfl, e1.trans e2⟩) (fun n σ' H' hn ⟨_, _, _, e⟩ => ⟨sq_of (e.at hp), sq_of (e.at hda)⟩) ?_ ?_
    · rintro n x y σ' H2 H3 hx hy ⟨v1, v2, rfl, e2⟩ e3
      obtain ⟨s, hsn, rfl⟩ := nV_at hx
      obtain ⟨r, hr1, rfl⟩ : ∃ r, dr[n]? = some r ∧ y = .ref r := by
        rw [List.getElem?_map] at hy
        cases e : dr[n]? with
        | none =>
          rw [e] at hy
          cases hy
        | some r =>
          rw [e] at hy
          exact ⟨r, rfl, (Option.some.inj hy).symm⟩
      obtain ⟨ks, hkn, hks⟩ := paired_get hdd hr1
      have hz1 : (pl.zip z.days)[n]? = some (s, ks) := List.getElem?_zip_eq_some.mpr ⟨hsn, hkn⟩
      have e4 := e2.trans e3
      have hk9 := (hz.days ks (List.mem_of_getElem? hkn)).2
      refine q_aug rfl (ev_op (ev_methG (ev_var rfl) (e4.at hI) (no_Choice_going ..) (ea_cons (ev_var rfl) (ea_cons (ev_var rfl) ea_nil)) (spv_going (hC0.mono e4) hz)) (ev_methG (ev_var rfl) (e4.at hI) (no_Choice_day_cost ..) (ea_cons (ev_var rfl) (ea_cons (ev_var rfl) ea_nil)) (spv_day_cost (hC0.mono e4) hz (e4.at hks) hk9)) rv_add) fun H5 e5 => ?_
      refine s_asg (ev_var rfl) fun H6 e6 => ⟨some (nV s), some (.ref r), ?_, (e4.trans e5).trans e6⟩
      rw [take_next hz1, List.foldl_append]
      show _ = [_, _, some (V.int (((_ + (_ + _) : Nat)) : Int)), _, _, _]
      push_cast
      rfl
    · rintro σ' H2 ⟨v1, v2, rfl, e2⟩
      refine s_ret (ev_is (ev_var rfl) ?_) fun H3 e3 => k H3 (e2.trans e3)
      rw [List.length_map, List.length_map, hld, ← List.length_zip, List.take_length, KA.plan_eq]
end
end KW
end
section
/-! # plans: the rests, the best plan, the same set always; other candidates, other days -/
namespace KW
open PySem PySem.Spec PyProof.Rows L2 Evl
/-! ### further short answers -/
section
variable {K : PySem.W.Frag} {σ : L2.St} {H H' : Hp} {ta tb te tl : TE}
/-- a new object of which R tells -/
def EvR (te : TE) (σ : L2.St) (H : Hp) (R : Addr → Hp → Prop) : Prop := ∀ H1, Ex H H1 → ∀ Q : VK, (∀ p H2, H1 p = none → Ex H1 H2 → R p H2 → Q (.ref p) H2) → te σ H1 Q
theorem s_asgR {i : Nat} {R : Addr → Hp → Prop} {D : Ends} (h : EvR te σ H R) (k : ∀ p H1, H p = none → Ex H H1 → R p H1 → D.nx (σ.set i (some (.ref p))) H1) : tAsg te (gName i) D σ H := h H (Ex.refl H) _ fun p H1 hp e h1 => k p H1 hp e h1
theorem q_asgR {i : Nat} {R : Addr → Hp → Prop} {D : Ends} {tz : TS} (h : EvR te σ H R) (k : ∀ p H1, H p = none → Ex H H1 → R p H1 → tz D (σ.set i (some (.ref p))) H1) : tSeq (tAsg te (gName i)) tz D σ H := s_asgR (D := { D with nx := tz D }) h k
theorem el_cat {l : Addr} {xs ys : List V} (ha : EvL ta σ H xs) (hb : Ev tb σ H (.ref l)) (hl : H l = some (.lst ys)) (hz : xs.length + ys.length ≤ 100000) : EvL (tOp rCat ta tb) σ H (xs ++ ys) := fun H1 e Q q =>
  ha H1 e _ fun p H2 hp e2 hp2 => hb H2 (e.trans e2) _ fun H3 e3 => ⟨p, l, xs, ys, rfl, rfl, e3 _ _ hp2, (e.trans (e2.trans e3)) _ _ hl, sz_of hz, fun r hr => q r _ (fresh_back (e2.trans e3) hr) ((e2.trans e3).trans (Ex.new hr)) upd_same⟩
theorem el_rev {l : Addr} {xs : List V} (h : Ev te σ H (.ref l)) (hs : SqL K H l xs) : EvL (tRevL K te) σ H xs.reverse := fun H1 e Q q =>
  h H1 e _ fun H2 e2 => ⟨l, xs, rfl, ex_l (e.trans e2) hs, fun p hp => q p _ (fresh_back e2 hp) (e2.trans (Ex.new hp)) upd_same⟩
theorem ev_dget {a : Addr} {n : Int} {kvs : List (Key × V)} {v : V} (h : Ev ta σ H (.ref a)) (hi : Ev tb σ H (.int n)) (hd : H a = some (.dK kvs)) (hv : valV kvs (Sum.inl n) = some v) : Ev (tDGet ta tb) σ H v := fun H1 e Q q =>
  h H1 e _ fun H2 e2 => hi H2 (e.trans e2) _ fun H3 e3 => ⟨a, v, rfl, by
    have g := DGet.k (k := Sum.inl n) ((e.trans (e2.trans e3)) _ _ hd)
    rw [hv] at g
    exact g, q H3 (e2.trans e3)⟩
theorem er_dnew : EvR tDNewK σ H (fun p H2 => H2 p = some (.dK [])) := fun H1 e Q q => fun p hp => q p _ hp (Ex.new hp) upd_same
theorem er_dict {kvs : List (Key × V)} {o : Nat → HO} (h : ∀ H0, Ex H H0 → ∀ Q : VK, NewL o kvs.length H0 Q → ta σ H0 Q) (ho : ∀ i kv, kvs[i]? = some kv → o i = .tup [kV kv.1, kv.2]) :
    EvR (tCB (rDictP K) (tCons ta tNil)) σ H (fun p H2 => H2 p = some (.dK (mergeK [] kvs))) := fun H1 e Q q =>
  h H1 e _ fun D H2 ps hD e2 h2 hl hp => ⟨D, ps, kvs, rfl, sq_of h2, pair_of hl (fun i p kv a b => st_of (by rw [(hp i p a).1, ho i kv b])), fun p hp' => q p _ (fresh_back e2 hp') (e2.trans (Ex.new hp')) upd_same⟩
/-- min of a list of naturals -/
theorem ev_minL {p : Addr} {l : List Nat} (h : Ev ta σ H (.ref p)) (hs : SqL K H p (l.map nV)) (hne : l ≠ []) : Ev (tCB (rMin K) (tCons ta tNil)) σ H (nV (KA.minD 0 l)) := fun H1 e Q q =>
  h H1 e _ fun H2 e2 => ⟨p, l.map fun n : Nat => (n : Int), rfl, by rw [← map_nV]; exact ex_l (e.trans e2) hs, by rw [List.length_map]; exact List.length_pos_iff.mpr hne, fun m hm hle => by
    obtain ⟨n, hn, rfl⟩ := List.mem_map.mp hm
    have h1 := KA.minD_le (d := 0) hn
    have h2 := hle _ (List.mem_map.mpr ⟨_, KA.minD_mem (d := 0) hne, rfl⟩)
    have e3 : n = KA.minD 0 l := by omega
    rw [e3]
    exact q H2 e2⟩
theorem ev_minN {l : List Nat} (h : EvL ta σ H (l.map nV)) (hne : l ≠ []) : Ev (tCB (rMin K) (tCons ta tNil)) σ H (nV (KA.minD 0 l)) := fun H1 e Q q =>
  h H1 e _ fun p H2 hp e2 h2 => ev_minL (ta := tC (.ref p)) (σ := σ) ev_c (sq_of h2) hne H2 (Ex.refl H2) Q fun H3 e3 => q H3 (e2.trans e3)
/-- the first place of the least, and what stands there -/
theorem ev_index {p : Addr} {l : List Nat} {j m : Nat} (h : Ev ta σ H (.ref p)) (hi : Ev tb σ H (nV m)) (hs : SqL K H p (l.map nV)) (hj : l[j]? = some m) (hf : ∀ (i : Nat) (z : Nat), i < j → l[i]? = some z → z ≠ m) : Ev (tBM K "list" (rIndex K) ta (tCons tb tNil)) σ H (nV j) := fun H1 e Q q =>
  h H1 e _ fun H2 e2 => ⟨.inl ⟨rfl, _, ex_l (e.trans e2) hs⟩, hi H2 (e.trans e2) _ fun H3 e3 => ⟨p, l.map nV, nV m, j, nV m, rfl, rfl, ex_l ((e.trans e2).trans e3) hs, rfl, by
    rw [List.all_eq_true]
    intro x hx
    obtain ⟨n, _, rfl⟩ := List.mem_map.mp hx
    rfl, at_nV hj, by show ((m : Int) == (m : Int)) = true; simp, fun i z hi' hz => by
      obtain ⟨c, hc, rfl⟩ := nV_at hz
      have h1 := hf i c hi' hc
      have h2 : (c : Int) ≠ (m : Int) := by omega
      show ((c : Int) == (m : Int)) = false
      simpa using h2, q H3 (e2.trans e3)⟩⟩
end
/-! ### dicts of rests -/
def RestAt (H : Hp) (r : Addr) (f : Nat → Nat) (keys : List Nat) : Prop := ∃ kvs : List (Key × V), H r = some (.dK kvs) ∧ ∀ b ∈ keys, valV kvs (Sum.inl (b : Int)) = some (nV (f b))
theorem RestAt.mono {H H' : Hp} {r : Addr} {f : Nat → Nat} {keys : List Nat} (e : Ex H H') (h : RestAt H r f keys) : RestAt H' r f keys := by
  obtain ⟨kvs, h1, h2⟩ := h
  exact ⟨kvs, e _ _ h1, h2⟩
theorem merge_go (f : Nat → Nat) : ∀ (l : List Nat) (kvs : List (Key × V)) (b : Nat), (b ∈ l ∨ valV kvs (Sum.inl (b : Int)) = some (nV (f b))) →
    valV (mergeK kvs (l.map fun n : Nat => ((Sum.inl (n : Int) : Key), nV (f n)))) (Sum.inl (b : Int)) = some (nV (f b))
  | [], kvs, b, h => by
    rcases h with h | h
    · cases h
    · exact h
  | n :: l, kvs, b, h => by
    show valV (mergeK (putK kvs (Sum.inl (n : Int)) (nV (f n))) (l.map fun n : Nat => ((Sum.inl (n : Int) : Key), nV (f n)))) _ = _
    refine merge_go f l _ b ?_
    rw [valV_put]
    by_cases e : b = n
    · subst e
      rw [if_pos rfl]
      exact .inr rfl
    · rw [if_neg (fun z => e (by injection z with z; omega))]
      rcases h with h | h
      · rcases List.mem_cons.mp h with q | q
        · exact absurd q e
        · exact .inl q
      · exact .inr h
theorem merge_all (f : Nat → Nat) (l : List Nat) {b : Nat} (h : b ∈ l) : valV (mergeK [] (l.map fun n : Nat => ((Sum.inl (n : Int) : Key), nV (f n)))) (Sum.inl (b : Int)) = some (nV (f b)) := merge_go f l [] b (.inl h)
/-! ### promises -/
section
variable (d : Ad)
/-- the dicts of a plan's days, from the first day on -/
def RestsAt (H : Hp) (p : Addr) (t : Vamvsa.Table) (cs : List Nat) (fr : List Nat) (days : List (List Nat)) (k : Nat) : Prop := ∃ ds : List Addr, H p = some (.lst (ds.map V.ref)) ∧
  Paired (fun r j => RestAt H r (KA.restM t cs 0 fr (days.drop (days.length - k + j))) (0 :: fr)) ds (List.range (k + 1))
def sp_rests : Sp := fun vs H Q _ => ∃ (a sa : Addr) (z : Vamvse.Held) (fr : List Nat), vs = [.ref a, .ref sa] ∧ ChoiceAt d H a z ∧ HeldOk z ∧ H sa = some (.lst ((0 :: fr).map nV)) ∧ fr.length ≤ 15 ∧
  ∀ p H2, Ex H H2 → RestsAt H2 p z.t z.cs fr z.days z.days.length → Q (.ref p) H2
def sp_best : Sp := fun vs H Q _ => ∃ (a : Addr) (z : Vamvse.Held) (r : Nat), vs = [.ref a, nV r] ∧ ChoiceAt d H a z ∧ HeldOk z ∧ RetL (((Vamvse.bestPlan z.t z.cs r z.days).1 :: (Vamvse.bestPlan z.t z.cs r z.days).2).map nV) H Q
def sp_same_always : Sp := fun vs H Q _ => ∃ (a : Addr) (z : Vamvse.Held) (r : Nat), vs = [.ref a, nV r] ∧ ChoiceAt d H a z ∧ HeldOk z ∧ RetL ([(Vamvse.always z.t z.cs r z.days).1, (Vamvse.always z.t z.cs r z.days).2].map nV) H Q
end
theorem pair_mapR {α β γ : Type} {F : α → β → Prop} {G : α → γ → Prop} (f : β → γ) (k : ∀ a b, F a b → G a (f b)) : ∀ {xs : List α} {ys : List β}, Paired F xs ys → Paired G xs (ys.map f)
  | _, _, .nil => .nil
  | _, _, .cons h t => .cons (k _ _ h) (pair_mapR f k t)
theorem all_zip {α : Type} (f : α → V) : ∀ (l : List α) (k : Nat), (((l.zipIdx k).filter fun _ => true).map fun x => f x.1) = l.map f
  | [], _ => rfl
  | x :: l, k => by
    rw [List.zipIdx_cons, List.filter_cons, if_pos rfl, List.map_cons, List.map_cons, all_zip f l (k + 1)]
theorem ref_at {l : List Addr} {n : Nat} {x : V} (h : (l.map V.ref)[n]? = some x) : ∃ r, l[n]? = some r ∧ x = .ref r := by
  rw [List.getElem?_map] at h
  cases e : l[n]? with
  | none =>
    rw [e] at h
    cases h
  | some r =>
    rw [e] at h
    exact ⟨r, rfl, (Option.some.inj h).symm⟩
section
variable {P : Program} {w : World} {K : PySem.W.Frag} {mg : Str → Option Value} {base : Heap} {d : Ad}
theorem ok_rests (T : Txt K mg d) : FnOk P w K mg base CX0 3 d.f_Choice_rests d.fd_Choice_rests P_Choice_rests (sp_rests d) := by
  refine T.F.F_Choice_rests.ok sc_Choice_rests (fun vs H Q E h => ?_) (fun cdv A outer s H vs Q E hr h => ⟨t_Choice_rests K d (sp_day_cost d) (sp_going d), dv_Choice_rests T (ok_day_cost T) (ok_going T) hr, ?_⟩)
  · obtain ⟨a, sa, z, fr, rfl, _⟩ := h
    rfl
  · obtain ⟨a, sa, z, fr, rfl, hC, hz, hsa, hfr, k⟩ := h
    have hC0 := hC
    obtain ⟨dx, ta, ca, za, da, hI, hT, hc, hs, ⟨dr, hda, hdd⟩⟩ := hC
    have hld : dr.length = z.days.length := pair_len hdd
    have h8 := hz.day8
    -- found = [dict([(number, 0) for number in [0] + some])]
    have hkeys : (0 :: 0 :: fr).map nV = [V.int 0] ++ (0 :: fr).map nV := rfl
    have cat0 : ∀ {σ : L2.St} {H' : Hp}, Ex H H' → Ev (tVar 1) σ H' (.ref sa) → EvL (tOp rCat (tLst (tCons (tC (.int 0)) tNil)) (tVar 1)) σ H' ((0 :: 0 :: fr).map nV) := fun {σ H'} e h => el_is (el_cat (el_lst (ea_cons ev_c ea_nil) (by decide)) h (e.at hsa) (by simp; omega)) hkeys.symm
    refine q_asgR (R := fun p H1 => RestsAt H1 p z.t z.cs fr z.days 0) (fun H1 e1 Q1 q1 => ?_) fun p H1 hp e1 hR1 => ?_
    · refine er_dict (H := H) (kvs := (0 :: 0 :: fr).map fun n : Nat => ((Sum.inl (n : Int) : Key), nV 0)) (o := fun i => .tup [nV ((0 :: 0 :: fr).getD i 0), nV 0]) (fun H0 e0 Q0 q0 => ?_) (fun i kv hkv => ?_) H1 e1 _ fun r H2 hr2 e2 h2 => ⟨by show 1 ≤ sizeLine; decide, fun p hp => q1 p _ (fresh_back e2 hp) (e2.trans (Ex.new hp)) ?_⟩
      · rw [List.length_map, ← List.length_map (f := nV)] at q0
        refine el_lcNewN (H := H) _ (cat0 (Ex.refl H) (ev_var rfl)) (by simp; omega) (fun _ => rfl) (fun n x H3 e3 hx Q3 q3 => ?_) H0 e0 Q0 q0
        obtain ⟨c, hcn, rfl⟩ := nV_at hx
        refine eu_tup (ea_cons (ev_var rfl) (ea_cons ev_c ea_nil)) (by show 2 ≤ 100000; decide) H3 (Ex.refl H3) _ fun p H4 hp e4 h4 => q3 p H4 hp e4 ?_
        rw [h4, List.getD_eq_getElem?_getD, hcn]
        rfl
      · rw [List.getElem?_map] at hkv
        cases e : (0 :: 0 :: fr)[i]? with
        | none =>
          rw [e] at hkv
          cases hkv
        | some c =>
          rw [e] at hkv
          have e5 := (Option.some.inj hkv).symm
          subst e5
          show HO.tup [nV ((0 :: 0 :: fr).getD i 0), nV 0] = _
          rw [List.getD_eq_getElem?_getD, e]
          rfl
      · refine ⟨[r], upd_same, .cons ⟨_, (Ex.new hp) _ _ h2, fun b hb => ?_⟩ .nil⟩
        rw [Nat.sub_zero, Nat.add_zero, List.drop_length]
        exact merge_all (fun _ => 0) (0 :: 0 :: fr) (List.mem_cons_of_mem _ hb)
    · refine q_forNLn (el_rev (ev_Choice_days T (ev_var rfl) (e1.at hI)) (sq_of (e1.at hda))) (fun rl n σ' H' => ∃ (v3 v4 v5 v6 v7 : Option V) (fl : Addr), σ' = [some (.ref a), some (.ref sa), some (.ref fl), v3, v4, v5, v6, v7] ∧ v3 = none ∧ Ex H H' ∧ H' rl = some (.lst ((dr.map V.ref).reverse)) ∧ RestsAt H' fl z.t z.cs fr z.days n)
        (fun rl H2 hrl e2 h2 => ⟨none, none, none, none, none, p, rfl, rfl, e1.trans e2, h2, ?_⟩) (fun rl n σ' H' hn ⟨_, _, _, _, _, _, _, _, _, h, _⟩ => sq_of h) ?_ ?_
      · obtain ⟨ds, g1, g2⟩ := hR1
        exact ⟨ds, e2 _ _ g1, pair_imp g2 fun _ _ q => q.mono e2⟩
      · rintro rl n x σ' H2 hx ⟨v3, v4, v5, v6, v7, fl, rfl, rfl, e2, hrl, ⟨ds, hfl, hds⟩⟩
        have hn : n < z.days.length := by
          have := (List.getElem?_eq_some_iff.mp hx).1
          rw [List.length_reverse, List.length_map] at this
          omega
        rw [List.getElem?_reverse (by rw [List.length_map]; omega), List.length_map] at hx
        obtain ⟨kr, hkr, rfl⟩ := ref_at hx
        obtain ⟨ks, hks1, hks2⟩ := paired_get hdd hkr
        have hk9 := (hz.days ks (List.mem_of_getElem? hks1)).2
        rw [hld] at hks1 hkr
        have hdrop : z.days.drop (z.days.length - (n + 1)) = ks :: z.days.drop (z.days.length - n) := by
          have hlt : z.days.length - (n + 1) < z.days.length := by omega
          rw [List.drop_eq_getElem_cons hlt]
          have e9 : z.days.length - (n + 1) + 1 = z.days.length - n := by omega
          rw [e9]
          congr 1
          have e10 : z.days.length - (n + 1) = z.days.length - 1 - n := by omega
          have := (List.getElem?_eq_some_iff.mp hks1).2
          simpa [e10] using this
        -- own
        refine q_asgR (er_dict (kvs := (0 :: fr).map fun n : Nat => ((Sum.inl (n : Int) : Key), nV (Vamvse.dayCost z.t z.cs ks n))) (o := fun i => .tup [nV ((0 :: fr).getD i 0), nV (Vamvse.dayCost z.t z.cs ks ((0 :: fr).getD i 0))]) (fun H0 e0 Q0 q0 => ?_) (fun i kv hkv => ?_)) fun ow H3 how e3 h3 => ?_
        · rw [List.length_map, ← List.length_map (f := nV)] at q0
          refine el_lcNew (H := H2) _ (ev_var rfl) (sq_of (e2.at hsa)) (by simp; omega) (fun _ => rfl) (fun m x H5 e5 hx Q5 q5 => ?_) H0 e0 Q0 q0
          obtain ⟨c, hcn, rfl⟩ := nV_at hx
          refine eu_tup (ea_cons (ev_var rfl) (ea_cons (ev_methG (ev_var rfl) ((e2.trans e5).at hI) (no_Choice_day_cost ..) (ea_cons (ev_var rfl) (ea_cons (ev_var rfl) ea_nil)) (spv_day_cost (hC0.mono (e2.trans e5)) hz ((e2.trans e5).at hks2) hk9)) ea_nil)) (by show 2 ≤ 100000; decide) H5 (Ex.refl H5) _ fun p H4 hp e4 h4 => q5 p H4 hp e4 ?_
          rw [h4, List.getD_eq_getElem?_getD, hcn]
          rfl
        · rw [List.getElem?_map] at hkv
          cases e : (0 :: fr)[i]? with
          | none =>
            rw [e] at hkv
            cases hkv
          | some c =>
            rw [e] at hkv
            have e5 := (Option.some.inj hkv).symm
            subst e5
            show HO.tup [nV ((0 :: fr).getD i 0), nV (Vamvse.dayCost z.t z.cs ks ((0 :: fr).getD i 0))] = _
            rw [List.getD_eq_getElem?_getD, e]
            rfl
        · -- row = {}
          refine q_asgR er_dnew fun rw' H4 hrw e4 h4 => ?_
          have e34 := e3.trans e4
          obtain ⟨r0, hr0, kv0, hk0, hv0⟩ := pair_get hds (i := 0) (b := 0) (by rw [List.range_succ_eq_map]; rfl)
          refine q_forNLn (cat0 (e2.trans e34) (ev_var rfl)) (fun kl m σ' H' => ∃ (v7 : Option V) (kvs : List (Key × V)), σ' = [some (.ref a), some (.ref sa), some (.ref fl), none, some (.ref kr), some (.ref ow), some (.ref rw'), v7] ∧ Ex H3 H' ∧ H' kl = some (.lst ((0 :: 0 :: fr).map nV)) ∧ kl ≠ rw' ∧ H' rw' = some (.dK kvs) ∧ kvs.length ≤ m ∧
              ∀ b ∈ (0 :: 0 :: fr).take m, valV kvs (Sum.inl (b : Int)) = some (nV (KA.restM z.t z.cs 0 fr (z.days.drop (z.days.length - (n + 1))) b)))
            (fun kl H5 hkl e5 h5 => ⟨_, [], rfl, e4.trans e5, h5, (fun zz => by rw [zz, h4] at hkl; cases hkl), e5 _ _ h4, Nat.le_refl _, fun b hb => by cases hb⟩) (fun kl m σ' H' hm ⟨_, _, _, _, h, _⟩ => sq_of h) ?_ ?_
          · rintro kl m x σ' H5 hx ⟨v7', kvs, rfl, e5, hkl, hne, hrow, hlen, hval⟩
            obtain ⟨b, hbm, rfl⟩ := nV_at hx
            have hm18 : m < 17 := by
              have := (List.getElem?_eq_some_iff.mp hbm).1
              simp at this
              omega
            have hE : ∀ {H' : Hp}, Ex H3 H' → Ex H H' := fun e => (e2.trans e3).trans e
            have hval0 : ∀ (c : Nat), (0 :: fr)[c]? = some ((0 :: fr).getD c 0) → (0 :: fr).getD c 0 ∈ 0 :: fr := fun c hc => List.mem_of_getElem? hc
            have mn : Ev (tCB (rMin K) (tCons (tLc (iList K (tVar 1)) (gName 3) (tYes) (tOp kAdd (tOp kAdd (tMeth d.cChoice "going" (sp_going d) [] E0 (tVar 0) (tCons (tVar 7) (tCons (tVar 3) (tNil)))) (tDGet (tVar 5) (tVar 3))) (tDGet (tOp (rIxL K) (tVar 2) (tC (.int 0))) (tVar 3))) [3]) (tNil))) [some (.ref a), some (.ref sa), some (.ref fl), none, some (.ref kr), some (.ref ow), some (.ref rw'), some (nV b)] H5 (nV (KA.restM z.t z.cs 0 fr (z.days.drop (z.days.length - (n + 1))) b)) := by
              rw [hdrop]
              refine ev_minN (el_is (el_lcL (xs := (0 :: fr).map nV) (fun _ => true) (fun i => nV (KA.stepCost z.t z.cs ks (KA.restM z.t z.cs 0 fr (z.days.drop (z.days.length - n))) b ((0 :: fr).getD i 0))) (ev_var rfl) (sq_of ((hE e5).at hsa)) (by simp; omega) (fun _ => rfl) (fun i x H6 e6 hx H7 e7 Q q => q H7 (Ex.refl H7)) (fun i x H6 e6 hx _ => ?_)) ?_) (by simp)
              · obtain ⟨c, hcn, rfl⟩ := nV_at hx
                have hc2 : (0 :: fr).getD i 0 = c := by rw [List.getD_eq_getElem?_getD, hcn]; rfl
                have hcm := List.mem_of_getElem? hcn
                have e56 := e5.trans e6
                rw [hc2]
                refine ev_is (ev_op (ev_op (ev_methG (ev_var rfl) ((hE e56).at hI) (no_Choice_going ..) (ea_cons (ev_var rfl) (ea_cons (ev_var rfl) ea_nil)) (spv_going (old := b) (new := c) (hC0.mono (hE e56)) hz)) (ev_dget (n := (c : Int)) (ev_var rfl) (ev_var rfl) (e56.at h3) (merge_all (fun n => Vamvse.dayCost z.t z.cs ks n) (0 :: fr) hcm)) rv_add)
                  (ev_dget (n := (c : Int)) (ev_op (ev_var rfl) ev_c (rv_ixL (sq_of ((e3.trans e56).at hfl)) (atI_nat (j := 0) (by rw [List.getElem?_map, hr0]; rfl)))) (ev_var rfl) ((e3.trans e56).at hk0) (hv0 c hcm)) rv_add) ?_
                unfold KA.stepCost
                rw [Nat.add_zero]
                show V.int _ = V.int (((_ + _ + _ : Nat)) : Int)
                push_cast
                rfl
              · have eg := given_zip (fun _ _ => true) (fun c => nV (KA.stepCost z.t z.cs ks (KA.restM z.t z.cs 0 fr (z.days.drop (z.days.length - n))) b c)) (0 :: fr) 0 (fun _ => true) (fun i => nV (KA.stepCost z.t z.cs ks (KA.restM z.t z.cs 0 fr (z.days.drop (z.days.length - n))) b ((0 :: fr).getD i 0))) (fun i c hc => ⟨rfl, by rw [List.getD_eq_getElem?_getD, hc]; rfl⟩)
                rw [List.length_map, eg, List.map_map]
                exact all_zip (fun c => nV (KA.stepCost z.t z.cs ks (KA.restM z.t z.cs 0 fr (z.days.drop (z.days.length - n))) b c)) (0 :: fr) 0
            refine mn H5 (Ex.refl H5) _ fun H6 e6 => ?_
            refine ⟨_, rfl, _, rfl, rw', _, rfl, DPut.k (k := Sum.inl (b : Int)) (e6.at hrow) (sz_lt (by omega)), ?_⟩
            refine ⟨_, _, rfl, Ex.mut (e5.trans e6) (fresh_back (Ex.refl H3) hrw), ?_, hne, upd_same, ?_, ?_⟩
            · rw [upd_ne hne]
              exact e6.at hkl
            · exact Nat.le_trans (length_putK ..) (by omega)
            · intro c hc
              rw [take_next hbm] at hc
              rw [valV_put]
              by_cases e : c = b
              · subst e
                rw [if_pos rfl]
              · rw [if_neg (fun zz => e (by injection zz with zz; omega))]
                refine hval c ?_
                rcases List.mem_append.mp hc with q | q
                · exact q
                · exact absurd (List.mem_singleton.mp q) e
          · rintro kl σ' H5 ⟨v7', kvs, rfl, e5, hkl, hne, hrow, hlen, hval⟩
            have e35 := e3.trans e5
            refine s_asgL (el_cat (el_lst (ea_cons (ev_var rfl) ea_nil) (by show 1 ≤ 100000; decide)) (ev_var rfl) (e35.at hfl) (by
              have := pair_len hds
              rw [List.length_range] at this
              simp
              omega)) fun nf H6 hnf e6 h6 => ⟨_, _, _, _, _, nf, rfl, rfl, (e2.trans e35).trans e6, (e35.trans e6).at hrl, rw' :: ds, h6, ?_⟩
            rw [List.range_succ_eq_map]
            refine .cons ⟨kvs, e6.at hrow, fun b hb => ?_⟩ (pair_mapR Nat.succ (fun r j q => ?_) hds)
            · rw [Nat.add_zero]
              rw [List.length_map, List.take_length] at hval
              exact hval b (List.mem_cons_of_mem _ hb)
            · have e11 : z.days.length - (n + 1) + Nat.succ j = z.days.length - n + j := by omega
              rw [e11]
              exact q.mono (e35.trans e6)
      · rintro rl σ' H2 ⟨v3, v4, v5, v6, v7, fl, rfl, rfl, e2, hrl, hR⟩
        rw [List.length_reverse, List.length_map, hld] at hR
        exact ⟨_, rfl, k fl H2 e2 hR⟩
/-- what choosing by costs.index(min(costs)) gives -/
theorem ev_pick {σ : L2.St} {H : Hp} {ta tb : TE} {p q : Addr} {f : Nat → Nat} {s0 : Nat} {r : List Nat} (h : Ev ta σ H (.ref p)) (hp : SqL K H p ((s0 :: r).map nV)) (hb : Ev tb σ H (.ref q)) (hq : SqL K H q (((s0 :: r).map f).map nV)) :
    Ev (tOp (rIxL K) ta (tBM K "list" (rIndex K) tb (tCons (tCB (rMin K) (tCons tb tNil)) tNil))) σ H (nV (KA.pickMin f s0 r)) := by
  obtain ⟨j, h1, h2⟩ := KA.pickMin_at f r s0
  refine ev_op h (ev_index (j := j) hb (ev_minL hb hq (by simp)) hq ?_ ?_) (rv_ixL hp (atI_nat (at_nV h1)))
  · rw [List.getElem?_map, h1, KA.minD_pick]
    rfl
  · intro i z hi hz e
    rw [List.getElem?_map] at hz
    cases e2 : (s0 :: r)[i]? with
    | none =>
      rw [e2] at hz
      cases hz
    | some c =>
      rw [e2] at hz
      have h3 := h2 i c hi e2
      have e3 : f c = z := Option.some.inj hz
      rw [KA.minD_pick] at e
      omega
theorem q_forEn {σ : L2.St} {H : Hp} {tl : TE} {l : Addr} {xs : List V} {i j : Nat} {tu tz : TS} {D : Ends} (h : Ev tl σ H (.ref l)) (hx : SqL K H l xs) (Pv : Nat → L2.St → Hp → Prop) (h0 : ∀ H1, Ex H H1 → Pv 0 σ H1) (hG : ∀ n σ' H', n ≤ xs.length → Pv n σ' H' → SqL K H' l xs)
    (hs : ∀ (n : Nat) (x : V) σ' H' H1, xs[n]? = some x → Pv n σ' H' → Ex H' H1 → tu { D with nx := Pv (n + 1), ct := Pv (n + 1), bk := tz D } ((σ'.set i (some (.int (n : Nat)))).set j (some x)) H1) (hd : ∀ σ' H', Pv xs.length σ' H' → tz D σ' H') :
    tSeq (tFor (iEnum K (tCons tl tNil)) (gTup K 2 (gCons (gName i) (gCons (gName j) gNil))) tu) tz D σ H := s_forEn (D := { D with nx := tz D }) h hx Pv h0 hG hs hd
theorem fit_len {z : Vamvse.Held} (hz : HeldOk z) {r : Nat} {fr : List Nat} (h : Vamvse.fitting z.t z.cs r = 0 :: fr) : fr.length ≤ 15 := by
  have h1 : (Vamvse.fitting z.t z.cs r).length ≤ (Vamvse.setsOf z.cs).length := List.length_filter_le _ _
  unfold Vamvse.setsOf at h1
  rw [List.length_range, h, List.length_cons] at h1
  have h16 : 2 ^ z.cs.length ≤ 2 ^ 4 := Nat.pow_le_pow_right (by decide) hz.cs4
  omega
theorem ok_best (T : Txt K mg d) : FnOk P w K mg base CX0 4 d.f_Choice_best d.fd_Choice_best P_Choice_best (sp_best d) := by
  refine T.F.F_Choice_best.ok sc_Choice_best (fun vs H Q E h => ?_) (fun cdv A outer s H vs Q E hr h => ⟨t_Choice_best K d (sp_fitting d) (sp_rests d) (sp_going d) (sp_day_cost d), dv_Choice_best T (ok_fitting T) (ok_rests T) (ok_going T) (ok_day_cost T) hr, ?_⟩)
  · obtain ⟨a, z, r, rfl, _⟩ := h
    rfl
  · obtain ⟨a, z, r, rfl, hC, hz, k⟩ := h
    have hC0 := hC
    obtain ⟨dx, ta, ca, za, da, hI, hT, hc, hs, ⟨dr, hda, hdd⟩⟩ := hC
    have hld : dr.length = z.days.length := pair_len hdd
    have h8 := hz.day8
    obtain ⟨fr, hfit⟩ := KA.fitting_cons z.t z.cs r
    have hfr := fit_len hz hfit
    rw [KA.best_eq hfit] at k
    refine q_asgL (el_methG (ev_var rfl) hI (no_Choice_fitting ..) (ea_cons (ev_var rfl) ea_nil) (spl_fitting hC0 hz)) fun sa H1 hsa0 e1 hsa => ?_
    rw [hfit] at hsa
    -- rests
    refine ⟨_, rfl, a, dx, _, rfl, e1.at hI, no_Choice_rests .., _, rfl, a, sa, z, fr, rfl, hC0.mono e1, hz, hsa, hfr, fun ra H2 e2 hR => ?_⟩
    obtain ⟨ds, hra, hds⟩ := hR
    rw [Nat.sub_self] at hds
    have e12 := e1.trans e2
    refine q_asgL (el_lst ea_nil (by decide)) fun pl H3 hpl0 e3 hpl => ?_
    refine q_asg ev_c fun H4 e4 => ?_
    have e34 := e3.trans e4
    have e14 := e12.trans e34
    refine q_forEn (ev_Choice_days T (ev_var rfl) (e14.at hI)) (sq_of (e14.at hda)) (fun n σ' H' => ∃ (b : Nat) (v6 v7 v8 v9 : Option V) (sets : List Nat), σ' = [some (.ref a), some (nV r), some (.ref sa), some (.ref ra), some (.ref pl), some (nV b), v6, v7, v8, v9] ∧ Ex H2 H' ∧ H' pl = some (.lst (sets.map nV)) ∧
        sets.length = n ∧ KA.planM z.t z.cs 0 fr z.days 0 = sets ++ KA.planM z.t z.cs 0 fr (z.days.drop n) b)
      (fun H5 e5 => ⟨0, none, none, none, none, [], rfl, e34.trans e5, (e4.trans e5).at hpl, rfl, rfl⟩) (fun n σ' H' hn ⟨_, _, _, _, _, _, _, e, _⟩ => sq_of ((e12.trans e).at hda)) ?_ ?_
    · rintro n x σ' H5 H6 hx ⟨b, v6, v7, v8, v9, sets, rfl, e5, hpl5, hsl, hplan⟩ e6
      obtain ⟨kr, hkr, rfl⟩ := ref_at hx
      obtain ⟨ks, hks1, hks2⟩ := paired_get hdd hkr
      have hk9 := (hz.days ks (List.mem_of_getElem? hks1)).2
      have hn : n < z.days.length := (List.getElem?_eq_some_iff.mp hks1).1
      have hdrop : z.days.drop n = ks :: z.days.drop (n + 1) := by
        rw [List.drop_eq_getElem_cons hn]
        congr 1
        exact (List.getElem?_eq_some_iff.mp hks1).2
      obtain ⟨r1, hr1, kv1, hk1, hv1⟩ := pair_get hds (i := n + 1) (b := n + 1) (List.getElem?_range (by omega))
      rw [Nat.zero_add] at hv1
      have e26 := e5.trans e6
      refine q_asgL (el_lst ea_nil (by decide)) fun cl H7 hcl0 e7 hcl => ?_
      have e27 := e26.trans e7
      refine q_forLn (ev_var rfl) (sq_of ((e2.trans e27).at hsa)) (fun m σ' H' => ∃ v9 : Option V, σ' = [some (.ref a), some (nV r), some (.ref sa), some (.ref ra), some (.ref pl), some (nV b), some (nV n), some (.ref kr), some (.ref cl), v9] ∧ Ex H6 H' ∧
          H' cl = some (.lst ((((0 :: fr).take m).map (KA.stepCost z.t z.cs ks (KA.restM z.t z.cs 0 fr (z.days.drop (n + 1))) b)).map nV)))
        (fun H8 e8 => ⟨_, rfl, e7.trans e8, e8.at hcl⟩) (fun m σ' H' hm ⟨_, _, e, _⟩ => sq_of ((e2.trans (e26.trans e)).at hsa)) ?_ ?_
      · rintro m x σ' H8 hx ⟨v9', rfl, e8, hcl8⟩
        obtain ⟨c, hcm, rfl⟩ := nV_at hx
        have hcin := List.mem_of_getElem? hcm
        have e28 := e26.trans e8
        have e08 := e12.trans e28
        have hm16 : m < 16 := by
          have := (List.getElem?_eq_some_iff.mp hcm).1
          simp at this
          omega
        refine s_app (v := nV (KA.stepCost z.t z.cs ks (KA.restM z.t z.cs 0 fr (z.days.drop (n + 1))) b c)) hcl8 (ev_var rfl) (ev_is (ev_op (ev_op (ev_methG (ev_var rfl) (e08.at hI) (no_Choice_going ..) (ea_cons (ev_var rfl) (ea_cons (ev_var rfl) ea_nil)) (spv_going (old := b) (new := c) (hC0.mono e08) hz))
          (ev_methG (ev_var rfl) (e08.at hI) (no_Choice_day_cost ..) (ea_cons (ev_var rfl) (ea_cons (ev_var rfl) ea_nil)) (spv_day_cost (s := c) (hC0.mono e08) hz (e08.at hks2) hk9)) rv_add)
          (ev_dget (n := (c : Int)) (ev_op (ev_var rfl) (ev_op (ev_var rfl) ev_c rv_add) (rv_ixL (sq_of (e28.at hra)) (at_of (j := n + 1) (by push_cast; rfl) (by rw [List.getElem?_map, hr1]; rfl)))) (ev_var rfl) (e28.at hk1) (hv1 c hcin)) rv_add) ?_) (by simp; omega) (fun H9 e9 => ⟨_, rfl, Ex.mut (e8.trans e9) hcl0, ?_⟩)
        · unfold KA.stepCost
          show V.int _ = V.int (((_ + _ + _ : Nat)) : Int)
          push_cast
          rfl
        · rw [take_next hcm, List.map_append, List.map_append]
          exact upd_same
      · rintro σ' H8 ⟨v9', rfl, e8, hcl8⟩
        rw [List.length_map, List.take_length] at hcl8
        have e28 := e26.trans e8
        refine q_asg (ev_pick (ev_var rfl) (sq_of ((e2.trans e28).at hsa)) (ev_var rfl) (sq_of hcl8)) fun H9 e9 => ?_
        have e69 := e8.trans e9
        refine s_app ((e6.trans e69).at hpl5) (ev_var rfl) (ev_var rfl) (by rw [List.length_map]; omega) fun H10 e10 => ⟨_, _, _, _, _, sets ++ [KA.pickMin (KA.stepCost z.t z.cs ks (KA.restM z.t z.cs 0 fr (z.days.drop (n + 1))) b) 0 fr], rfl, Ex.mut ((e26.trans e69).trans e10) hpl0, ?_, by rw [List.length_append, hsl]; rfl, ?_⟩
        · rw [List.map_append]
          exact upd_same
        · rw [hplan, hdrop, List.append_assoc]
          rfl
    · rintro σ' H5 ⟨b, v6, v7, v8, v9, sets, rfl, e5, hpl5, hsl, hplan⟩
      have e25 := e12.trans e5
      rw [List.length_map, hld] at hsl
      have hplan' : KA.planM z.t z.cs 0 fr z.days 0 = sets := by
        rw [hplan, List.length_map, hld, List.drop_length]
        exact List.append_nil _
      obtain ⟨r0, hr0, kv0, hk0, hv0⟩ := pair_get hds (i := 0) (b := 0) (List.getElem?_range (by omega))
      rw [Nat.zero_add] at hv0
      refine s_retL (el_is (el_cat (el_lst (ea_cons (ev_dget (n := 0) (ev_op (ev_var rfl) ev_c (rv_ixL (sq_of (e5.at hra)) (atI_nat (j := 0) (by rw [List.getElem?_map, hr0]; rfl)))) ev_c (e5.at hk0) (hv0 0 (List.mem_cons_self ..))) ea_nil) (by show 1 ≤ 100000; decide)) (ev_var rfl) hpl5 (by simp; omega)) ?_) fun p H6 hp e6 h6 => k p H6 (fresh_back e25 hp) (e25.trans e6) h6
      rw [hplan']
      rfl
theorem ok_same_always (T : Txt K mg d) : FnOk P w K mg base CX0 4 d.f_Choice_same_always d.fd_Choice_same_always P_Choice_same_always (sp_same_always d) := by
  refine T.F.F_Choice_same_always.ok sc_Choice_same_always (fun vs H Q E h => ?_) (fun cdv A outer s H vs Q E hr h => ⟨t_Choice_same_always K d (sp_fitting d) (sp_plan_cost d), dv_Choice_same_always T (ok_fitting T) (ok_plan_cost T) hr, ?_⟩)
  · obtain ⟨a, z, r, rfl, _⟩ := h
    rfl
  · obtain ⟨a, z, r, rfl, hC, hz, k⟩ := h
    have hC0 := hC
    obtain ⟨dx, ta, ca, za, da, hI, hT, hc, hs, ⟨dr, hda, hdd⟩⟩ := hC
    have hld : dr.length = z.days.length := pair_len hdd
    have h8 := hz.day8
    obtain ⟨fr, hfit⟩ := KA.fitting_cons z.t z.cs r
    have hfr := fit_len hz hfit
    rw [KA.always_eq hfit] at k
    refine q_asgL (el_methG (ev_var rfl) hI (no_Choice_fitting ..) (ea_cons (ev_var rfl) ea_nil) (spl_fitting hC0 hz)) fun sa H1 hsa0 e1 hsa => ?_
    rw [hfit] at hsa
    have hrep : ∀ s : Nat, (List.replicate ((z.days.length : Int)).toNat [nV s]).flatten = (z.days.map fun _ => s).map nV := fun s => by
      rw [Int.toNat_natCast]
      induction z.days with
      | nil => rfl
      | cons x l ih =>
        rw [List.length_cons, List.replicate_succ, List.flatten_cons, ih]
        rfl
    refine q_asgL (el_is (el_lcL (xs := (0 :: fr).map nV) (fun _ => true) (fun i => nV (Vamvse.planCost z.t z.cs z.days (z.days.map fun _ => (0 :: fr).getD i 0))) (ev_var rfl) (sq_of hsa) (by simp; omega) (fun _ => rfl) (fun i x H6 e6 hx H7 e7 Q q => q H7 (Ex.refl H7)) (fun i x H6 e6 hx _ => ?_)) ?_ (ys := ((0 :: fr).map fun s => Vamvse.planCost z.t z.cs z.days (z.days.map fun _ => s)).map nV)) fun ca' H2 hca0 e2 hca' => ?_
    · obtain ⟨c, hcn, rfl⟩ := nV_at hx
      have hc2 : (0 :: fr).getD i 0 = c := by rw [List.getD_eq_getElem?_getD, hcn]; rfl
      rw [hc2]
      -- [number] * len(self.days): a new list
      refine fun H7 e7 Q q => ⟨_, rfl, a, dx, _, rfl, ((e1.trans e6).trans e7).at hI, no_Choice_plan_cost .., ?_⟩
      have e17 := (e1.trans e6).trans e7
      have el1 : EvL (tLst (tCons (tVar 4) tNil)) [some (.ref a), some (nV r), some (.ref sa), none, some (nV c)] H7 [nV c] := el_lst (ea_cons (ev_var rfl) ea_nil) (by show 1 ≤ 100000; decide)
      show tOp rRep (tLst (tCons (tVar 4) tNil)) (tCB (rLenS K) (tCons (tFld K (tVar 0) "days") tNil)) _ H7 _
      show tLst (tCons (tVar 4) tNil) _ H7 _
      refine el1 H7 (Ex.refl H7) _ fun l H8 hl e8 hl8 => ?_
      show tCB (rLenS K) (tCons (tFld K (tVar 0) "days") tNil) _ H8 _
      have el2 : Ev (tCB (rLenS K) (tCons (tFld K (tVar 0) "days") tNil)) [some (.ref a), some (nV r), some (.ref sa), none, some (nV c)] H8 (.int ((dr.map V.ref).length : Int)) := ev_len (ev_Choice_days T (ev_var rfl) ((e17.trans e8).at hI)) (sq_of ((e17.trans e8).at hda))
      refine el2 H8 (Ex.refl H8) _ fun H9 e9 => ?_
      rw [List.length_map, hld]
      refine ⟨l, _, [nV c], rfl, rfl, e9.at hl8, by omega, by omega, by show 1 * _ ≤ sizeLine; rw [Int.toNat_natCast]; exact sz_of (by omega), fun p hp => ?_⟩
      rw [hrep]
      have en : Ex H9 (upd H9 p (.lst ((z.days.map fun _ => c).map nV))) := Ex.new hp
      have e19 := ((e17.trans e8).trans e9).trans en
      exact ⟨a, p, z, _, rfl, hC0.mono e19, hz, upd_same, fun H10 e10 => q H10 (((e8.trans e9).trans en).trans e10)⟩
    · have eg := given_zip (fun _ _ => true) (fun c => nV (Vamvse.planCost z.t z.cs z.days (z.days.map fun _ => c))) (0 :: fr) 0 (fun _ => true) (fun i => nV (Vamvse.planCost z.t z.cs z.days (z.days.map fun _ => (0 :: fr).getD i 0))) (fun i c hc => ⟨rfl, by rw [List.getD_eq_getElem?_getD, hc]; rfl⟩)
      rw [List.length_map, eg, List.map_map]
      exact all_zip (fun c => nV (Vamvse.planCost z.t z.cs z.days (z.days.map fun _ => c))) (0 :: fr) 0
    · have e12 := e1.trans e2
      refine s_retL (el_is (el_lst (ea_cons (ev_minL (ev_var rfl) (sq_of hca') (by simp)) (ea_cons (ev_pick (ev_var rfl) (sq_of (e2.at hsa)) (ev_var rfl) (sq_of hca')) ea_nil)) (by show 2 ≤ 100000; decide)) ?_) fun p H3 hp e3 h3 => k p H3 (fresh_back e12 hp) (e12.trans e3) h3
      rw [KA.minD_pick]
      rfl
end
end KW
end
section
/-! # plans: a Choice is made, its candidates and days are put -/
namespace KW
open PySem PySem.Spec PyProof.Rows L2 Evl
/-- all but a is as it was -/
def Off (a : Addr) (H H' : Hp) : Prop := ∀ b o, H b = some o → b ≠ a → H' b = some o
theorem Off.upd {H : Hp} {a : Addr} {o : HO} : Off a H (upd H a o) := fun b u h hb => by
  rw [upd_ne hb]
  exact h
theorem Off.trans {a : Addr} {H H1 H2 : Hp} (x : Off a H H1) (y : Off a H1 H2) : Off a H H2 := fun b o h hb => y b o (x b o h hb) hb
theorem Off.ex {a : Addr} {H H1 H2 : Hp} (x : Off a H H1) (y : Ex H1 H2) : Off a H H2 := fun b o h hb => y b o (x b o h hb)
theorem _root_.Evl.Ex.off {a : Addr} {H H1 : Hp} (x : Ex H H1) : Off a H H1 := fun b o h _ => x b o h
theorem Off.fresh {a b : Addr} {H H1 : Hp} (x : Off a H H1) (hb : b ≠ a) (h : H1 b = none) : H b = none := by
  cases e : H b with
  | none => rfl
  | some o =>
    rw [x b o e hb] at h
    cases h
/-- at a stands none of the table's things -/
structure Other (H : Hp) (a : Addr) : Prop where
  lst : ∀ xs, H a ≠ some (.lst xs)
  qs : ∀ C dx v0 v1, H a ≠ some (.ins C dx (fl_Question v0 v1))
  tb : ∀ C dx v0 v1 v2, H a ≠ some (.ins C dx (fl_Table v0 v1 v2))
theorem Other.ins {H : Hp} {a C dx : Addr} {fs : List (Str × V)} (h : H a = some (.ins C dx fs)) (h2 : ∀ v0 v1, fs ≠ fl_Question v0 v1) (h3 : ∀ v0 v1 v2, fs ≠ fl_Table v0 v1 v2) : Other H a where
  lst := fun xs e => by
    rw [h] at e
    cases e
  qs := fun C dx v0 v1 e => by
    rw [h] at e
    injection e with e
    injection e with _ _ e
    exact h2 _ _ e
  tb := fun C dx v0 v1 v2 e => by
    rw [h] at e
    injection e with e
    injection e with _ _ e
    exact h3 _ _ _ e
theorem Other.choice {H : Hp} {a C dx : Addr} {v0 v1 v2 v3 : V} (h : H a = some (.ins C dx (fl_Choice v0 v1 v2 v3))) : Other H a :=
  .ins h (fun _ _ e => by cases congrArg List.length e) (fun _ _ _ e => by cases congrArg List.length e)
theorem Other.new {H : Hp} {a C dx : Addr} (h : H a = some (.ins C dx [])) : Other H a :=
  .ins h (fun _ _ e => by cases congrArg List.length e) (fun _ _ _ e => by cases congrArg List.length e)
theorem Other.one {H : Hp} {a C dx : Addr} {v0 : V} (h : H a = some (.ins C dx (fl_Desk v0))) : Other H a :=
  .ins h (fun _ _ e => by cases congrArg List.length e) (fun _ _ _ e => by cases congrArg List.length e)
theorem Other.reader {H : Hp} {a C dx : Addr} {v0 v1 : V} (h : H a = some (.ins C dx (fl_CallReader v0 v1))) : Other H a :=
  .ins h (fun _ _ e => by
    have e2 := congrArg (fun l : List (Str × V) => (l.head?.map fun x => x.1).getD ("" : Str)) e
    exact absurd (show ("calls" : Str) = "grouping" from e2) (by decide +kernel)) (fun _ _ _ e => by cases congrArg List.length e)
section
variable {d : Ad} {H H' : Hp} {a b : Addr}
theorem Other.ne {H : Hp} {a b : Addr} {o : HO} (h : H b = some o) (n : H a ≠ some o) : b ≠ a := fun z => n (by rw [← z]; exact h)
theorem ListsN.off (x : Other H a) (k : Off a H H') {ls : List (List Nat)} (h : ListsN H b ls) : ListsN H' b ls := by
  obtain ⟨rs, h1, h2⟩ := h
  exact ⟨rs, k _ _ h1 (Other.ne h1 (x.lst _)), pair_imp h2 fun _ _ q => k _ _ q (Other.ne q (x.lst _))⟩
theorem QsAt.off (x : Other H a) (k : Off a H H') {qs : List Vamvsa.Ask} (h : QsAt d H b qs) : QsAt d H' b qs := by
  obtain ⟨rs, h1, h2⟩ := h
  exact ⟨rs, k _ _ h1 (Other.ne h1 (x.lst _)), pair_imp h2 fun _ _ ⟨dx, q⟩ => ⟨dx, k _ _ q (Other.ne q (x.qs _ _ _ _))⟩⟩
theorem TableAt.off (x : Other H a) (k : Off a H H') {cols : List VamvsBase.Bytes} {rows : List (List Nat)} {qs : List Vamvsa.Ask} (h : TableAt d H b cols rows qs) : TableAt d H' b cols rows qs := by
  obtain ⟨dx, ca, ra, qa, h1, h2, h3, h4⟩ := h
  exact ⟨dx, ca, ra, qa, k _ _ h1 (Other.ne h1 (x.tb _ _ _ _ _)), k _ _ h2 (Other.ne h2 (x.lst _)), h3.off x k, h4.off x k⟩
end
/-- a table's lists are told by N -/
def TParts (d : Ad) (H : Hp) (ta : Addr) (N : Addr → Prop) : Prop := ∀ dxt ca ra qa, H ta = some (.ins d.cTable dxt (fl_Table (.ref ca) (.ref ra) (.ref qa))) → N ca ∧ N ra ∧ N qa ∧ ∀ rs : List Addr, H ra = some (.lst (rs.map V.ref)) → ∀ r ∈ rs, N r
/-- a Choice's lists are told by N -/
def Parts (d : Ad) (H : Hp) (a : Addr) (N : Addr → Prop) : Prop := ∀ dx ta ca sa da, H a = some (.ins d.cChoice dx (fl_Choice (.ref ta) (.ref ca) (.ref sa) (.ref da))) → TParts d H ta N ∧ N ca ∧ N sa ∧ N da ∧ ∀ rs : List Addr, H da = some (.lst (rs.map V.ref)) → ∀ r ∈ rs, N r
theorem ref_inj {a b : List Addr} (h : a.map V.ref = b.map V.ref) : a = b := (List.map_inj_right (fun x y e => by injection e)).mp h
/-- what a Choice is made of -/
def Kind (d : Ad) (o : HO) : Prop := (∃ xs, o = .lst xs) ∨ (∃ dx v0 v1 v2, o = .ins d.cTable dx (fl_Table v0 v1 v2)) ∨ (∃ dx v0 v1 v2 v3, o = .ins d.cChoice dx (fl_Choice v0 v1 v2 v3))
theorem lst_inj {H : Hp} {a : Addr} {x y : List Addr} (h : H a = some (.lst (x.map V.ref))) (h2 : H a = some (.lst (y.map V.ref))) : x = y := by
  rw [h] at h2
  injection h2 with h2
  injection h2 with h2
  exact ref_inj h2
theorem TParts.keep {d : Ad} {H H' : Hp} {ta : Addr} {N : Addr → Prop} {cols : List VamvsBase.Bytes} {rows : List (List Nat)} {qs : List Vamvsa.Ask} (h : TableAt d H ta cols rows qs) (k : ∀ b o, H b = some o → Kind d o → H' b = some o) (p : TParts d H ta N) : TParts d H' ta N := by
  obtain ⟨dx, ca, ra, qa, h1, h2, ⟨rs, h3, h4⟩, h5⟩ := h
  obtain ⟨n1, n2, n3, n4⟩ := p _ _ _ _ h1
  intro dxt' ca' ra' qa' e
  rw [k _ _ h1 (.inr (.inl ⟨_, _, _, _, rfl⟩))] at e
  injection e with e
  injection e with _ _ e
  injection e with e1 e2
  injection e1 with _ e1
  injection e2 with e2 e3
  injection e2 with _ e2
  injection e3 with e3 _
  injection e3 with _ e3
  injection e1 with e1
  injection e2 with e2
  injection e3 with e3
  subst e1 e2 e3
  refine ⟨n1, n2, n3, fun rs' e' r hr => n4 rs h3 r ?_⟩
  rw [lst_inj (k _ _ h3 (.inl ⟨_, rfl⟩)) e']
  exact hr
theorem choice_inj {d : Ad} {H : Hp} {a dx dx' ta ca sa da ta' ca' sa' da' : Addr} (h : H a = some (.ins d.cChoice dx (fl_Choice (.ref ta) (.ref ca) (.ref sa) (.ref da)))) (e : H a = some (.ins d.cChoice dx' (fl_Choice (.ref ta') (.ref ca') (.ref sa') (.ref da')))) : ta = ta' ∧ ca = ca' ∧ sa = sa' ∧ da = da' := by
  rw [h] at e
  injection e with e
  injection e with _ _ e
  injection e with e1 e
  injection e with e2 e
  injection e with e3 e
  injection e with e4 _
  injection e1 with _ e1
  injection e2 with _ e2
  injection e3 with _ e3
  injection e4 with _ e4
  injection e1 with e1
  injection e2 with e2
  injection e3 with e3
  injection e4 with e4
  exact ⟨e1, e2, e3, e4⟩
theorem Parts.keep {d : Ad} {H H' : Hp} {a : Addr} {N : Addr → Prop} {z : Vamvse.Held} (h : ChoiceAt d H a z) (k : ∀ b o, H b = some o → Kind d o → H' b = some o) (p : Parts d H a N) : Parts d H' a N := by
  obtain ⟨dx, ta, ca, sa, da, h1, h2, h3, h4, ⟨rs, h5, h6⟩⟩ := h
  obtain ⟨n1, n2, n3, n4, n5⟩ := p _ _ _ _ _ h1
  intro dx' ta' ca' sa' da' e
  obtain ⟨rfl, rfl, rfl, rfl⟩ := choice_inj (k _ _ h1 (.inr (.inr ⟨_, _, _, _, _, rfl⟩))) e
  refine ⟨n1.keep h2 k, n2, n3, n4, fun rs' e' r hr => n5 rs h5 r ?_⟩
  rw [lst_inj (k _ _ h5 (.inl ⟨_, rfl⟩)) e']
  exact hr
theorem TParts.offT {d : Ad} {H H' : Hp} {a ta : Addr} {N : Addr → Prop} {cols : List VamvsBase.Bytes} {rows : List (List Nat)} {qs : List Vamvsa.Ask} (p : TParts d H ta N) (x : Other H a) (k : Off a H H') (h : TableAt d H ta cols rows qs) : TParts d H' ta N := by
  obtain ⟨dx, ca, ra, qa, h1, h2, ⟨rs, h3, h4⟩, h5⟩ := h
  obtain ⟨n1, n2, n3, n4⟩ := p _ _ _ _ h1
  intro dxt' ca' ra' qa' e
  rw [k _ _ h1 (Other.ne h1 (x.tb _ _ _ _ _))] at e
  injection e with e
  injection e with _ _ e
  injection e with e1 e2
  injection e1 with _ e1
  injection e2 with e2 e3
  injection e2 with _ e2
  injection e3 with e3 _
  injection e3 with _ e3
  injection e1 with e1
  injection e2 with e2
  injection e3 with e3
  subst e1 e2 e3
  refine ⟨n1, n2, n3, fun rs' e' r hr => n4 rs h3 r ?_⟩
  rw [lst_inj (k _ _ h3 (Other.ne h3 (x.lst _))) e']
  exact hr
section
variable (d : Ad)
def sp_Choice_init : Sp := fun vs H Q _ => ∃ (a dx ta : Addr) (t : Vamvsa.Table), vs = [.ref a, .ref ta] ∧ H a = some (.ins d.cChoice dx []) ∧ TableAt d H ta t.cols (t.rows.map (·.vs)) t.asks ∧
  ∀ H', Off a H H' → ChoiceAt d H' a ⟨t, [], []⟩ → (∀ N : Addr → Prop, (∀ b, H b = none → N b) → TParts d H ta N → Parts d H' a N) → Q .non H'
def sp_put_candidates : Sp := fun vs H Q _ => ∃ (a ga : Addr) (z : Vamvse.Held) (cs : List Nat), vs = [.ref a, .ref ga] ∧ ChoiceAt d H a z ∧ HeldOk z ∧ H ga = some (.lst (cs.map nV)) ∧ cs.length ≤ 4 ∧
  ∀ H', Off a H H' → ChoiceAt d H' a { z with cs := cs } → (∀ N : Addr → Prop, (∀ b, H b = none → N b) → Parts d H a N → Parts d H' a N) → Q .non H'
def sp_put_days : Sp := fun vs H Q _ => ∃ (a ga : Addr) (z : Vamvse.Held) (k : Nat) (l : List Nat), vs = [.ref a, .ref ga] ∧ ChoiceAt d H a z ∧ HeldOk z ∧ H ga = some (.lst (l.map nV)) ∧ 0 < z.t.asks.length ∧ k ≤ 8 ∧ l.length = z.t.asks.length * k ∧
  ∀ H', Off a H H' → ChoiceAt d H' a { z with days := Vamvse.cut z.t.asks.length k l } → (∀ N : Addr → Prop, (∀ b, H b = none → N b) → Parts d H a N → Parts d H' a N) → Q .non H'
end
theorem s_fld_of {K : PySem.W.Frag} {ta tv : TE} {f : Str} {D : Ends} {σ : L2.St} {H : Hp} (h : tv σ H fun y H1 => ta σ H1 fun x H2 => ∃ a C dx fs, x = .ref a ∧ H2 a = some (.ins C dx fs) ∧ Cls K C ∧ NoAttr K C f ∧ fs.length < 1000 ∧ D.nx σ (upd H2 a (.ins C dx (putF f y fs)))) : sFld K ta tv f D σ H := h
theorem q_fld_of {K : PySem.W.Frag} {ta tv : TE} {f : Str} {D : Ends} {tz : TS} {σ : L2.St} {H : Hp} (h : tv σ H fun y H1 => ta σ H1 fun x H2 => ∃ a C dx fs, x = .ref a ∧ H2 a = some (.ins C dx fs) ∧ Cls K C ∧ NoAttr K C f ∧ fs.length < 1000 ∧ tz D σ (upd H2 a (.ins C dx (putF f y fs)))) : tSeq (sFld K ta tv f) tz D σ H := h
theorem rgc_cut {n k : Nat} (hn : 0 < n) (h : n * k ≤ 1000000) (hn2 : n ≤ 1000000) : RgC 0 ((n * k : Nat) : Int) (n : Int) k := by
  have e : Builtin.Range.rangeSize 0 ((n * k : Nat) : Int) (n : Int) = k := by
    rw [PyProof.Rows.rangeSize_pos (by omega) (by omega)]
    have e1 : ((n * k : Nat) : Int) + (n : Int) - 1 = ((n : Int) - 1) + (k : Int) * (n : Int) := by
      push_cast
      rw [Int.mul_comm (k : Int)]
      omega
    rw [e1, Int.add_mul_ediv_right _ _ (by omega), Int.ediv_eq_zero_of_lt (by omega) (by omega), Int.zero_add]
  have hk : k ≤ n * k := Nat.le_mul_of_pos_left k hn
  refine ⟨by omega, by omega, ?_, e⟩
  unfold Builtin.Range.small
  rw [e]
  simp only [Builtin.Range.rangeFitsLong, Bool.and_eq_true, Bool.or_eq_true, decide_eq_true_eq, beq_iff_eq, show ((n : Int) > 0) by omega, if_true]
  omega
theorem cut_at (n : Nat) : ∀ (k : Nat) (l : List Nat) (i : Nat), i < k → (Vamvse.cut n k l)[i]? = some ((l.drop (n * i)).take n)
  | 0, _, i, h => absurd h (Nat.not_lt_zero i)
  | k + 1, l, 0, _ => by
    rw [Nat.mul_zero, List.drop_zero]
    rfl
  | k + 1, l, i + 1, h => by
    show (Vamvse.cut n k (l.drop n))[i]? = _
    rw [cut_at n k (l.drop n) i (by omega), List.drop_drop]
    have e : n + n * i = n * (i + 1) := by
      rw [Nat.mul_add, Nat.mul_one, Nat.add_comm]
    rw [e]
theorem cut_len (n : Nat) : ∀ (k : Nat) (l : List Nat), (Vamvse.cut n k l).length = k
  | 0, _ => rfl
  | k + 1, l => congrArg (· + 1) (cut_len n k (l.drop n))
section
variable {P : Program} {w : World} {K : PySem.W.Frag} {mg : Str → Option Value} {base : Heap} {d : Ad}
theorem ok_Choice_init (T : Txt K mg d) : FnOk P w K mg base CX0 1 d.f_Choice_init d.fd_Choice_init P_Choice_init (sp_Choice_init d) := by
  refine T.F.F_Choice_init.ok sc_Choice_init (fun vs H Q E h => ?_) (fun cdv A outer s H vs Q E hr h => ⟨t_Choice_init K d, dv_Choice_init T hr, ?_⟩)
  · obtain ⟨a, dx, ta, t, rfl, _⟩ := h
    rfl
  · obtain ⟨a, dx, ta, t, rfl, hI, hT, k⟩ := h
    have hO := Other.new hI
    refine ⟨_, rfl, _, rfl, a, d.cChoice, dx, _, rfl, hI, T.C.cl_Choice, T.C.n_Choice_table, (by show 0 < 1000; decide), ?_⟩
    refine ⟨by show 0 ≤ sizeLine; decide, fun p1 hp1 => ⟨_, rfl, a, d.cChoice, dx, _, rfl, (upd_ne (ne_of_none upd_same hp1)).trans upd_same, T.C.cl_Choice, T.C.n_Choice_candidates, (by show 1 < 1000; decide), ?_⟩⟩
    refine ⟨by show 0 ≤ sizeLine; decide, fun p2 hp2 => ⟨_, rfl, a, d.cChoice, dx, _, rfl, (upd_ne (ne_of_none upd_same hp2)).trans upd_same, T.C.cl_Choice, T.C.n_Choice_sizes, (by show 2 < 1000; decide), ?_⟩⟩
    refine ⟨by show 0 ≤ sizeLine; decide, fun p3 hp3 => ⟨_, rfl, a, d.cChoice, dx, _, rfl, (upd_ne (ne_of_none upd_same hp3)).trans upd_same, T.C.cl_Choice, T.C.n_Choice_days, (by show 3 < 1000; decide), ?_⟩⟩
    have n1 : p1 ≠ a := fun z => by
      rw [z, upd_same] at hp1
      cases hp1
    have n2 : p2 ≠ a := fun z => by
      rw [z, upd_same] at hp2
      cases hp2
    have n3 : p3 ≠ a := fun z => by
      rw [z, upd_same] at hp3
      cases hp3
    have hp2' : upd (upd (upd H a (.ins d.cChoice dx (putF "table" (.ref ta) []))) p1 (.lst [])) a (.ins d.cChoice dx (putF "candidates" (.ref p1) (putF "table" (.ref ta) []))) p2 = none := hp2
    have n21 : p2 ≠ p1 := fun z => by
      rw [z, upd_ne n1, upd_same] at hp2
      cases hp2
    have n31 : p3 ≠ p1 := fun z => by
      rw [z, upd_ne n1, upd_ne (Ne.symm n21), upd_ne n1, upd_same] at hp3
      cases hp3
    have n32 : p3 ≠ p2 := fun z => by
      rw [z, upd_ne n2, upd_same] at hp3
      cases hp3
    have g1 : H p1 = none := by
      rw [upd_ne n1] at hp1
      exact hp1
    have g2 : H p2 = none := by
      rw [upd_ne n2, upd_ne n21, upd_ne n2] at hp2
      exact hp2
    have g3 : H p3 = none := by
      rw [upd_ne n3, upd_ne n32, upd_ne n3, upd_ne n31, upd_ne n3] at hp3
      exact hp3
    have off : Off a H (upd (upd (upd (upd (upd (upd (upd H a (.ins d.cChoice dx (putF "table" (.ref ta) []))) p1 (.lst [])) a (.ins d.cChoice dx (putF "candidates" (.ref p1) (putF "table" (.ref ta) [])))) p2 (.lst [])) a (.ins d.cChoice dx (putF "sizes" (.ref p2) (putF "candidates" (.ref p1) (putF "table" (.ref ta) []))))) p3 (.lst []))
        a (.ins d.cChoice dx (putF "days" (.ref p3) (putF "sizes" (.ref p2) (putF "candidates" (.ref p1) (putF "table" (.ref ta) [])))))) := fun b o h hb => by
      rw [upd_ne hb, upd_ne (ne_of_none h g3), upd_ne hb, upd_ne (ne_of_none h g2), upd_ne hb, upd_ne (ne_of_none h g1), upd_ne hb]
      exact h
    have hp3' : (upd (upd (upd (upd (upd (upd (upd H a (.ins d.cChoice dx (putF "table" (.ref ta) []))) p1 (.lst [])) a (.ins d.cChoice dx (putF "candidates" (.ref p1) (putF "table" (.ref ta) [])))) p2 (.lst [])) a (.ins d.cChoice dx (putF "sizes" (.ref p2) (putF "candidates" (.ref p1) (putF "table" (.ref ta) []))))) p3 (.lst []))
        a (.ins d.cChoice dx (putF "days" (.ref p3) (putF "sizes" (.ref p2) (putF "candidates" (.ref p1) (putF "table" (.ref ta) [])))))) p3 = some (.lst (([] : List Addr).map V.ref)) := by
      rw [upd_ne n3, upd_same]
      rfl
    refine k _ off ⟨dx, ta, p1, p2, p3, ?_, hT.off hO off, ?_, ?_, ?_⟩ fun N hN pt dx' ta' ca' sa' da' e => ?_
    · rw [upd_same, nw_Choice]
    · rw [upd_ne n1, upd_ne (Ne.symm n31), upd_ne n1, upd_ne (Ne.symm n21), upd_ne n1, upd_same]
      rfl
    · rw [upd_ne n2, upd_ne (Ne.symm n32), upd_ne n2, upd_same]
      rfl
    · exact ⟨[], by rw [upd_ne n3, upd_same]; rfl, .nil⟩
    · rw [nw_Choice] at e
      rw [nw_Choice] at hp3'
      rw [nw_Choice] at off
      obtain ⟨rfl, rfl, rfl, rfl⟩ := choice_inj upd_same e
      refine ⟨?_, hN _ g1, hN _ g2, hN _ g3, fun rs e' r hr => ?_⟩
      · rw [nw_Choice]
        exact pt.offT hO off hT
      · rw [nw_Choice] at e'
        rw [← lst_inj hp3' e'] at hr
        exact (List.not_mem_nil hr).elim
theorem ok_put_candidates (T : Txt K mg d) : FnOk P w K mg base CX0 2 d.f_Choice_put_candidates d.fd_Choice_put_candidates P_Choice_put_candidates (sp_put_candidates d) := by
  refine T.F.F_Choice_put_candidates.ok sc_Choice_put_candidates (fun vs H Q E h => ?_) (fun cdv A outer s H vs Q E hr h => ⟨t_Choice_put_candidates K d (sp_size d), dv_Choice_put_candidates T (ok_size T) hr, ?_⟩)
  · obtain ⟨a, ga, z, cs, rfl, _⟩ := h
    rfl
  · obtain ⟨a, ga, z, cs, rfl, ⟨dx, ta, ca, za, da, hI, hT, hc, hs, hd⟩, hz, hga, h4, k⟩ := h
    have hO := Other.choice hI
    have el1 : EvL (tCB (rListS K) (tCons (tVar 1) tNil)) (start N_Choice_put_candidates [.ref a, .ref ga]) H (cs.map nV) := el_list (ev_var rfl) (sq_of hga)
    refine q_fld_of (el1 H (Ex.refl H) _ fun l1 H1 hl1 e1 h1 => ?_)
    refine ⟨_, rfl, a, d.cChoice, dx, _, rfl, e1.at hI, T.C.cl_Choice, T.C.n_Choice_candidates, (by show 4 < 1000; decide), ?_⟩
    rw [pt_Choice_candidates]
    have nl1 : l1 ≠ a := fun y => by
      rw [y, hI] at hl1
      cases hl1
    have off1 : Off a H (upd H1 a (.ins d.cChoice dx (fl_Choice (.ref ta) (.ref l1) (.ref za) (.ref da)))) := e1.off.trans Off.upd
    have hT1 := hT.off hO off1
    have hI1 : (upd H1 a (.ins d.cChoice dx (fl_Choice (.ref ta) (.ref l1) (.ref za) (.ref da)))) a = some (.ins d.cChoice dx (fl_Choice (.ref ta) (.ref l1) (.ref za) (.ref da))) := upd_same
    have hga1 : (upd H1 a (.ins d.cChoice dx (fl_Choice (.ref ta) (.ref l1) (.ref za) (.ref da)))) ga = some (.lst (cs.map nV)) := by
      rw [upd_ne (Other.ne hga (hO.lst _))]
      exact e1.at hga
    have hl1' : (upd H1 a (.ins d.cChoice dx (fl_Choice (.ref ta) (.ref l1) (.ref za) (.ref da)))) l1 = some (.lst (cs.map nV)) := by
      rw [upd_ne nl1]
      exact h1
    generalize upd H1 a (.ins d.cChoice dx (fl_Choice (.ref ta) (.ref l1) (.ref za) (.ref da))) = H2 at *
    obtain ⟨dxt, cola, ra, qa, hIt, hrest⟩ := id hT1
    have rows16 : (z.t.rows.map (·.vs)).length ≤ 16 := by rw [List.length_map]; exact hz.many
    have rows4 : ∀ r ∈ z.t.rows.map (·.vs), r.length ≤ 4 := fun r hr => by
      obtain ⟨q, hq, rfl⟩ := List.mem_map.mp hr
      rw [hz.rows q hq]
      exact hz.cols
    have el2 : EvL (tLc (iList K (tVar 1)) (gName 2) tYes (tMeth d.cTable "size" (sp_size d) [] E0 (tFld K (tVar 0) "table") (tCons (tVar 2) tNil)) [2]) (start N_Choice_put_candidates [.ref a, .ref ga]) H2 ((cs.map (Vamvsa.sizeOf_ z.t)).map nV) := by
      refine el_is (el_lcL (xs := cs.map nV) (fun _ => true) (fun i => nV (Vamvsa.sizeOf_ z.t (cs.getD i 0))) (ev_var rfl) (sq_of hga1) (mapV_le (by omega)) (fun _ => rfl) (fun i x H6 e6 hx H7 e7 Q q => q H7 (Ex.refl H7)) (fun i x H6 e6 hx _ => ?_)) ?_
      · obtain ⟨c, hcn, rfl⟩ := nV_at hx
        have hc2 : cs.getD i 0 = c := by rw [List.getD_eq_getElem?_getD, hcn]; rfl
        rw [hc2]
        refine ev_is (ev_methG (ev_Choice_table T (ev_var rfl) (e6.at hI1)) (e6.at hIt) (no_Table_size ..) (ea_cons (ev_var rfl) ea_nil) (spv_size (g := c) (hT1.mono e6) rows16 rows4)) ?_
        rw [KA.size_eq c hz.rows]
      · have eg := given_zip (fun _ _ => true) (fun c => nV (Vamvsa.sizeOf_ z.t c)) cs 0 (fun _ => true) (fun i => nV (Vamvsa.sizeOf_ z.t (cs.getD i 0))) (fun i c hc => ⟨rfl, by rw [List.getD_eq_getElem?_getD, hc]; rfl⟩)
        rw [List.length_map, eg, List.map_map]
        exact all_zip (fun c => nV (Vamvsa.sizeOf_ z.t c)) cs 0
    refine s_fld_of (el2 H2 (Ex.refl H2) _ fun l2 H3 hl2 e3 h3 => ?_)
    refine ⟨_, rfl, a, d.cChoice, dx, _, rfl, e3.at hI1, T.C.cl_Choice, T.C.n_Choice_sizes, (by show 4 < 1000; decide), ?_⟩
    rw [pt_Choice_sizes]
    have nl2 : l2 ≠ a := fun y => by
      rw [y, hI1] at hl2
      cases hl2
    have off2 : Off a H (upd H3 a (.ins d.cChoice dx (fl_Choice (.ref ta) (.ref l1) (.ref l2) (.ref da)))) := (off1.ex e3).trans Off.upd
    have hO2 : ∀ b o, H b = some o → (Kind d o) → b ≠ a → (upd H3 a (.ins d.cChoice dx (fl_Choice (.ref ta) (.ref l1) (.ref l2) (.ref da)))) b = some o := fun b o h _ hb => off2 b o h hb
    refine k _ off2 ⟨dx, ta, l1, l2, da, upd_same, hT.off hO off2, ?_, ?_, hd.off hO off2⟩ fun N hN pp dx' ta' ca' sa' da' e => ?_
    · rw [upd_ne nl1]
      exact e3.at hl1'
    · rw [upd_ne nl2]
      exact h3
    · obtain ⟨rfl, rfl, rfl, rfl⟩ := choice_inj upd_same e
      obtain ⟨p1, p2, p3, p4, p5⟩ := pp _ _ _ _ _ hI
      obtain ⟨rs, hda, hdp⟩ := hd
      refine ⟨p1.offT hO off2 hT, hN _ hl1, hN _ (off1.fresh nl2 hl2), p4, fun rs' e' r hr => p5 rs hda r ?_⟩
      rw [lst_inj (off2 _ _ hda (Other.ne hda (hO.lst _))) e']
      exact hr
theorem ok_put_days (T : Txt K mg d) : FnOk P w K mg base CX0 1 d.f_Choice_put_days d.fd_Choice_put_days P_Choice_put_days (sp_put_days d) := by
  refine T.F.F_Choice_put_days.ok sc_Choice_put_days (fun vs H Q E h => ?_) (fun cdv A outer s H vs Q E hr h => ⟨t_Choice_put_days K d, dv_Choice_put_days T hr, ?_⟩)
  · obtain ⟨a, ga, z, k, l, rfl, _⟩ := h
    rfl
  · obtain ⟨a, ga, z, n, l, rfl, ⟨dx, ta, ca, za, da, hI, hT, hc, hs, hd⟩, hz, hga, h0, hn8, hlen, k⟩ := h
    have hO := Other.choice hI
    obtain ⟨dxt, cola, ra, qa, hIt, hcol, hrw, ⟨qr, hqa, hqq⟩⟩ := id hT
    have hql : qr.length = z.t.asks.length := pair_len hqq
    have h8 := hz.asks
    have hmul : z.t.asks.length * n ≤ 64 := Nat.mul_le_mul h8 hn8
    refine q_asg (v := nV z.t.asks.length) (ev_is (ev_len (ev_Table_questions T (ev_Choice_table T (ev_var rfl) hI) hIt) (sq_of hqa)) (by rw [List.length_map, hql])) fun H1 e1 => ?_
    have el : ∀ H0, Ex H1 H0 → ∀ Q : VK, NewL (fun i => .lst ((((l.drop (z.t.asks.length * i)).take z.t.asks.length)).map nV)) n H0 Q → tLc (iRng3 (tCons (tC (.int 0)) (tCons (tCB (rLenS K) (tCons (tVar 1) tNil)) (tCons (tVar 2) tNil)))) (gName 3) tYes (tSl (rSlL K) (tVar 1) (tPart (tVar 3)) (tPart (tOp kAdd (tVar 3) (tVar 2)))) [3]
        ((start N_Choice_put_days [.ref a, .ref ga]).set 2 (some (nV z.t.asks.length))) H0 Q := by
      refine el_lcNewR (lo := 0) (hi := ((z.t.asks.length * n : Nat) : Int)) (c := (z.t.asks.length : Int)) _ (ea_cons ev_c (ea_cons (ev_is (ev_len (ev_var rfl) (sq_of (e1.at hga))) (by rw [List.length_map, hlen])) (ea_cons (ev_var rfl) ea_nil))) (rgc_cut h0 (by omega) (by omega)) (by omega) (fun _ => rfl) (fun i H2 e2 hi Q q => ?_)
      have hin : z.t.asks.length * i + z.t.asks.length ≤ l.length := by
        rw [hlen, ← Nat.mul_succ]
        exact Nat.mul_le_mul_left _ hi
      refine (show EvL _ _ H2 _ from el_sl (lo := some (((z.t.asks.length * i : Nat)) : Int)) (hi := some (((z.t.asks.length * i + z.t.asks.length : Nat)) : Int)) (ev_var rfl) (eo_some (ev_is (ev_var rfl) ?_)) (eo_some (ev_is (ev_op (ev_var rfl) (ev_var rfl) rv_add) ?_)) (sq_of ((e1.trans e2).at hga))) H2 (Ex.refl H2) _ fun p H3 hp e3 h3 => q p H3 hp e3 ?_
      · show V.int _ = V.int _
        congr 1
        push_cast
        rw [Int.zero_add, Int.mul_comm]
      · show V.int _ = V.int _
        congr 1
        push_cast
        rw [Int.zero_add, Int.mul_comm]
      · rw [h3]
        unfold cutV
        rw [HT.sIx_nat, HT.sIx_nat, List.length_map, Nat.min_eq_left hin, Nat.min_eq_left (Nat.le_trans (Nat.le_add_right _ _) hin), ← List.map_drop, ← List.map_take, Nat.add_sub_cancel_left]
    refine s_fld_of (el H1 (Ex.refl H1) _ fun nd H2 ps hnd e2 h2 hpl hps => ?_)
    have e12 := e1.trans e2
    refine ⟨_, rfl, a, d.cChoice, dx, _, rfl, e12.at hI, T.C.cl_Choice, T.C.n_Choice_days, (by show 4 < 1000; decide), ?_⟩
    rw [pt_Choice_days]
    have off : Off a H (upd H2 a (.ins d.cChoice dx (fl_Choice (.ref ta) (.ref ca) (.ref za) (.ref nd)))) := e12.off.trans Off.upd
    have nnd : nd ≠ a := fun y => by
      rw [y, e1.at hI] at hnd
      cases hnd
    have hI2 := e12.at hI
    refine k _ off ⟨dx, ta, ca, za, nd, upd_same, hT.off hO off, off _ _ hc (Other.ne hc (hO.lst _)), off _ _ hs (Other.ne hs (hO.lst _)), ps, ?_, pair_of (by rw [hpl]; exact (cut_len ..).symm) fun i p c hp hcc => ?_⟩ fun N hN pp dx' ta' ca' sa' da' e => ?_
    · rw [upd_ne nnd]
      exact h2
    · have hi : i < n := by
        have := (List.getElem?_eq_some_iff.mp hp).1
        omega
      rw [cut_at _ _ _ _ hi] at hcc
      have e3 := Option.some.inj hcc
      have h5 := (hps i p hp).1
      rw [upd_ne (fun y => by rw [y, hI2] at h5; cases h5), h5, ← e3]
    · obtain ⟨rfl, rfl, rfl, rfl⟩ := choice_inj upd_same e
      obtain ⟨p1, p2, p3, p4, p5⟩ := pp _ _ _ _ _ hI
      refine ⟨p1.offT hO off hT, p2, p3, hN _ (fresh_back e1 hnd), fun rs' e' r hr => ?_⟩
      have hnl : (upd H2 a (.ins d.cChoice dx (fl_Choice (.ref ta) (.ref ca) (.ref za) (.ref nd)))) nd = some (.lst (ps.map V.ref)) := by
        rw [upd_ne nnd]
        exact h2
      rw [← lst_inj hnl e'] at hr
      obtain ⟨i, hi, er⟩ := List.getElem_of_mem hr
      exact hN _ (fresh_back e1 (hps i r (by rw [List.getElem?_eq_getElem hi, er])).2)
end
end KW
end
section
/-! # lines and pieces -/
namespace KW
open PySem PySem.Spec PyProof.Rows L2 Evl
open VamvsBase (Frac less whole frac)
/-- a fraction as a tuple -/
def frV (x : Frac) : List V := [.int x.num, .int (x.den : Int)]
structure Small (x : Frac) : Prop where
  lo : 0 ≤ x.num
  hi : x.num < 2 ^ 40
  den : x.den < 2 ^ 40
/-! ### short answers -/
section
variable {K : PySem.W.Frag} {σ : L2.St} {H H' : Hp} {ta tb te tl : TE} {D : Ends}
def RetU (xs : List V) (H : Hp) (Q : VK) : Prop := ∀ p H2, H p = none → Ex H H2 → H2 p = some (.tup xs) → Q (.ref p) H2
def SpU (sp : Sp) (vs : List V) (H : Hp) (xs : List V) : Prop := ∀ H1, Ex H H1 → ∀ Q : VK, (∀ p H2, H1 p = none → Ex H1 H2 → H2 p = some (.tup xs) → Q (.ref p) H2) → ∀ E : XK, sp vs H1 Q E
theorem eu_call {sp : Sp} {dvs vs xs : List V} {E : XK} {ta : TA} (h : EvA ta σ H vs) (hs : SpU sp (vs ++ dvs) H xs) : EvU (tCall sp dvs E ta) σ H xs := fun H1 e Q q =>
  h H1 e _ fun H2 e2 => hs H2 (e.trans e2) Q (fun p H3 hp e3 h3 => q p H3 (fresh_back e2 hp) (e2.trans e3) h3) E
theorem eu_methG {m : Str} {sp : Sp} {dvs vs xs : List V} {E : XK} {tr : TA} {a C dx : Addr} {fs : List (Str × V)} (h : Ev ta σ H (.ref a)) (ho : H a = some (.ins C dx fs)) (hl : fs.lookup m = none) (hv : EvA tr σ H vs) (hs : SpU sp (.ref a :: (vs ++ dvs)) H xs) : EvU (tMeth C m sp dvs E ta tr) σ H xs := fun H1 e Q q =>
  h H1 e _ fun H2 e2 => ⟨a, dx, fs, rfl, (e.trans e2) _ _ ho, hl, hv H2 (e.trans e2) _ fun H3 e3 => hs H3 ((e.trans e2).trans e3) Q (fun p H4 hp e4 h4 => q p H4 (fresh_back (e2.trans e3) hp) ((e2.trans e3).trans e4) h4) E⟩
theorem eu_is {xs ys : List V} (h : EvU te σ H xs) (e : xs = ys) : EvU te σ H ys := e ▸ h
/-- xs.append(a new object) -/
theorem s_appR {l : Addr} {xs : List V} {R : Addr → Hp → Prop} (hl : H l = some (.lst xs)) (ha : Ev ta σ H (.ref l)) (h : EvR te σ H R) (hz : xs.length < 100000) (k : ∀ p H1, H p = none → Ex H H1 → R p H1 → D.nx σ (upd H1 l (.lst (xs ++ [.ref p])))) :
    tDrop (tBM K "list" rAppend ta (tCons te tNil)) D σ H := ha H (Ex.refl H) _ fun H1 e1 =>
  ⟨Or.inl ⟨rfl, xs, sq_of (e1 l _ hl)⟩, h H1 e1 _ fun p H2 hp e2 h2 => ⟨l, xs, .ref p, rfl, rfl, e2 l _ (e1 l _ hl), sz_lt hz, k p H2 (fresh_back e1 hp) (e1.trans e2) h2⟩⟩
theorem er_U {xs : List V} (h : EvU te σ H xs) : EvR te σ H (fun p H2 => H2 p = some (.tup xs)) := h
end
theorem made_ex {H1 H' : Hp} {x dx C : Addr} (nx : H1 x = none) (nd : H1 dx = none) (off : Off x (upd (upd H1 dx (.own x)) x (.ins C dx [])) H') : Ex H1 H' := fun b o h =>
  off b o (by rw [upd_ne (ne_of_none h nx), upd_ne (ne_of_none h nd)]; exact h) (ne_of_none h nx)
/-! ### tuples of ints, as data -/
theorem lay_ints : ∀ l : List Int, PyData.canLayAll0 (l.map PyData.int) = true
  | [] => by simp [PyData.canLayAll0]
  | n :: l => by simp [PyData.canLayAll0, PyData.canLay0, lay_ints l]
theorem lay_tups : ∀ l : List (List Int), PyData.canLayAll0 (l.map fun z => PyData.tuple (z.map PyData.int)) = true
  | [] => by simp [PyData.canLayAll0]
  | n :: l => by simp only [List.map_cons, PyData.canLayAll0, PyData.canLay0, lay_ints, lay_tups l, Bool.and_self]
theorem shaped_tup (z : List Int) : SeqAt.shaped (.tuple (z.map PyData.int)) = true := by
  show (PyData.canLay0 _ && decide (PyData.depth _ ≤ 64)) = true
  rw [Bool.and_eq_true]
  refine ⟨by simp only [PyData.canLay0]; exact lay_ints z, decide_eq_true ?_⟩
  simp only [PyData.depth, depth_ints]
  omega
theorem shaped_tups (l : List (List Int)) : SeqAt.shaped (.list (l.map fun z => PyData.tuple (z.map PyData.int))) = true := by
  have h := depth_tups l
  show (PyData.canLay0 _ && decide (PyData.depth _ ≤ 64)) = true
  rw [Bool.and_eq_true]
  refine ⟨by simp only [PyData.canLay0]; exact lay_tups l, decide_eq_true ?_⟩
  simp only [PyData.depth]
  omega
theorem eqv_tup (a b : List Int) : PyData.eqv (.tuple (a.map PyData.int)) (.tuple (b.map PyData.int)) = decide (a = b) := by
  have e := PySem.W.Datum.eqv (α := PySem.W.Tup Int) ⟨a⟩ ⟨b⟩
  have e2 : PyData.eqv (.tuple (a.map PyData.int)) (.tuple (b.map PyData.int)) = decide ((⟨a⟩ : PySem.W.Tup Int) = ⟨b⟩) := e
  rw [e2]
  exact decide_eq_decide.mpr ⟨fun h => by injection h, fun h => by rw [h]⟩
theorem listLt_cons (x y : Int) (xs ys : List Int) : PySem.W.listLt (x :: xs) (y :: ys) = if x = y then PySem.W.listLt xs ys else decide (x < y) := rfl
theorem listLt_trans : ∀ a b c : List Int, PySem.W.listLt a b = true → PySem.W.listLt b c = true → PySem.W.listLt a c = true
  | [], [], _, h, _ => by cases h
  | [], _ :: _, [], _, h => by cases h
  | [], _ :: _, _ :: _, _, _ => rfl
  | _ :: _, [], _, h, _ => by cases h
  | _ :: _, _ :: _, [], _, h => by cases h
  | x :: xs, y :: ys, z :: zs, h, g => by
    rw [listLt_cons] at h g ⊢
    by_cases e1 : x = y
    · rw [if_pos e1] at h
      by_cases e2 : y = z
      · rw [if_pos e2] at g
        rw [if_pos (e1.trans e2)]
        exact listLt_trans xs ys zs h g
      · rw [if_neg e2] at g
        rw [e1, if_neg e2]
        exact g
    · rw [if_neg e1] at h
      by_cases e2 : y = z
      · rw [← e2, if_neg e1]
        exact h
      · rw [if_neg e2] at g
        have h' := of_decide_eq_true h
        have g' := of_decide_eq_true g
        rw [if_neg (by omega)]
        exact decide_eq_true (by omega)
theorem minL_go : ∀ (r : List (List Int)) (x : List Int), (r.foldl (fun a y => if PySem.W.listLt y a = true then y else a) x ∈ x :: r) ∧ ∀ y ∈ x :: r, PySem.W.listLt y (r.foldl (fun a y => if PySem.W.listLt y a = true then y else a) x) = false := by
  have irr : ∀ x : List Int, PySem.W.listLt x x = false := by
    intro x
    induction x with
    | nil => rfl
    | cons a x ih =>
      rw [listLt_cons, if_pos rfl]
      exact ih
  have go : ∀ (r : List (List Int)) (x : List Int), (r.foldl (fun a y => if PySem.W.listLt y a = true then y else a) x = x ∨ r.foldl (fun a y => if PySem.W.listLt y a = true then y else a) x ∈ r) ∧
      (∀ z, PySem.W.listLt z x = false → PySem.W.listLt z (r.foldl (fun a y => if PySem.W.listLt y a = true then y else a) x) = false) ∧ ∀ y ∈ r, PySem.W.listLt y (r.foldl (fun a y => if PySem.W.listLt y a = true then y else a) x) = false := by
    intro r
    induction r with
    | nil => exact fun x => ⟨.inl rfl, fun _ h => h, fun _ h => by cases h⟩
    | cons a r ih =>
      intro x
      rw [List.foldl_cons]
      by_cases h : PySem.W.listLt a x = true
      · rw [if_pos h]
        obtain ⟨h1, h2, h3⟩ := ih a
        refine ⟨?_, fun z hz => h2 z ?_, fun y hy => ?_⟩
        · rcases h1 with e | e
          · rw [e]
            exact .inr (List.mem_cons_self ..)
          · exact .inr (List.mem_cons_of_mem _ e)
        · cases q : PySem.W.listLt z a with
          | false => rfl
          | true =>
            rw [listLt_trans _ _ _ q h] at hz
            cases hz
        · rcases List.mem_cons.mp hy with e | e
          · rw [e]
            exact h2 a (irr a)
          · exact h3 y e
      · rw [if_neg h]
        obtain ⟨h1, h2, h3⟩ := ih x
        refine ⟨?_, h2, fun y hy => ?_⟩
        · rcases h1 with e | e
          · exact .inl e
          · exact .inr (List.mem_cons_of_mem _ e)
        · rcases List.mem_cons.mp hy with e | e
          · rw [e]
            exact h2 a (by simpa using h)
          · exact h3 y e
  intro r x
  obtain ⟨h1, h2, h3⟩ := go r x
  refine ⟨?_, fun y hy => ?_⟩
  · rcases h1 with e | e
    · rw [e]
      exact List.mem_cons_self ..
    · exact List.mem_cons_of_mem _ e
  · rcases List.mem_cons.mp hy with e | e
    · rw [e]
      exact h2 x (irr x)
    · exact h3 y e
/-! ### keys -/
def keyM (x : Frac) (l : KA.LineM) : List Int := [KA.val x l.2, (l.2.2 : Int), (l.1 : Int)]
theorem key_best {x : Frac} {l o : KA.LineM} (h : PySem.W.listLt (keyM x o) (keyM x l) = false) : KA.keyLe x l o := by
  unfold keyM at h
  rw [listLt_cons, listLt_cons, listLt_cons] at h
  unfold KA.keyLe
  by_cases h1 : KA.val x o.2 = KA.val x l.2
  · rw [if_pos h1] at h
    by_cases h2 : (o.2.2 : Int) = (l.2.2 : Int)
    · rw [if_pos h2] at h
      by_cases h3 : (o.1 : Int) = (l.1 : Int)
      · exact .inr ⟨h1.symm, .inr ⟨by omega, by omega⟩⟩
      · rw [if_neg h3] at h
        have := of_decide_eq_false h
        exact .inr ⟨h1.symm, .inr ⟨by omega, by omega⟩⟩
    · rw [if_neg h2] at h
      have := of_decide_eq_false h
      exact .inr ⟨h1.symm, .inl (by omega)⟩
  · rw [if_neg h1] at h
    have := of_decide_eq_false h
    exact .inl (by omega)
/-! ### promises -/
section
variable (d : Ad)
def sp_greatest_divisor : Sp := fun vs H Q _ => ∃ a b : Nat, vs = [nV a, nV b] ∧ RetV (nV (Nat.gcd a b)) H Q
def sp_fraction : Sp := fun vs H Q _ => ∃ a b : Nat, vs = [nV a, nV b] ∧ 0 < b ∧ b < 2 ^ 29 ∧ RetU (frV (frac (a : Int) b)) H Q
def sp_Line_init : Sp := fun vs H Q _ => ∃ (a dx : Addr) (l : KA.LineM), vs = [.ref a, nV l.1, nV l.2.1, nV l.2.2] ∧ H a = some (.ins d.cLine dx []) ∧ ∀ H', Off a H H' → LineAt d H' a l → Q .non H'
def sp_key_at : Sp := fun vs H Q _ => ∃ (a p : Addr) (l : KA.LineM) (x : Frac), vs = [.ref a, .ref p] ∧ LineAt d H a l ∧ H p = some (.tup (frV x)) ∧ Small x ∧ RetU ((keyM x l).map V.int) H Q
def sp_lines_of : Sp := fun vs H Q _ => ∃ (a : Addr) (z : Vamvse.Held) (r q : Nat), vs = [.ref a, nV r, nV q] ∧ ChoiceAt d H a z ∧ HeldOk z ∧ q < z.t.asks.length ∧
  ∀ p H2, Ex H H2 → LinesAt d H2 p ((Vamvse.fitting z.t z.cs r).zip ((Vamvse.fitting z.t z.cs r).map (Vamvse.lineOf z.t z.cs q))) → Q (.ref p) H2
def sp_meeting : Sp := fun vs H Q _ => ∃ (a b : Addr) (l o : KA.LineM), vs = [.ref a, .ref b] ∧ LineAt d H a l ∧ LineAt d H b o ∧ l.2.1 < o.2.1 ∧ o.2.2 < l.2.2 ∧ l.2.2 < 2 ^ 29 ∧ RetU (frV (KA.meetM l.2 o.2)) H Q
def sp_is_less : Sp := fun vs H Q _ => ∃ (p q : Addr) (x y : Frac), vs = [.ref p, .ref q] ∧ H p = some (.tup (frV x)) ∧ H q = some (.tup (frV y)) ∧ Small x ∧ Small y ∧ RetV (.bl (less x y)) H Q
/-- what lines must keep: small numbers, a sets' number once -/
structure LinesOk (ls : List KA.LineM) : Prop where
  few : ls.length ≤ 16
  small : ∀ l ∈ ls, l.2.1 < 2 ^ 29 ∧ l.2.2 < 2 ^ 29
  once : ∀ a ∈ ls, ∀ b ∈ ls, a.1 = b.1 → a = b
def sp_piece_end : Sp := fun vs H Q _ => ∃ (a b : Addr) (ls : List KA.LineM) (l : KA.LineM), vs = [.ref a, .ref b] ∧ LinesAt d H a ls ∧ LineAt d H b l ∧ LinesOk ls ∧ l ∈ ls ∧ (∀ o ∈ ls, o.2.2 < l.2.2 → l.2.1 < o.2.1) ∧ RetU (frV (KA.endM ls l)) H Q
def PieceAt (H : Hp) (r : Addr) (p : Vamvse.Piece) : Prop := ∃ fa ta : Addr, H r = some (.tup [nV p.s, .ref fa, .ref ta]) ∧ H fa = some (.tup (frV p.from_)) ∧ H ta = some (.tup (frV p.to))
def PiecesAt (H : Hp) (a : Addr) (ps : List Vamvse.Piece) : Prop := ∃ rs : List Addr, H a = some (.lst (rs.map V.ref)) ∧ Paired (fun r p => PieceAt H r p) rs ps
def sp_pieces_of : Sp := fun vs H Q _ => ∃ (a : Addr) (ls : List KA.LineM) (ps : List Vamvse.Piece), vs = [.ref a] ∧ LinesAt d H a ls ∧ LinesOk ls ∧ KA.Run ls (whole 0) ps ∧ ps.length ≤ 100 ∧ ∀ p H2, Ex H H2 → PiecesAt H2 p ps → Q (.ref p) H2
end
theorem PieceAt.mono {H H' : Hp} {r : Addr} {p : Vamvse.Piece} (e : Ex H H') (h : PieceAt H r p) : PieceAt H' r p := by
  obtain ⟨fa, ta, h1, h2, h3⟩ := h
  exact ⟨fa, ta, e _ _ h1, e _ _ h2, e _ _ h3⟩
theorem meet_small {l o : KA.LineM} (h1 : l.2.1 < o.2.1) (h2 : o.2.2 < l.2.2) (h3 : o.2.1 < 2 ^ 29) (h4 : l.2.2 < 2 ^ 29) : Small (KA.meetM l.2 o.2) := by
  have e : (o.2.1 : Int) - (l.2.1 : Int) = ((o.2.1 - l.2.1 : Nat) : Int) := by omega
  unfold KA.meetM
  rw [e, KA.frac_nat _ _ (by omega)]
  have d1 := Nat.div_le_self (o.2.1 - l.2.1) (Nat.gcd (o.2.1 - l.2.1) (l.2.2 - o.2.2))
  have d2 := Nat.div_le_self (l.2.2 - o.2.2) (Nat.gcd (o.2.1 - l.2.1) (l.2.2 - o.2.2))
  refine ⟨Int.natCast_nonneg _, ?_, ?_⟩
  · show (((o.2.1 - l.2.1) / Nat.gcd (o.2.1 - l.2.1) (l.2.2 - o.2.2) : Nat) : Int) < 2 ^ 40
    omega
  · show (l.2.2 - o.2.2) / Nat.gcd (o.2.1 - l.2.1) (l.2.2 - o.2.2) < 2 ^ 40
    omega
theorem end_small {ls : List KA.LineM} (hk : LinesOk ls) {l : KA.LineM} (hl : l ∈ ls) (hb : ∀ o ∈ ls, o.2.2 < l.2.2 → l.2.1 < o.2.1) : ∀ n : Nat, Small ((ls.take n).foldl (fun e o => if o.2.2 < l.2.2 ∧ less (KA.meetM l.2 o.2) e = true then KA.meetM l.2 o.2 else e) (whole 100)) := by
  intro n
  have sub : ∀ o ∈ ls.take n, o ∈ ls := fun o ho => List.mem_of_mem_take ho
  generalize ls.take n = os at *
  have w100 : Small (whole 100) := ⟨by decide, by decide, by decide⟩
  generalize whole 100 = e at *
  induction os generalizing e with
  | nil => exact w100
  | cons o os ih =>
    rw [List.foldl_cons]
    refine ih (fun q hq => sub q (List.mem_cons_of_mem _ hq)) _ ?_
    split
    · rename_i hc
      have ho := sub o (List.mem_cons_self ..)
      exact meet_small (hb o ho hc.1) hc.1 (hk.small o ho).1 (hk.small l hl).2
    · exact w100
section
variable {P : Program} {w : World} {K : PySem.W.Frag} {mg : Str → Option Value} {base : Heap} {d : Ad}
theorem ok_greatest_divisor (T : Txt K mg d) : FnOk P w K mg base CX0 1 d.f_greatest_divisor d.fd_greatest_divisor P_greatest_divisor sp_greatest_divisor := by
  refine T.F.F_greatest_divisor.ok sc_greatest_divisor (fun vs H Q E h => ?_) (fun cdv A outer s H vs Q E hr h => ⟨t_greatest_divisor K d, dv_greatest_divisor T hr, ?_⟩)
  · obtain ⟨a, b, rfl, _⟩ := h
    rfl
  · obtain ⟨a, b, rfl, k⟩ := h
    refine q_while (fun m σ' H' => ∃ x y : Nat, σ' = [some (nV x), some (nV y)] ∧ m = y ∧ Nat.gcd x y = Nat.gcd a b ∧ Ex H H') b ⟨a, b, rfl, rfl, rfl, Ex.refl H⟩ ?_
    rintro m σ' H' ⟨x, y, rfl, rfl, hg, e⟩
    refine ⟨!decide (V.int (m : Int) = V.int 0), et_test (ev_op (ev_var rfl) ev_c (rv_ne rfl)), fun hb H1 e1 => ⟨_, fun σ2 H2 h => h, ?_⟩, fun hb H1 e1 => ?_⟩
    · have hy : 0 < m := by
        refine Nat.pos_of_ne_zero fun z => ?_
        subst z
        simp at hb
      have hmod : (x : Int) % (m : Int) = ((x % m : Nat) : Int) := by push_cast; rfl
      have ea : EvA (tCons (tVar 1) (tCons (tOp kMod (tVar 0) (tVar 1)) tNil)) [some (nV x), some (nV m)] H1 [nV m, .int ((x : Int) % (m : Int))] := ea_cons (ev_var rfl) (ea_cons (ev_op (ev_var rfl) (ev_var rfl) (rv_mod (by omega))) ea_nil)
      refine ea H1 (Ex.refl H1) _ fun H2 e2 => ⟨_, _, rfl, x % m, Nat.mod_lt _ hy, m, x % m, ?_, rfl, ?_, (e.trans e1).trans e2⟩
      · rw [hmod]
        rfl
      · rw [← hg, Nat.gcd_comm x m, Nat.gcd_rec m x, Nat.gcd_comm]
    · have hy : m = 0 := by
        by_cases z : m = 0
        · exact z
        · have : ¬ (V.int (m : Int) = V.int 0) := fun q => by
            injection q with q
            omega
          rw [decide_eq_false this] at hb
          cases hb
      subst hy
      refine s_ret (ev_var rfl) fun H2 e2 => ?_
      rw [← Nat.gcd_zero_right x, hg]
      exact k H2 ((e.trans e1).trans e2)
theorem ok_fraction (T : Txt K mg d) : FnOk P w K mg base CX0 2 d.f_fraction d.fd_fraction P_fraction sp_fraction := by
  refine T.F.F_fraction.ok sc_fraction (fun vs H Q E h => ?_) (fun cdv A outer s H vs Q E hr h => ⟨t_fraction K d sp_greatest_divisor, dv_fraction T (ok_greatest_divisor T) hr, ?_⟩)
  · obtain ⟨a, b, rfl, _⟩ := h
    rfl
  · obtain ⟨a, b, rfl, hb, hb2, k⟩ := h
    have hg : 0 < Nat.gcd a b := Nat.gcd_pos_of_pos_right a hb
    have hg2 : Nat.gcd a b ≤ b := Nat.gcd_le_right a hb
    refine q_asg (v := nV (Nat.gcd a b)) (ev_call (ea_cons (ev_var rfl) (ea_cons (ev_var rfl) ea_nil)) (fun H1 e Q q E => ⟨a, b, rfl, q⟩)) fun H1 e1 => ?_
    refine s_retU (eu_is (eu_tup (ea_cons (ev_op (ev_var rfl) (ev_var rfl) (rv_div ⟨by omega, by omega⟩)) (ea_cons (ev_op (ev_var rfl) (ev_var rfl) (rv_div ⟨by omega, by omega⟩)) ea_nil)) (by show 2 ≤ 100000; decide)) ?_) fun p H2 hp e2 h2 => k p H2 (fresh_back e1 hp) (e1.trans e2) h2
    rw [KA.frac_nat a b hb]
    rfl
theorem ok_Line_init (T : Txt K mg d) : FnOk P w K mg base CX0 1 d.f_Line_init d.fd_Line_init P_Line_init (sp_Line_init d) := by
  refine T.F.F_Line_init.ok sc_Line_init (fun vs H Q E h => ?_) (fun cdv A outer s H vs Q E hr h => ⟨t_Line_init K d, dv_Line_init T hr, ?_⟩)
  · obtain ⟨a, dx, l, rfl, _⟩ := h
    rfl
  · obtain ⟨a, dx, l, rfl, hI, k⟩ := h
    refine ⟨_, rfl, _, rfl, a, d.cLine, dx, _, rfl, hI, T.C.cl_Line, T.C.n_Line_number, (by show 0 < 1000; decide), ?_⟩
    refine ⟨_, rfl, _, rfl, a, d.cLine, dx, _, rfl, upd_same, T.C.cl_Line, T.C.n_Line_begin, (by show 1 < 1000; decide), ?_⟩
    refine ⟨_, rfl, _, rfl, a, d.cLine, dx, _, rfl, upd_same, T.C.cl_Line, T.C.n_Line_slope, (by show 2 < 1000; decide), ?_⟩
    rw [upd_upd, upd_upd, nw_Line]
    exact k _ Off.upd ⟨dx, upd_same⟩
theorem er_line {σ : L2.St} {H : Hp} {ta : TA} {n b s : Nat} (h : EvA ta σ H [nV n, nV b, nV s]) : EvR (tMake d.cLine (sp_Line_init d) [] E0 ta) σ H (fun p H2 => LineAt d H2 p (n, (b, s))) := fun H1 e Q q =>
  h H1 e _ fun H2 e2 => fun x dx nx nd ne => ⟨x, dx, (n, (b, s)), rfl, upd_same, fun H' off hl => ⟨rfl, q x H' (fresh_back e2 nx) (e2.trans (made_ex nx nd off)) hl⟩⟩
theorem ok_key_at (T : Txt K mg d) : FnOk P w K mg base CX0 1 d.f_Line_key_at d.fd_Line_key_at P_Line_key_at (sp_key_at d) := by
  refine T.F.F_Line_key_at.ok sc_Line_key_at (fun vs H Q E h => ?_) (fun cdv A outer s H vs Q E hr h => ⟨t_Line_key_at K d, dv_Line_key_at T hr, ?_⟩)
  · obtain ⟨a, p, l, x, rfl, _⟩ := h
    rfl
  · obtain ⟨a, p, l, x, rfl, ⟨dx, hI⟩, hp, hs, k⟩ := h
    have h1 := hs.lo
    have h2 := hs.hi
    have h3 := hs.den
    refine s_retU (eu_is (eu_tup (ea_cons (ev_op (ev_op (ev_Line_begin T (ev_var rfl) hI) (ev_op (ev_var rfl) ev_c (rv_ixT (st_of hp) (atI_nat (j := 1) rfl))) (rv_mul (.inr ⟨by omega, by omega⟩))) (ev_op (ev_Line_slope T (ev_var rfl) hI) (ev_op (ev_var rfl) ev_c (rv_ixT (st_of hp) (atI_nat (j := 0) rfl))) (rv_mul (.inr ⟨by omega, by omega⟩))) rv_add) (ea_cons (ev_Line_slope T (ev_var rfl) hI) (ea_cons (ev_Line_number T (ev_var rfl) hI) ea_nil))) (by show 3 ≤ 100000; decide)) ?_) k
    rfl
theorem ok_is_less (T : Txt K mg d) : FnOk P w K mg base CX0 1 d.f_is_less d.fd_is_less P_is_less sp_is_less := by
  refine T.F.F_is_less.ok sc_is_less (fun vs H Q E h => ?_) (fun cdv A outer s H vs Q E hr h => ⟨t_is_less K d, dv_is_less T hr, ?_⟩)
  · obtain ⟨p, q, x, y, rfl, _⟩ := h
    rfl
  · obtain ⟨p, q, x, y, rfl, hp, hq, hx, hy, k⟩ := h
    have a1 := hx.lo
    have a2 := hx.hi
    have b1 := hy.lo
    have b2 := hy.hi
    exact s_ret (ev_is (ev_op (ev_op (ev_op (ev_var rfl) ev_c (rv_ixT (st_of hp) (atI_nat (j := 0) rfl))) (ev_op (ev_var rfl) ev_c (rv_ixT (st_of hq) (atI_nat (j := 1) rfl))) (rv_mul (.inl ⟨by omega, by omega⟩))) (ev_op (ev_op (ev_var rfl) ev_c (rv_ixT (st_of hq) (atI_nat (j := 0) rfl))) (ev_op (ev_var rfl) ev_c (rv_ixT (st_of hp) (atI_nat (j := 1) rfl))) (rv_mul (.inl ⟨by omega, by omega⟩))) rv_lt) rfl) k
theorem ok_meeting (T : Txt K mg d) : FnOk P w K mg base CX0 3 d.f_meeting d.fd_meeting P_meeting (sp_meeting d) := by
  refine T.F.F_meeting.ok sc_meeting (fun vs H Q E h => ?_) (fun cdv A outer s H vs Q E hr h => ⟨t_meeting K d sp_fraction, dv_meeting T (ok_fraction T) hr, ?_⟩)
  · obtain ⟨a, b, l, o, rfl, _⟩ := h
    rfl
  · obtain ⟨a, b, l, o, rfl, ⟨dx, hI⟩, ⟨dy, hJ⟩, h1, h2, h3, k⟩ := h
    have e1 : (o.2.1 : Int) - (l.2.1 : Int) = ((o.2.1 - l.2.1 : Nat) : Int) := by omega
    have e2 : (l.2.2 : Int) - (o.2.2 : Int) = ((l.2.2 - o.2.2 : Nat) : Int) := by omega
    refine s_retU (eu_call (vs := [nV (o.2.1 - l.2.1), nV (l.2.2 - o.2.2)]) (ea_cons (ev_is (ev_op (ev_Line_begin T (ev_var rfl) hJ) (ev_Line_begin T (ev_var rfl) hI) rv_sub) (by rw [e1])) (ea_cons (ev_is (ev_op (ev_Line_slope T (ev_var rfl) hI) (ev_Line_slope T (ev_var rfl) hJ) rv_sub) (by rw [e2])) ea_nil)) (fun H1 e Q q E => ⟨_, _, rfl, by omega, by omega, fun p H2 hp e3 h4 => q p H2 hp e3 ?_⟩)) k
    rw [h4]
    unfold KA.meetM
    rw [e1]
end
end KW
end
section
/-! # lines of sets, ends of pieces, all pieces -/
namespace KW
open PySem PySem.Spec PyProof.Rows L2 Evl
open VamvsBase (Frac less whole frac)
/-- what all questions but one cost, of the first n -/
def beginM (z : Vamvse.Held) (s q n : Nat) : Nat := (((z.t.asks.take n).zipIdx.filter fun x => x.2 != q).map fun x => x.1.k * Vamvsa.costOf z.t (Vamvse.setOf z.cs s) x.1.g).sum
theorem begin_next {z : Vamvse.Held} {s q n : Nat} {a : Vamvsa.Ask} (h : z.t.asks[n]? = some a) : beginM z s q (n + 1) = beginM z s q n + (if n ≠ q then a.k * Vamvsa.costOf z.t (Vamvse.setOf z.cs s) a.g else 0) := by
  unfold beginM
  rw [zipIdx_take h, List.filter_append, List.map_append, List.sum_append_nat, List.filter_cons]
  by_cases hb : n ≠ q
  · rw [if_pos hb, if_pos (show ((a, n).2 != q) = true by simpa using hb)]
    simp
  · rw [if_neg hb, if_neg (show ¬ ((a, n).2 != q) = true by simpa using hb)]
    simp
theorem begin_all (z : Vamvse.Held) (s q : Nat) : beginM z s q z.t.asks.length = (Vamvse.lineOf z.t z.cs q s).1 := by
  unfold beginM
  rw [List.take_length]
  rfl
theorem costOf_le {z : Vamvse.Held} (hz : HeldOk z) {k : List Nat} {g : Nat} : Vamvsa.costOf z.t k g ≤ 16 := by
  have h16 := hz.many
  unfold Vamvsa.costOf
  split
  · exact h16
  · rename_i v _
    have key : ∀ (l : List Vamvsa.Group) (G : List Vamvsa.Group), (l.foldl (fun r x => Vamvsa.putGroup x r) G).length ≤ G.length + l.length := by
      have one : ∀ (x : Vamvsa.Group) (G : List Vamvsa.Group), (Vamvsa.putGroup x G).length ≤ G.length + 1 := by
        intro x G
        induction G with
        | nil => exact Nat.le_refl _
        | cons y r ih =>
          unfold Vamvsa.putGroup
          split
          · exact Nat.le_succ _
          · split
            · exact Nat.le_refl _
            · rw [List.length_cons, List.length_cons]
              omega
      intro l
      induction l with
      | nil => exact fun G => Nat.le_refl _
      | cons x l ih =>
        intro G
        rw [List.foldl_cons, List.length_cons]
        have h1 := ih (Vamvsa.putGroup x G)
        have h2 := one x G
        omega
    have h := key (z.t.rows.map fun r => ⟨Vamvsa.keyOf (Vamvsa.width z.t) v r.vs, r.m, 1⟩) []
    rw [List.length_map] at h
    have h' : Vamvsa.sizeOf_ z.t v ≤ 0 + z.t.rows.length := h
    omega
theorem sum_le {n : Nat} : ∀ l : List Nat, (∀ x ∈ l, x ≤ n) → l.sum ≤ n * l.length
  | [], _ => Nat.zero_le _
  | x :: l, h => by
    have h1 := sum_le l fun y hy => h y (List.mem_cons_of_mem _ hy)
    have h2 := h x (List.mem_cons_self ..)
    rw [List.sum_cons, List.length_cons, Nat.mul_succ]
    omega
theorem line_small {z : Vamvse.Held} (hz : HeldOk z) (q s : Nat) : (Vamvse.lineOf z.t z.cs q s).1 < 2 ^ 29 ∧ (Vamvse.lineOf z.t z.cs q s).2 < 2 ^ 29 := by
  constructor
  · rw [← begin_all]
    unfold beginM
    rw [List.take_length]
    refine Nat.lt_of_le_of_lt (sum_le (n := 99 * 16) _ fun x hx => ?_) ?_
    · obtain ⟨⟨a, i⟩, ha, rfl⟩ := List.mem_map.mp hx
      have h1 := (List.mem_filter.mp ha).1
      have h2 := List.mem_zipIdx_iff_getElem?.mp h1
      exact Nat.mul_le_mul (hz.asked a (List.mem_of_getElem? h2)).2 (costOf_le hz)
    · rw [List.length_map]
      have h1 := List.length_filter_le (fun x : Vamvsa.Ask × Nat => x.2 != q) z.t.asks.zipIdx
      rw [List.length_zipIdx] at h1
      have := hz.asks
      omega
  · show ((z.t.asks[q]?).map fun a => Vamvsa.costOf z.t (Vamvse.setOf z.cs s) a.g).getD 0 < _
    cases z.t.asks[q]? with
    | none => exact (by decide : 0 < 2 ^ 29)
    | some a => exact Nat.lt_of_le_of_lt (costOf_le hz) (by decide)
theorem lines_ok {z : Vamvse.Held} (hz : HeldOk z) (r q : Nat) : LinesOk ((Vamvse.fitting z.t z.cs r).zip ((Vamvse.fitting z.t z.cs r).map (Vamvse.lineOf z.t z.cs q))) := by
  refine ⟨?_, fun l hl => ?_, ?_⟩
  · obtain ⟨fr, hfit⟩ := KA.fitting_cons z.t z.cs r
    have := fit_len hz hfit
    rw [List.length_zip, List.length_map, Nat.min_self, hfit, List.length_cons]
    omega
  · obtain ⟨s, _, e⟩ := List.mem_map.mp (List.of_mem_zip (show (l.1, l.2) ∈ _ from hl)).2
    rw [← e]
    exact line_small hz q s
  · refine KA.zip_uniq ?_ (by rw [List.length_map]; exact Nat.le_refl _)
    unfold Vamvse.fitting Vamvse.setsOf
    exact List.Pairwise.filter _ List.pairwise_lt_range
section
variable {P : Program} {w : World} {K : PySem.W.Frag} {mg : Str → Option Value} {base : Heap} {d : Ad}
theorem ok_lines_of (T : Txt K mg d) : FnOk P w K mg base CX0 3 d.f_lines_of d.fd_lines_of P_lines_of (sp_lines_of d) := by
  refine T.F.F_lines_of.ok sc_lines_of (fun vs H Q E h => ?_) (fun cdv A outer s H vs Q E hr h => ⟨t_lines_of K d (sp_fitting d) (sp_cost d) (sp_Line_init d), dv_lines_of T (ok_fitting T) (ok_cost T) (ok_Line_init T) hr, ?_⟩)
  · obtain ⟨a, z, r, q, rfl, _⟩ := h
    rfl
  · obtain ⟨a, z, r, q, rfl, hC, hz, hq, k⟩ := h
    have hC0 := hC
    obtain ⟨dx, ta, ca, za, da, hI, ⟨dxt, cola, ra, qa, hIt, hcol, hrw, ⟨qr, hqa, hqq⟩⟩, hc, hs, hd⟩ := hC
    have hlq : qr.length = z.t.asks.length := pair_len hqq
    obtain ⟨fr, hfit⟩ := KA.fitting_cons z.t z.cs r
    have hfr := fit_len hz hfit
    have hflen : (Vamvse.fitting z.t z.cs r).length ≤ 16 := by rw [hfit, List.length_cons]; omega
    obtain ⟨qo, hqo⟩ : ∃ qo, z.t.asks[q]? = some qo := ⟨_, List.getElem?_eq_getElem hq⟩
    obtain ⟨qaddr, hqad, dq, hqI⟩ := pair_get hqq hqo
    refine q_asgL (el_lst ea_nil (by decide)) fun fl H1 hfl0 e1 hfl => ?_
    refine q_forNLn (el_methG (ev_var rfl) (e1.at hI) (no_Choice_fitting ..) (ea_cons (ev_var rfl) ea_nil) (spl_fitting (hC0.mono e1) hz)) (fun sl n σ' H' => ∃ v4 v5 v6 v7 : Option V, σ' = [some (.ref a), some (nV r), some (nV q), some (.ref fl), v4, v5, v6, v7] ∧ Ex H H' ∧ H' sl = some (.lst ((Vamvse.fitting z.t z.cs r).map nV)) ∧ sl ≠ fl ∧
        ∃ rs : List Addr, H' fl = some (.lst (rs.map V.ref)) ∧ Paired (fun r l => LineAt d H' r l) rs (((Vamvse.fitting z.t z.cs r).take n).map fun s => (s, Vamvse.lineOf z.t z.cs q s)))
      (fun sl H2 hsl e2 h2 => ⟨none, none, none, none, rfl, e1.trans e2, h2, (fun y => by rw [y, hfl] at hsl; cases hsl), [], e2.at hfl, .nil⟩) (fun sl n σ' H' hn ⟨_, _, _, _, _, _, h, _⟩ => sq_of h) ?_ ?_
    · rintro sl n x σ' H2 hx ⟨v4, v5, v6, v7, rfl, e2, hsl, hne, rs, hrs, hpp⟩
      obtain ⟨s, hsn, rfl⟩ := nV_at hx
      refine q_asg ev_c fun H3 e3 => ?_
      refine q_forEn (ev_Table_questions T (ev_Choice_table T (ev_var rfl) ((e2.trans e3).at hI)) ((e2.trans e3).at hIt)) (sq_of ((e2.trans e3).at hqa)) (fun m σ' H' => ∃ v6 v7 : Option V, σ' = [some (.ref a), some (nV r), some (nV q), some (.ref fl), some (nV s), some (nV (beginM z s q m)), v6, v7] ∧ Ex H2 H')
        (fun H4 e4 => ⟨v6, v7, rfl, e3.trans e4⟩) (fun m σ' H' hm ⟨_, _, _, e⟩ => sq_of ((e2.trans e).at hqa)) ?_ ?_
      · rintro m x σ' H4 H5 hx ⟨v6', v7', rfl, e4⟩ e5
        obtain ⟨qaddr2, hq1, rfl⟩ := ref_at hx
        obtain ⟨qm, hqm, dqm, hqI2⟩ := paired_get hqq hq1
        have e05 := e2.trans (e4.trans e5)
        have hst := begin_next (s := s) (q := q) hqm
        have hb := hz.asked qm (List.mem_of_getElem? hqm)
        refine s_when (et_test (ev_op (ev_var rfl) (ev_var rfl) (rv_ne rfl))) (fun hbb H6 e6 => ?_) (fun hbb H6 e6 => ⟨some (nV m), some (.ref qaddr2), ?_, (e4.trans e5).trans e6⟩)
        · have hmq : m ≠ q := fun y => by
            subst y
            simp at hbb
          have e06 := e05.trans e6
          refine s_aug rfl (ev_op (ev_Question_often T (ev_var rfl) (e06.at hqI2)) (ev_methG (ev_var rfl) (e06.at hI) (no_Choice_cost ..) (ea_cons (ev_Question_grouping T (ev_var rfl) (e06.at hqI2)) (ea_cons (ev_var rfl) ea_nil)) (spv_cost (s := s) (hC0.mono e06) hz hb.1)) (rv_mul (.inl ⟨by omega, by omega⟩))) fun H7 e7 => ⟨some (nV m), some (.ref qaddr2), ?_, ((e4.trans e5).trans e6).trans e7⟩
          rw [hst, if_pos hmq]
          show _ = [_, _, _, _, _, some (V.int (((_ + _ * _ : Nat)) : Int)), _, _]
          push_cast
          rfl
        · have hmq : m = q := by
            by_cases y : m = q
            · exact y
            · have : ¬ (V.int (m : Int) = V.int (q : Int)) := fun p => by
                injection p with p
                omega
              rw [decide_eq_false this] at hbb
              cases hbb
          rw [hst, if_neg (by rw [hmq]; simp)]
          rfl
      · rintro σ' H4 ⟨v6', v7', rfl, e4⟩
        rw [List.length_map, hlq, begin_all]
        have e04 := e2.trans e4
        have hbq := hz.asked qo (List.mem_of_getElem? hqo)
        have hslope : (Vamvse.lineOf z.t z.cs q s).2 = Vamvsa.costOf z.t (Vamvse.setOf z.cs s) qo.g := by
          show ((z.t.asks[q]?).map fun a => Vamvsa.costOf z.t (Vamvse.setOf z.cs s) a.g).getD 0 = _
          rw [hqo]
          rfl
        refine s_appR (e4.at hrs) (ev_var rfl) (er_line (n := s) (b := (Vamvse.lineOf z.t z.cs q s).1) (s := Vamvsa.costOf z.t (Vamvse.setOf z.cs s) qo.g) (ea_cons (ev_var rfl) (ea_cons (ev_var rfl) (ea_cons (ev_methG (ev_var rfl) (e04.at hI) (no_Choice_cost ..) (ea_cons (ev_Question_grouping T (ev_op (ev_Table_questions T (ev_Choice_table T (ev_var rfl) (e04.at hI)) (e04.at hIt)) (ev_var rfl) (rv_ixL (sq_of (e04.at hqa)) (atI_nat (j := q) (by rw [List.getElem?_map, hqad]; rfl)))) (e04.at hqI)) (ea_cons (ev_var rfl) ea_nil)) (spv_cost (s := s) (hC0.mono e04) hz hbq.1)) ea_nil))))
          (by
            have h1 := pair_len hpp
            rw [List.length_map, List.length_take] at h1
            rw [List.length_map]
            omega) fun p H5 hp e5 hL => ⟨_, _, _, _, rfl, Ex.mut (e04.trans e5) hfl0, ?_, hne, rs ++ [p], by rw [List.map_append]; exact upd_same, ?_⟩
        · rw [upd_ne hne]
          exact (e4.trans e5).at hsl
        · have hfl5 : H5 fl = some (.lst (rs.map V.ref)) := (e4.trans e5).at hrs
          have keep : ∀ r l, LineAt d H5 r l → LineAt d (upd H5 fl (.lst (rs.map V.ref ++ [.ref p]))) r l := fun r l ⟨dl, hl⟩ => ⟨dl, by
            rw [upd_ne (fun y => by rw [y, hfl5] at hl; cases hl)]
            exact hl⟩
          rw [take_next hsn, List.map_append]
          refine pair_app (pair_imp hpp fun r l q => keep r l (q.mono (e4.trans e5))) (keep _ _ ?_)
          show LineAt d H5 p (s, Vamvse.lineOf z.t z.cs q s)
          have e9 : Vamvse.lineOf z.t z.cs q s = ((Vamvse.lineOf z.t z.cs q s).1, Vamvsa.costOf z.t (Vamvse.setOf z.cs s) qo.g) := by rw [← hslope]
          rw [e9]
          exact hL
    · rintro sl σ' H2 ⟨v4, v5, v6, v7, rfl, e2, hsl, hne, rs, hrs, hpp⟩
      refine s_ret (ev_var rfl) fun H3 e3 => k fl H3 (e2.trans e3) ⟨rs, e3.at hrs, ?_⟩
      rw [List.length_map, List.take_length] at hpp
      have e9 : (Vamvse.fitting z.t z.cs r).zip ((Vamvse.fitting z.t z.cs r).map (Vamvse.lineOf z.t z.cs q)) = (Vamvse.fitting z.t z.cs r).map fun s => (s, Vamvse.lineOf z.t z.cs q s) := by
        rw [List.zip_map_right]
        generalize Vamvse.fitting z.t z.cs r = l
        induction l with
        | nil => rfl
        | cons x l ih =>
          rw [List.zip_cons_cons, List.map_cons, List.map_cons, ih]
          rfl
      rw [e9]
      exact pair_imp hpp fun r l q => q.mono e3
theorem ok_piece_end (T : Txt K mg d) : FnOk P w K mg base CX0 4 d.f_piece_end d.fd_piece_end P_piece_end (sp_piece_end d) := by
  refine T.F.F_piece_end.ok sc_piece_end (fun vs H Q E h => ?_) (fun cdv A outer s H vs Q E hr h => ⟨t_piece_end K d sp_is_less (sp_meeting d), dv_piece_end T (ok_is_less T) (ok_meeting T) hr, ?_⟩)
  · obtain ⟨a, b, ls, l, rfl, _⟩ := h
    rfl
  · obtain ⟨a, b, ls, l, rfl, ⟨rs, hrs, hpp⟩, hL, hk, hl, hb, k⟩ := h
    obtain ⟨dl, hI⟩ := id hL
    refine q_asgU (eu_tup (ea_cons ev_c (ea_cons ev_c ea_nil)) (by show 2 ≤ 100000; decide)) fun p H1 hp e1 hp1 => ?_
    refine q_forLn (ev_var rfl) (sq_of (e1.at hrs)) (fun n σ' H' => ∃ (v3 : Option V) (f : Addr), σ' = [some (.ref a), some (.ref b), some (.ref f), v3] ∧ Ex H H' ∧ H f = none ∧ H' f = some (.tup (frV ((ls.take n).foldl (fun e o => if o.2.2 < l.2.2 ∧ less (KA.meetM l.2 o.2) e = true then KA.meetM l.2 o.2 else e) (whole 100)))))
      (fun H2 e2 => ⟨none, p, rfl, e1.trans e2, hp, e2.at hp1⟩) (fun n σ' H' hn ⟨_, _, _, e, _⟩ => sq_of (e.at hrs)) ?_ ?_
    · rintro n x σ' H2 hx ⟨v3, f, rfl, e2, hf0, hf⟩
      obtain ⟨oa, hoa, rfl⟩ := ref_at hx
      obtain ⟨o, hon, hO⟩ := paired_get hpp hoa
      obtain ⟨dox, hOI⟩ := id hO
      have hoin := List.mem_of_getElem? hon
      have sm := end_small hk hl hb n
      have hstep : ∀ e0 : Frac, (ls.take (n + 1)).foldl (fun e o => if o.2.2 < l.2.2 ∧ less (KA.meetM l.2 o.2) e = true then KA.meetM l.2 o.2 else e) e0 = (fun e o => if o.2.2 < l.2.2 ∧ less (KA.meetM l.2 o.2) e = true then KA.meetM l.2 o.2 else e) ((ls.take n).foldl (fun e o => if o.2.2 < l.2.2 ∧ less (KA.meetM l.2 o.2) e = true then KA.meetM l.2 o.2 else e) e0) o := fun e0 => by
        rw [take_next hon, List.foldl_append]
        rfl
      have mt : ∀ {σ : L2.St} {H' : Hp} (hs : o.2.2 < l.2.2), Ex H H' → Ev (tVar 1) σ H' (.ref b) → Ev (tVar 3) σ H' (.ref oa) → EvU (tCall (sp_meeting d) [] E0 (tCons (tVar 1) (tCons (tVar 3) tNil))) σ H' (frV (KA.meetM l.2 o.2)) := fun {σ H'} hs e h1 h2 =>
        eu_call (vs := [.ref b, .ref oa]) (ea_cons h1 (ea_cons h2 ea_nil)) (fun H3 e3 Q q E => ⟨b, oa, l, o, rfl, hL.mono (e.trans e3), hO.mono (e.trans e3), hb o hoin hs, hs, (hk.small l hl).2, q⟩)
      refine s_when (b := decide ((o.2.2 : Int) < (l.2.2 : Int)) && less (KA.meetM l.2 o.2) ((ls.take n).foldl (fun e o => if o.2.2 < l.2.2 ∧ less (KA.meetM l.2 o.2) e = true then KA.meetM l.2 o.2 else e) (whole 100)))
        (et_and (et_test (ev_op (ev_Line_slope T (ev_var rfl) (e2.at hOI)) (ev_Line_slope T (ev_var rfl) (e2.at hI)) rv_lt)) (fun hs H3 e3 Q q => ?_)) (fun hbb H3 e3 => ?_) (fun hbb H3 e3 => ⟨_, f, rfl, e2.trans e3, hf0, ?_⟩)
      · have hs' : o.2.2 < l.2.2 := by
          have := of_decide_eq_true hs
          omega
        refine mt hs' (e2.trans e3) (ev_var rfl) (ev_var rfl) H3 (Ex.refl H3) _ fun m H4 hm e4 hm4 => ⟨_, rfl, ⟨m, f, _, _, rfl, hm4, (e3.trans e4).at hf, meet_small (hb o hoin hs') hs' (hk.small o hoin).1 (hk.small l hl).2, sm, fun H5 e5 => ⟨_, rfl, q H5 (e4.trans e5)⟩⟩⟩
      · obtain ⟨h1, h2⟩ := Bool.and_eq_true_iff.mp hbb
        have hs' : o.2.2 < l.2.2 := by
          have := of_decide_eq_true h1
          omega
        refine s_asgU (mt hs' (e2.trans e3) (ev_var rfl) (ev_var rfl)) fun m H4 hm e4 hm4 => ⟨_, m, rfl, (e2.trans e3).trans e4, fresh_back (e2.trans e3) hm, ?_⟩
        rw [hm4, hstep]
        dsimp only
        rw [if_pos ⟨hs', h2⟩]
      · rw [hstep]
        dsimp only
        rw [if_neg (fun y => by
          have h1 : decide ((o.2.2 : Int) < (l.2.2 : Int)) = true := decide_eq_true (by omega)
          rw [h1, y.2] at hbb
          cases hbb)]
        exact e3.at hf
    · rintro σ' H2 ⟨v3, f, rfl, e2, hf0, hf⟩
      have hlen := pair_len hpp
      rw [List.length_map, hlen, List.take_length] at hf
      exact s_ret (ev_var rfl) fun H3 e3 => k f H3 hf0 (e2.trans e3) (e3.at hf)
end
end KW
end
section
/-! # all pieces -/
namespace KW
open PySem PySem.Spec PyProof.Rows L2 Evl
open VamvsBase (Frac less whole frac)
theorem first_at : ∀ (l : List (List Int)) (m : List Int), m ∈ l → ∃ j : Nat, l[j]? = some m ∧ ∀ (i : Nat) (z : List Int), i < j → l[i]? = some z → z ≠ m
  | [], m, h => by cases h
  | x :: l, m, h => by
    by_cases e : x = m
    · exact ⟨0, by rw [e]; rfl, fun i z hi => absurd hi (Nat.not_lt_zero i)⟩
    · rcases List.mem_cons.mp h with q | q
      · exact absurd q.symm e
      · obtain ⟨j, h1, h2⟩ := first_at l m q
        refine ⟨j + 1, h1, fun i z hi hz => ?_⟩
        cases i with
        | zero =>
          have e2 : x = z := Option.some.inj hz
          rw [← e2]
          exact e
        | succ i => exact h2 i z (by omega) hz
theorem q_asgNew {σ : L2.St} {H : Hp} {te : TE} {i n : Nat} {o : Nat → HO} {D : Ends} {tz : TS} (h : ∀ H0, Ex H H0 → ∀ Q : VK, NewL o n H0 Q → te σ H0 Q) (k : ∀ p H2 (ps : List Addr), H p = none → Ex H H2 → H2 p = some (.lst (ps.map V.ref)) → ps.length = n → (∀ m q, ps[m]? = some q → H2 q = some (o m) ∧ H q = none) → tz D (σ.set i (some (.ref p))) H2) :
    tSeq (tAsg te (gName i)) tz D σ H := h H (Ex.refl H) _ fun p H2 ps h1 h2 h3 h4 h5 => k p H2 ps h1 h2 h3 h4 h5
theorem q_appU {K : PySem.W.Frag} {σ : L2.St} {H : Hp} {ta te : TE} {l : Addr} {xs ys : List V} {D : Ends} {tz : TS} (hl : H l = some (.lst xs)) (ha : Ev ta σ H (.ref l)) (h : EvU te σ H ys) (hz : xs.length < 100000) (k : ∀ p H1, H p = none → Ex H H1 → H1 p = some (.tup ys) → tz D σ (upd H1 l (.lst (xs ++ [.ref p])))) :
    tSeq (tDrop (tBM K "list" rAppend ta (tCons te tNil))) tz D σ H := s_appU (D := { D with nx := tz D }) hl ha h hz k
section
variable {P : Program} {w : World} {K : PySem.W.Frag} {mg : Str → Option Value} {base : Heap} {d : Ad}
/-- lines[keys.index(min(keys))] -/
theorem ev_least {σ : L2.St} {H : Hp} {ta tb : TE} {p q : Addr} {rs ks : List Addr} {zs : List (List Int)} (h : Ev ta σ H (.ref p)) (hp : SqL K H p (rs.map V.ref)) (hb : Ev tb σ H (.ref q)) (hq : SqL K H q (ks.map V.ref)) (hk : Paired (fun r z => H r = some (.tup (z.map V.int))) ks zs) (hne : zs ≠ []) (hl : rs.length = zs.length) :
    ∃ (j : Nat) (r : Addr) (z : List Int), rs[j]? = some r ∧ zs[j]? = some z ∧ (∀ y ∈ zs, PySem.W.listLt y z = false) ∧ Ev (tOp (rIxL K) ta (tBM K "list" (rIndexD K) tb (tCons (tCB (rMinT K) (tCons tb tNil)) tNil))) σ H (.ref r) := by
  cases zs with
  | nil => exact absurd rfl hne
  | cons x xs =>
    obtain ⟨h1, h2⟩ := minL_go xs x
    obtain ⟨j, j1, j2⟩ := first_at (x :: xs) _ h1
    have hj : j < rs.length := by
      rw [hl]
      exact (List.getElem?_eq_some_iff.mp j1).1
    obtain ⟨r, hr⟩ : ∃ r, rs[j]? = some r := ⟨_, List.getElem?_eq_getElem hj⟩
    refine ⟨j, r, _, hr, j1, h2, fun H1 e Q k => h H1 e _ fun H2 e2 => hb H2 (e.trans e2) _ fun H3 e3 => ⟨.inl ⟨rfl, _, ex_l ((e.trans e2).trans e3) hq⟩, hb H3 ((e.trans e2).trans e3) _ fun H4 e4 => ?_⟩⟩
    have e04 := ((e.trans e2).trans e3).trans e4
    refine ⟨q, ks, x :: xs, rfl, ex_l e04 hq, pair_imp hk fun a b y => st_of (e04.at y), hne, fun i pp x' xs' hpi hzs hzi => ?_⟩
    injection hzs with z1 z2
    subst z1 z2
    obtain ⟨zz, hzz, hpz⟩ := paired_get hk hpi
    rw [hzi] at hzz
    injection hzz with hzz
    subst hzz
    refine ⟨q, .ref pp, .tuple ((xs.foldl (fun a y => if PySem.W.listLt y a = true then y else a) x).map PyData.int), (x :: xs).map fun z => PyData.tuple (z.map PyData.int), j, _, rfl, rfl, .lst (ex_l e04 hq) (dp_tups (pair_imp hk fun a b y => st_of (e04.at y))), .tup (st_of (e04.at hpz)) (dpAll_ints _), shaped_tups _, shaped_tup _, by rw [List.getElem?_map, j1]; rfl, by rw [eqv_tup]; exact decide_eq_true rfl, fun m z' hm hz' => ?_, ?_⟩
    · rw [List.getElem?_map] at hz'
      cases e9 : (x :: xs)[m]? with
      | none =>
        rw [e9] at hz'
        cases hz'
      | some y =>
        rw [e9] at hz'
        have e10 := (Option.some.inj hz').symm
        subst e10
        rw [eqv_tup]
        exact decide_eq_false (j2 m y hm e9)
    · exact ⟨p, rs.map V.ref, (j : Int), .ref r, rfl, rfl, ex_l e04 hp, atI_nat (by rw [List.getElem?_map, hr]; rfl), k H4 ((e2.trans e3).trans e4)⟩
theorem ok_pieces_of (T : Txt K mg d) : FnOk P w K mg base CX0 5 d.f_pieces_of d.fd_pieces_of P_pieces_of (sp_pieces_of d) := by
  refine T.F.F_pieces_of.ok sc_pieces_of (fun vs H Q E h => ?_) (fun cdv A outer s H vs Q E hr h => ⟨t_pieces_of K d sp_is_less (sp_key_at d) (sp_piece_end d), dv_pieces_of T (ok_is_less T) (ok_key_at T) (ok_piece_end T) hr, ?_⟩)
  · obtain ⟨a, ls, ps, rfl, _⟩ := h
    rfl
  · obtain ⟨a, ls, ps, rfl, hLs, hk, hrun, hps, k⟩ := h
    obtain ⟨rs, hrs, hpp⟩ := id hLs
    have hlen : rs.length = ls.length := pair_len hpp
    have w100 : Small (whole 100) := ⟨by decide, by decide, by decide⟩
    refine q_asgL (el_lst ea_nil (by decide)) fun fl H1 hfl0 e1 hfl => ?_
    refine q_asgU (eu_tup (ea_cons ev_c (ea_cons ev_c ea_nil)) (by show 2 ≤ 100000; decide)) fun p0 H2 hp0 e2 hp02 => ?_
    refine q_while (fun m σ' H' => ∃ (v3 v4 v5 : Option V) (fa : Addr) (x : Frac) (rest dn : List Vamvse.Piece) (qs : List Addr), σ' = [some (.ref a), some (.ref fl), some (.ref fa), v3, v4, v5] ∧ Ex H H' ∧ H' fa = some (.tup (frV x)) ∧ KA.Red x ∧ Small x ∧ KA.Run ls x rest ∧ ps = dn ++ rest ∧ rest.length = m ∧
      H' fl = some (.lst (qs.map V.ref)) ∧ Paired (fun r p => PieceAt H' r p) qs dn) ps.length ⟨none, none, none, p0, whole 0, ps, [], [], rfl, e1.trans e2, hp02, KA.red_whole 0, ⟨by decide, by decide, by decide⟩, hrun, rfl, rfl, e2.at hfl, .nil⟩ ?_
    rintro m σ' H3 ⟨v3, v4, v5, fa, x, rest, dn, qs, rfl, e3, hfa, hred, hsm, hR, hpsd, hm, hfl3, hqs⟩
    refine ⟨less x (whole 100), fun H4 e4 Q q => ?_, fun hb H4 e4 => ⟨_, fun σ2 H5 h => h, ?_⟩, fun hb H4 e4 => ?_⟩
    · have eu : EvU (tTup (tCons (tC (.int 100)) (tCons (tC (.int 1)) tNil))) [some (.ref a), some (.ref fl), some (.ref fa), v3, v4, v5] H4 (frV (whole 100)) := eu_tup (ea_cons ev_c (ea_cons ev_c ea_nil)) (by show 2 ≤ 100000; decide)
      refine ⟨_, rfl, eu H4 (Ex.refl H4) _ fun p H5 hp e5 h5 => ⟨fa, p, x, whole 100, rfl, (e4.trans e5).at hfa, h5, hsm, w100, fun H6 e6 => ⟨_, rfl, q H6 (e5.trans e6)⟩⟩⟩
    · cases hR with
      | done hn =>
        rw [hn] at hb
        cases hb
      | @step _ l ps' _ hbest hrun' =>
      have hne : ls ≠ [] := fun y => by
        rw [y] at hbest
        cases hbest.1
      refine q_asgNew (el_lcNew (fun n => .tup ((keyM x (ls.getD n (0, (0, 0)))).map V.int)) (ev_var rfl) (sq_of ((e3.trans e4).at hrs)) (by rw [List.length_map]; have := hk.few; omega) (fun _ => rfl) (fun n y H5 e5 hy Q q => ?_)) fun kl H5 ks hkl e5 hkl5 hkn hks => ?_
      · obtain ⟨r, hr1, rfl⟩ := ref_at hy
        obtain ⟨o, hon, hO⟩ := paired_get hpp hr1
        obtain ⟨dl, hOI⟩ := id hO
        have eo : ls.getD n (0, (0, 0)) = o := by rw [List.getD_eq_getElem?_getD, hon]; rfl
        have e05 := (e3.trans e4).trans e5
        have em : EvU (tMeth d.cLine "key_at" (sp_key_at d) [] E0 (tVar 4) (tCons (tVar 2) tNil)) [some (.ref a), some (.ref fl), some (.ref fa), v3, some (.ref r), v5] H5 ((keyM x o).map V.int) := eu_methG (ev_var rfl) (e05.at hOI) (no_Line_key_at ..) (ea_cons (ev_var rfl) ea_nil) (fun H6 e6 Q q E => ⟨r, fa, o, x, rfl, hO.mono (e05.trans e6), ((e4.trans e5).trans e6).at hfa, hsm, q⟩)
        refine em H5 (Ex.refl H5) _ fun p H6 hp e6 h6 => q p H6 hp e6 ?_
        rw [h6, eo]
      · rw [List.length_map] at hkn
        have e05 := (e3.trans e4).trans e5
        have hkp : Paired (fun r z => H5 r = some (.tup (z.map V.int))) ks (ls.map (keyM x)) := pair_of (by rw [List.length_map, hkn, hlen]) fun i r z hi hz => by
          rw [(hks i r hi).1]
          rw [List.getElem?_map] at hz
          cases e9 : ls[i]? with
          | none =>
            rw [e9] at hz
            cases hz
          | some o =>
            rw [e9] at hz
            have e10 := (Option.some.inj hz).symm
            subst e10
            rw [List.getD_eq_getElem?_getD, e9]
            rfl
        obtain ⟨j, r, z, hj1, hj2, hj3, hev⟩ := ev_least (K := K) (σ := [some (.ref a), some (.ref fl), some (.ref fa), some (.ref kl), v4, v5]) (ta := tVar 0) (tb := tVar 3) (ev_var rfl) (sq_of (e05.at hrs)) (ev_var rfl) (sq_of hkl5) hkp (by simpa using hne) (by rw [List.length_map, hlen])
        obtain ⟨o, hon, hO⟩ := paired_get hpp hj1
        have hzo : z = keyM x o := by
          rw [List.getElem?_map, hon] at hj2
          exact (Option.some.inj hj2).symm
        have hbo : KA.IsBest ls x o := ⟨List.mem_of_getElem? hon, fun q hq => key_best (by rw [← hzo]; exact hj3 _ (List.mem_map.mpr ⟨q, hq, rfl⟩))⟩
        have elo : l = o := KA.best_unique hk.once hbest hbo
        subst elo
        refine q_asg hev fun H6 e6 => ?_
        have e06 := e05.trans e6
        have hbeg : ∀ o ∈ ls, o.2.2 < l.2.2 → l.2.1 < o.2.1 := fun o ho hs => (hbest.begin hred ho hs).2
        refine q_asgU (eu_call (vs := [.ref a, .ref r]) (ea_cons (ev_var rfl) (ea_cons (ev_var rfl) ea_nil)) (fun H7 e7 Q q E => ⟨a, r, ls, l, rfl, hLs.mono (e06.trans e7), hO.mono (e06.trans e7), hk, hbest.1, hbeg, q⟩)) fun ea H7 hea e7 hea7 => ?_
        obtain ⟨dl, hOI⟩ := id hO
        have e07 := e06.trans e7
        have e37 := ((e4.trans e5).trans e6).trans e7
        refine q_appU (e37.at hfl3) (ev_var rfl) (eu_tup (ea_cons (ev_Line_number T (ev_var rfl) (e07.at hOI)) (ea_cons (ev_var rfl) (ea_cons (ev_var rfl) ea_nil))) (by show 3 ≤ 100000; decide)) (by
          have h1 := pair_len hqs
          rw [hpsd, List.length_append] at hps
          rw [List.length_map]
          omega) fun tp H8 htp e8 htp8 => ?_
        have e38 := e37.trans e8
        have hfl8 : H8 fl = some (.lst (qs.map V.ref)) := e38.at hfl3
        have notfl : ∀ {b : Addr} {ys : List V}, H8 b = some (.tup ys) → (upd H8 fl (.lst (qs.map V.ref ++ [.ref tp]))) b = some (.tup ys) := fun {b ys} hb => by
          rw [upd_ne (fun y => by rw [y, hfl8] at hb; cases hb)]
          exact hb
        refine s_asg (ev_var rfl) fun H9 e9 => ⟨ps'.length, by rw [← hm]; exact Nat.lt_succ_self _, _, _, _, ea, KA.endM ls l, ps', dn ++ [⟨l.1, x, KA.endM ls l⟩], qs ++ [tp], rfl, (Ex.mut (e07.trans e8) hfl0).trans e9, e9.at (notfl (e8.at hea7)), (KA.end_ok hred hbest).2.2.1, ?_, hrun', by rw [hpsd, List.append_assoc]; rfl, rfl, ?_, ?_⟩
        · have := end_small hk hbest.1 hbeg ls.length
          rw [List.take_length] at this
          exact this
        · rw [List.map_append]
          exact e9.at upd_same
        · refine pair_app (pair_imp hqs fun r p ⟨f, t, g1, g2, g3⟩ => ⟨f, t, e9.at (notfl (e38.at g1)), e9.at (notfl (e38.at g2)), e9.at (notfl (e38.at g3))⟩) ⟨fa, ea, e9.at (notfl htp8), e9.at (notfl (e38.at hfa)), e9.at (notfl (e8.at hea7))⟩
    · have hrest : rest = [] := by
        cases hR with
        | done _ => rfl
        | step h _ _ =>
          rw [h] at hb
          cases hb
      subst hrest
      rw [List.append_nil] at hpsd
      subst hpsd
      exact s_ret (ev_var rfl) fun H5 e5 => k fl H5 ((e3.trans e4).trans e5) ⟨qs, (e4.trans e5).at hfl3, pair_imp hqs fun r p q => q.mono (e4.trans e5)⟩
end
end KW
end
section
/-! # tokens -/
namespace KW
open PySem PySem.Spec PyProof.Rows L2 Evl
open VamvsBase (Bytes PTok isLetter isDigit isBlank)
/-! ### texts -/
abbrev byV (c : UInt8) : V := nV c.toNat
theorem strOf_inj {a b : Bytes} (h : strOf a = strOf b) : a = b := by
  have h1 : (a.map UInt8.toNat) = (b.map UInt8.toNat) := by
    have h2 := congrArg (fun s : Str => s.cps.toList) h
    simpa [strOf] using h2
  have key : ∀ a b : Bytes, a.map UInt8.toNat = b.map UInt8.toNat → a = b := by
    intro a
    induction a with
    | nil =>
      intro b h
      cases b with
      | nil => rfl
      | cons _ _ => cases h
    | cons x a ih =>
      intro b h
      cases b with
      | nil => cases h
      | cons y b =>
        rw [List.map_cons, List.map_cons] at h
        injection h with h1 h2
        rw [UInt8.toNat_inj.mp h1, ih b h2]
  exact key a b h1
theorem strOf_snoc (a : Bytes) (c : UInt8) : strOf (a ++ [c]) = strOf a ++ (⟨#[c.toNat]⟩ : Str) := by
  show (⟨((a ++ [c]).map UInt8.toNat).toArray⟩ : Str) = ⟨(a.map UInt8.toNat).toArray ++ #[c.toNat]⟩
  rw [List.map_append]
  simp
theorem strOf_len (a : Bytes) : (strOf a).length = a.length := by
  show ((a.map UInt8.toNat).toArray).size = _
  simp
theorem digit_sign : ∀ n : Nat, n < 10 → (("0123456789" : Str).cps.toList)[n]? = some (48 + n) := by decide +kernel
theorem capital_sign : ∀ n : Nat, n < 26 → (("ABCDEFGHIJKLMNOPQRSTUVWXYZ" : Str).cps.toList)[n]? = some (65 + n) := by decide +kernel
theorem small_sign : ∀ n : Nat, n < 26 → (("abcdefghijklmnopqrstuvwxyz" : Str).cps.toList)[n]? = some (97 + n) := by decide +kernel
def tokSort : VamvsBase.Tok → Str
  | .name b => if VamvsBase.RESERVED.contains b = true then "word" else "name"
  | .num _ => "number"
  | .sign _ => "sign"
  | .last => "end"
def tokText : VamvsBase.Tok → Str
  | .name b => strOf b
  | .sign c => ⟨#[c]⟩
  | _ => ""
def tokNum : VamvsBase.Tok → Nat
  | .num n => n
  | _ => 0
def TokF (d : Ad) (H : Hp) (a : Addr) (s t : Str) (n p : Nat) : Prop := ∃ dx, H a = some (.ins d.cToken dx (fl_Token (.str s) (.str t) (nV n) (nV p)))
def TokAt (d : Ad) (H : Hp) (a : Addr) (t : PTok) : Prop := TokF d H a (tokSort t.tok) (tokText t.tok) (tokNum t.tok) t.place
theorem TokF.mono {d : Ad} {H H' : Hp} {a : Addr} {s t : Str} {n p : Nat} (e : Ex H H') (h : TokF d H a s t n p) : TokF d H' a s t n p := by
  obtain ⟨dx, h⟩ := h
  exact ⟨dx, e _ _ h⟩
theorem TokAt.mono {d : Ad} {H H' : Hp} {a : Addr} {t : PTok} (e : Ex H H') (h : TokAt d H a t) : TokAt d H' a t := TokF.mono e h
def ToksAt (d : Ad) (H : Hp) (a : Addr) (ts : List PTok) : Prop := ∃ rs : List Addr, H a = some (.lst (rs.map V.ref)) ∧ Paired (fun r t => TokAt d H r t) rs ts
/-- the fault f is wished for, with what stood before as it was -/
def FaultW (d : Ad) (E : XK) (H : Hp) (f : VamvsBase.Fault) : Prop := ∀ (dd : Addr) (H2 : Hp), Ex H H2 → H2 dd = some (.xd [("place", nV f.place), ("kind", nV f.code)]) → E (.ref d.cFault) (some dd) H2
theorem FaultW.mono {d : Ad} {E : XK} {H H' : Hp} {f : VamvsBase.Fault} (e : Ex H H') (h : FaultW d E H f) : FaultW d E H' f := fun dd H2 e2 h2 => h dd H2 (e.trans e2) h2
/-! ### promises -/
section
variable (d : Ad)
def sp_Fault_init : Sp := fun vs H Q _ => ∃ (a : Addr) (x y : V), vs = [.ref a, x, y] ∧ H a = some (exo a d.cFault none) ∧
  ∀ dx, H dx = none → dx ≠ a → Q .non (upd (upd (upd H dx (exd dx [("kind", x)])) a (exo a d.cFault (some dx))) dx (exd dx [("place", y), ("kind", x)]))
def sp_Token_init : Sp := fun vs H Q _ => ∃ (a dx : Addr) (s t : Str) (n p : Nat), vs = [.ref a, .str s, .str t, nV n, nV p] ∧ H a = some (.ins d.cToken dx []) ∧ ∀ H', Off a H H' → TokF d H' a s t n p → Q .non H'
def sp_is_letter : Sp := fun vs H Q _ => ∃ c : UInt8, vs = [byV c] ∧ RetV (.bl (isLetter c)) H Q
def sp_is_digit : Sp := fun vs H Q _ => ∃ c : UInt8, vs = [byV c] ∧ RetV (.bl (isDigit c)) H Q
def sp_text_of : Sp := fun vs H Q _ => ∃ (p : Addr) (w : Bytes), vs = [.ref p] ∧ H p = some (.lst (w.map byV)) ∧ (∀ c ∈ w, (isLetter c || isDigit c) = true) ∧ w.length ≤ 16 ∧ RetV (.str (strOf w)) H Q
def sp_word_token : Sp := fun vs H Q E => ∃ (p : Addr) (w : Bytes) (pl : Nat), vs = [.ref p, nV pl] ∧ H p = some (.lst (w.map byV)) ∧ (∀ c ∈ w, (isLetter c || isDigit c) = true) ∧
  (VamvsBase.NAME < w.length → FaultW d E H ⟨2, pl⟩) ∧ (¬ VamvsBase.NAME < w.length → ∀ q H2, H q = none → Ex H H2 → TokAt d H2 q ⟨pl, .name w⟩ → Q (.ref q) H2)
def sp_number_token : Sp := fun vs H Q E => ∃ (p : Addr) (w : Bytes) (pl : Nat), vs = [.ref p, nV pl] ∧ H p = some (.lst (w.map byV)) ∧ (∀ c ∈ w, isDigit c = true) ∧ w ≠ [] ∧
  (VamvsBase.numberOf w = none → FaultW d E H ⟨2, pl⟩) ∧ (∀ n, VamvsBase.numberOf w = some n → ∀ q H2, H q = none → Ex H H2 → TokAt d H2 q ⟨pl, .num n⟩ → Q (.ref q) H2)
def sp_sign_token : Sp := fun vs H Q E => ∃ (c : UInt8) (pl : Nat), vs = [byV c, nV pl] ∧
  (VamvsBase.SIGNS.contains c = false → FaultW d E H ⟨2, pl⟩) ∧ (VamvsBase.SIGNS.contains c = true → ∀ q H2, H q = none → Ex H H2 → TokAt d H2 q ⟨pl, .sign c.toNat⟩ → Q (.ref q) H2)
/-- a scan of a text from a place on -/
def sp_scan (K : PySem.W.Frag) (f : UInt8 → Bool) : Sp := fun vs H Q _ => ∃ (t : Addr) (b : Bytes) (p : Nat), vs = [.ref t, nV p] ∧ SqL K H t (b.map byV) ∧ RetV (nV (KA.sc f b p)) H Q
def sp_tokens_of (K : PySem.W.Frag) : Sp := fun vs H Q E => ∃ (t : Addr) (b : Bytes), vs = [.ref t] ∧ SqL K H t (b.map byV) ∧ b.length ≤ 4096 ∧
  (∀ f, KA.lexAt b 0 = .error f → FaultW d E H f) ∧ (∀ l, KA.lexAt b 0 = .ok l → ∀ p H2, Ex H H2 → ToksAt d H2 p l → Q (.ref p) H2)
end
section
variable {P : Program} {w : World} {K : PySem.W.Frag} {mg : Str → Option Value} {base : Heap} {d : Ad}
theorem ok_Fault_init (T : Txt K mg d) : FnOk P w K mg base CX0 1 d.f_Fault_init d.fd_Fault_init P_Fault_init (sp_Fault_init d) := by
  refine T.F.F_Fault_init.ok sc_Fault_init (fun vs H Q E h => ?_) (fun cdv A outer s H vs Q E hr h => ⟨t_Fault_init K d, dv_Fault_init T hr, ?_⟩)
  · obtain ⟨a, x, y, rfl, _⟩ := h
    rfl
  · obtain ⟨a, x, y, rfl, ha, k⟩ := h
    refine ⟨_, rfl, _, rfl, a, d.cFault, rfl, T.E.ox_Fault, T.E.n_Fault_kind, .inl ⟨ha, fun dx h1 h2 => ?_⟩⟩
    exact ⟨_, rfl, _, rfl, a, d.cFault, rfl, T.E.ox_Fault, T.E.n_Fault_place, .inr ⟨dx, [("kind", x)], upd_same, (upd_ne h2).trans upd_same, (by show 1 ≤ 900; decide), k dx h1 h2⟩⟩
theorem s_fault {σ : L2.St} {H : Hp} {E : XK} {ta : TA} {D : Ends} {code pl : Nat} (h : EvA ta σ H [nV code, nV pl]) (k : FaultW d E H ⟨code, pl⟩) : tRaiseO d.cFault (sp_Fault_init d) E ta D σ H :=
  h H (Ex.refl H) _ fun H1 e1 => ⟨by show 2 ≤ 1000; decide, fun a ha => ⟨a, nV code, nV pl, rfl, upd_same, fun dx h1 h2 => ⟨rfl, dx, _, by rw [upd_ne (Ne.symm h2)]; exact upd_same, upd_same, by rw [upd_ne h2] at h1; exact h1, k dx _ (fun b o hb => by
    have h0 : H1 dx = none := by
      rw [upd_ne h2] at h1
      exact h1
    have hb1 := e1 _ _ hb
    have nb : b ≠ a := ne_of_none hb1 ha
    have nd : b ≠ dx := ne_of_none hb1 h0
    rw [upd_ne nd, del_ne nb, upd_ne nd, upd_ne nb, upd_ne nd, upd_ne nb]
    exact hb1) upd_same⟩⟩⟩
theorem ok_Token_init (T : Txt K mg d) : FnOk P w K mg base CX0 1 d.f_Token_init d.fd_Token_init P_Token_init (sp_Token_init d) := by
  refine T.F.F_Token_init.ok sc_Token_init (fun vs H Q E h => ?_) (fun cdv A outer s H vs Q E hr h => ⟨t_Token_init K d, dv_Token_init T hr, ?_⟩)
  · obtain ⟨a, dx, s, t, n, p, rfl, _⟩ := h
    rfl
  · obtain ⟨a, dx, s, t, n, p, rfl, hI, k⟩ := h
    refine ⟨_, rfl, _, rfl, a, d.cToken, dx, _, rfl, hI, T.C.cl_Token, T.C.n_Token_sort_told, (by show 0 < 1000; decide), ?_⟩
    refine ⟨_, rfl, _, rfl, a, d.cToken, dx, _, rfl, upd_same, T.C.cl_Token, T.C.n_Token_text, (by show 1 < 1000; decide), ?_⟩
    refine ⟨_, rfl, _, rfl, a, d.cToken, dx, _, rfl, upd_same, T.C.cl_Token, T.C.n_Token_number, (by show 2 < 1000; decide), ?_⟩
    refine ⟨_, rfl, _, rfl, a, d.cToken, dx, _, rfl, upd_same, T.C.cl_Token, T.C.n_Token_place, (by show 3 < 1000; decide), ?_⟩
    rw [upd_upd, upd_upd, upd_upd, nw_Token]
    exact k _ Off.upd ⟨dx, upd_same⟩
theorem er_token {σ : L2.St} {H : Hp} {ta : TA} {s t : Str} {n p : Nat} (h : EvA ta σ H [.str s, .str t, nV n, nV p]) : EvR (tMake d.cToken (sp_Token_init d) [] E0 ta) σ H (fun q H2 => TokF d H2 q s t n p) := fun H1 e Q q =>
  h H1 e _ fun H2 e2 => fun x dx nx nd ne => ⟨x, dx, s, t, n, p, rfl, upd_same, fun H' off hl => ⟨rfl, q x H' (fresh_back e2 nx) (e2.trans (made_ex nx nd off)) hl⟩⟩
theorem ev_between {σ : L2.St} {H : Hp} {ta tb tc : TE} {x y z : Int} (ha : Ev ta σ H (.int x)) (hb : Ev tb σ H (.int y)) (hc : Ev tc σ H (.int z)) : Ev (tChain kLe kLe ta tb tc) σ H (.bl (decide (x ≤ y) && decide (y ≤ z))) :=
  ev_chainG (b := decide (x ≤ y)) ha hb rv_le (fun _ => hc) (fun h => by rw [h]; exact rv_le) (fun h => by rw [h]; rfl)
theorem ok_is_letter (T : Txt K mg d) : FnOk P w K mg base CX0 1 d.f_is_letter d.fd_is_letter P_is_letter sp_is_letter := by
  refine T.F.F_is_letter.ok sc_is_letter (fun vs H Q E h => ?_) (fun cdv A outer s H vs Q E hr h => ⟨t_is_letter K d, dv_is_letter T hr, ?_⟩)
  · obtain ⟨c, rfl, _⟩ := h
    rfl
  · obtain ⟨c, rfl, k⟩ := h
    refine s_ret (ev_is (ev_orV (ev_between ev_c (ev_var rfl) ev_c) (fun _ => ev_between ev_c (ev_var rfl) ev_c)) ?_) k
    unfold isLetter
    congr 1
    have e : ∀ a b : Int, (decide (a ≤ (c.toNat : Int)) && decide ((c.toNat : Int) ≤ b)) = decide (a ≤ (c.toNat : Int) ∧ (c.toNat : Int) ≤ b) := fun a b => by simp
    rw [e, e]
    congr 1
    · exact decide_eq_decide.mpr (by omega)
    · exact decide_eq_decide.mpr (by omega)
theorem ok_is_digit (T : Txt K mg d) : FnOk P w K mg base CX0 1 d.f_is_digit d.fd_is_digit P_is_digit sp_is_digit := by
  refine T.F.F_is_digit.ok sc_is_digit (fun vs H Q E h => ?_) (fun cdv A outer s H vs Q E hr h => ⟨t_is_digit K d, dv_is_digit T hr, ?_⟩)
  · obtain ⟨c, rfl, _⟩ := h
    rfl
  · obtain ⟨c, rfl, k⟩ := h
    refine s_ret (ev_is (ev_between ev_c (ev_var rfl) ev_c) ?_) k
    unfold isDigit
    have e : ∀ a b : Int, (decide (a ≤ (c.toNat : Int)) && decide ((c.toNat : Int) ≤ b)) = decide (a ≤ (c.toNat : Int) ∧ (c.toNat : Int) ≤ b) := fun a b => by simp
    rw [e]
    congr 1
    exact decide_eq_decide.mpr (by omega)
theorem spv_letter {c : UInt8} {H : Hp} : SpV sp_is_letter [byV c] H (.bl (isLetter c)) := fun H1 e Q q E => ⟨c, rfl, q⟩
theorem spv_digit {c : UInt8} {H : Hp} : SpV sp_is_digit [byV c] H (.bl (isDigit c)) := fun H1 e Q q E => ⟨c, rfl, q⟩
theorem byV_at {l : Bytes} {n : Nat} {x : V} (h : (l.map byV)[n]? = some x) : ∃ c, l[n]? = some c ∧ x = byV c := by
  rw [List.getElem?_map] at h
  cases e : l[n]? with
  | none =>
    rw [e] at h
    cases h
  | some c =>
    rw [e] at h
    exact ⟨c, rfl, (Option.some.inj h).symm⟩
theorem at_byV {l : Bytes} {n : Nat} {c : UInt8} (h : l[n]? = some c) : (l.map byV)[n]? = some (byV c) := by
  rw [List.getElem?_map, h]
  rfl
theorem ev_sign {σ : L2.St} {H : Hp} {ta tb : TE} {s z : Str} {n k : Nat} {i : Int} (ha : Ev ta σ H (.str s)) (hb : Ev tb σ H (.int i)) (hi : i = (n : Int)) (hz : z.length ≤ 100) (hs : s.length ≤ 100) (hk : s.cps.toList[n]? = some k) {tc : TE} (hc : Ev tc σ H (.str z)) :
    Ev (tOp kCatS tc (tOp rIxS ta tb)) σ H (.str (z ++ ⟨#[k]⟩)) := by
  refine ev_op hc (ev_op ha hb (rv_ixS (by omega) ?_)) (rv_catS ?_)
  · rw [hi]
    exact atI_nat hk
  · exact sz_of (by show z.length + 1 ≤ 100000; omega)
theorem ok_text_of (T : Txt K mg d) : FnOk P w K mg base CX0 2 d.f_text_of d.fd_text_of P_text_of sp_text_of := by
  refine T.F.F_text_of.ok sc_text_of (fun vs H Q E h => ?_) (fun cdv A outer s H vs Q E hr h => ⟨t_text_of K d sp_is_digit, dv_text_of T (ok_is_digit T) hr, ?_⟩)
  · obtain ⟨p, w, rfl, _⟩ := h
    rfl
  · obtain ⟨p, w, rfl, hp, hw, hl, k⟩ := h
    refine q_asg ev_c fun H1 e1 => ?_
    refine q_forLn (ev_var rfl) (sq_of (e1.at hp)) (fun n σ' H' => ∃ v2 : Option V, σ' = [some (.ref p), some (.str (strOf (w.take n))), v2] ∧ Ex H H') (fun H2 e2 => ⟨none, rfl, e1.trans e2⟩) (fun n σ' H' hn ⟨_, _, e⟩ => sq_of (e.at hp)) ?_ ?_
    · rintro n x σ' H2 hx ⟨v2, rfl, e2⟩
      obtain ⟨c, hc, rfl⟩ := byV_at hx
      have hin := hw c (List.mem_of_getElem? hc)
      have hz : (strOf (w.take n)).length ≤ 100 := by
        rw [strOf_len, List.length_take]
        omega
      have go : ∀ {H' : Hp}, strOf (w.take (n + 1)) = strOf (w.take n) ++ (⟨#[c.toNat]⟩ : Str) := fun {_} => by rw [take_next hc, strOf_snoc]
      refine s_if (et_B (ev_call (vs := [byV c]) (ea_cons (ev_var rfl) ea_nil) spv_digit)) (fun hb H3 e3 => ?_) (fun hb H3 e3 => ?_)
      · unfold isDigit at hb
        have hb' := of_decide_eq_true hb
        refine s_asg (ev_sign (n := c.toNat - 48) (k := c.toNat) ev_c (ev_op (ev_var rfl) ev_c rv_sub) (by omega) hz (by decide +kernel) (by rw [digit_sign _ (by omega)]; congr 1; omega) (ev_var rfl)) fun H4 e4 => ⟨some (byV c), ?_, (e2.trans e3).trans e4⟩
        rw [go (H' := H4)]
        rfl
      · rw [hb, Bool.or_false] at hin
        unfold isLetter at hin
        rw [Bool.or_eq_true, decide_eq_true_eq, decide_eq_true_eq] at hin
        refine s_if (et_test (ev_op (ev_var rfl) ev_c rv_le)) (fun hb2 H4 e4 => ?_) (fun hb2 H4 e4 => ?_)
        · have hb2' := of_decide_eq_true hb2
          refine s_asg (ev_sign (n := c.toNat - 65) (k := c.toNat) ev_c (ev_op (ev_var rfl) ev_c rv_sub) (by omega) hz (by decide +kernel) (by rw [capital_sign _ (by omega)]; congr 1; omega) (ev_var rfl)) fun H5 e5 => ⟨some (byV c), ?_, ((e2.trans e3).trans e4).trans e5⟩
          rw [go (H' := H4)]
          rfl
        · have hb2' := of_decide_eq_false hb2
          refine s_asg (ev_sign (n := c.toNat - 97) (k := c.toNat) ev_c (ev_op (ev_var rfl) ev_c rv_sub) (by omega) hz (by decide +kernel) (by rw [small_sign _ (by omega)]; congr 1; omega) (ev_var rfl)) fun H5 e5 => ⟨some (byV c), ?_, ((e2.trans e3).trans e4).trans e5⟩
          rw [go (H' := H4)]
          rfl
    · rintro σ' H2 ⟨v2, rfl, e2⟩
      rw [List.length_map, List.take_length]
      exact s_ret (ev_var rfl) fun H3 e3 => k H3 (e2.trans e3)
end
end KW
end
section
/-! # tokens: words, numbers, signs, scans, all -/
namespace KW
open PySem PySem.Spec PyProof.Rows L2 Evl
open VamvsBase (Bytes PTok isLetter isDigit isBlank)
section
variable {K : PySem.W.Frag} {σ : L2.St} {H H' : Hp} {ta tb te : TE} {D : Ends}
/-- a fault comes of it -/
def EvF (te : TE) (σ : L2.St) (H : Hp) : Prop := ∀ H1, Ex H H1 → ∀ Q : VK, te σ H1 Q
theorem s_appF {l : Addr} {xs : List V} (hl : H l = some (.lst xs)) (ha : Ev ta σ H (.ref l)) (h : EvF te σ H) : tDrop (tBM K "list" rAppend ta (tCons te tNil)) D σ H :=
  ha H (Ex.refl H) _ fun H1 e1 => ⟨Or.inl ⟨rfl, xs, sq_of (e1 l _ hl)⟩, h H1 e1 _⟩
theorem er_call1L {sp : Sp} {E : XK} {x : V} {xs : List V} {R : Addr → Hp → Prop} (hl : EvL te σ H xs) (hx : Ev tb σ H x)
    (hs : ∀ p H1, Ex H H1 → H1 p = some (.lst xs) → ∀ Q : VK, (∀ q H2, H1 q = none → Ex H1 H2 → R q H2 → Q (.ref q) H2) → sp [.ref p, x] H1 Q E) : EvR (tCall sp [] E (tCons te (tCons tb tNil))) σ H R := fun H1 e Q q =>
  hl H1 e _ fun p H2 hp e2 h2 => hx H2 (e.trans e2) _ fun H3 e3 => hs p H3 ((e.trans e2).trans e3) (e3.at h2) Q fun q' H4 hq e4 h4 => q q' H4 (fresh_back (e2.trans e3) hq) ((e2.trans e3).trans e4) h4
theorem ef_call1L {sp : Sp} {E : XK} {x : V} {xs : List V} (hl : EvL te σ H xs) (hx : Ev tb σ H x) (hs : ∀ p H1, Ex H H1 → H1 p = some (.lst xs) → ∀ Q : VK, sp [.ref p, x] H1 Q E) : EvF (tCall sp [] E (tCons te (tCons tb tNil))) σ H := fun H1 e Q =>
  hl H1 e _ fun p H2 hp e2 h2 => hx H2 (e.trans e2) _ fun H3 e3 => hs p H3 ((e.trans e2).trans e3) (e3.at h2) Q
theorem er_call {sp : Sp} {E : XK} {vs : List V} {tA : TA} {R : Addr → Hp → Prop} (ha : EvA tA σ H vs) (hs : ∀ H1, Ex H H1 → ∀ Q : VK, (∀ q H2, H1 q = none → Ex H1 H2 → R q H2 → Q (.ref q) H2) → sp (vs ++ []) H1 Q E) : EvR (tCall sp [] E tA) σ H R := fun H1 e Q q =>
  ha H1 e _ fun H2 e2 => hs H2 (e.trans e2) Q fun q' H4 hq e4 h4 => q q' H4 (fresh_back e2 hq) (e2.trans e4) h4
theorem ef_call {sp : Sp} {E : XK} {vs : List V} {tA : TA} (ha : EvA tA σ H vs) (hs : ∀ H1, Ex H H1 → ∀ Q : VK, sp (vs ++ []) H1 Q E) : EvF (tCall sp [] E tA) σ H := fun H1 e Q =>
  ha H1 e _ fun H2 e2 => hs H2 (e.trans e2) Q
theorem s_retR {R : Addr → Hp → Prop} (h : EvR te σ H R) (k : ∀ p H1, H p = none → Ex H H1 → R p H1 → D.rt (.ref p) H1) : tRet te D σ H := h H (Ex.refl H) _ k
end
/-! ### the words -/
theorem words_in (w : Bytes) : inV (.str (strOf w)) [.str "columns", .str "row", .str "ask", .str "times"] = VamvsBase.RESERVED.contains w := by
  have e : ∀ s : String, ∀ b : Bytes, strOf b = Str.ofString s → ((Str.ofString s == strOf w) = (b == w)) := fun s b h => by
    rw [← h]
    by_cases q : b = w
    · rw [q]
      simp
    · rw [beq_eq_false_iff_ne.mpr q, beq_eq_false_iff_ne.mpr fun y => q (strOf_inj y)]
  show (eqV (.str "columns") (.str (strOf w)) || (eqV (.str "row") (.str (strOf w)) || (eqV (.str "ask") (.str (strOf w)) || (eqV (.str "times") (.str (strOf w)) || false)))) = _
  have e1 := e "columns" (VamvsBase.word "columns") (by decide +kernel)
  have e2 := e "row" (VamvsBase.word "row") (by decide +kernel)
  have e3 := e "ask" (VamvsBase.word "ask") (by decide +kernel)
  have e4 := e "times" (VamvsBase.word "times") (by decide +kernel)
  have f1 : eqV (.str "columns") (.str (strOf w)) = (VamvsBase.word "columns" == w) := e1
  have f2 : eqV (.str "row") (.str (strOf w)) = (VamvsBase.word "row" == w) := e2
  have f3 : eqV (.str "ask") (.str (strOf w)) = (VamvsBase.word "ask" == w) := e3
  have f4 : eqV (.str "times") (.str (strOf w)) = (VamvsBase.word "times" == w) := e4
  rw [f1, f2, f3, f4]
  show _ = ([VamvsBase.word "columns", VamvsBase.word "row", VamvsBase.word "ask", VamvsBase.word "times"] : List Bytes).contains w
  rw [List.contains_cons, List.contains_cons, List.contains_cons, List.contains_cons, List.contains_nil]
  have c : ∀ a b : Bytes, (a == b) = (b == a) := fun a b => by
    by_cases q : a = b
    · rw [q]
    · rw [beq_eq_false_iff_ne.mpr q, beq_eq_false_iff_ne.mpr fun y => q y.symm]
  rw [c w, c w, c w, c w]
theorem decimal_snoc (a : Bytes) (c : UInt8) : VamvsBase.decimal (a ++ [c]) = 10 * VamvsBase.decimal a + (c.toNat - 48) := by
  unfold VamvsBase.decimal
  rw [List.foldl_append]
  rfl
theorem sign_none {c : UInt8} (h : ∀ i : Nat, i < 4 → ∀ k : Nat, ((",:;-" : Str).cps)[i]? = some k → c.toNat ≠ k) : VamvsBase.SIGNS.contains c = false := by
  have g := fun k hk => h k hk
  have n : ∀ i k : Nat, i < 4 → ((",:;-" : Str).cps)[i]? = some k → c ≠ UInt8.ofNat k := fun i k hi hk e => h i hi k hk (by
    have : k < 256 := by
      have q : ∀ i : Nat, i < 4 → ∀ k, ((",:;-" : Str).cps)[i]? = some k → k < 256 := by
        intro i hi k hk
        match i, hi with
        | 0, _ => cases hk; decide
        | 1, _ => cases hk; decide
        | 2, _ => cases hk; decide
        | 3, _ => cases hk; decide
      exact q i hi k hk
    rw [e]
    simp
    omega)
  show ([44, 58, 59, 45] : List UInt8).contains c = false
  rw [List.contains_cons, List.contains_cons, List.contains_cons, List.contains_cons, List.contains_nil]
  have a1 : c ≠ 44 := n 0 44 (by decide) rfl
  have a2 : c ≠ 58 := n 1 58 (by decide) rfl
  have a3 : c ≠ 59 := n 2 59 (by decide) rfl
  have a4 : c ≠ 45 := n 3 45 (by decide) rfl
  rw [beq_eq_false_iff_ne.mpr a1, beq_eq_false_iff_ne.mpr a2, beq_eq_false_iff_ne.mpr a3, beq_eq_false_iff_ne.mpr a4]
  rfl
theorem sign_some {c : UInt8} {i : Nat} (hi : i < 4) {k : Nat} (h : ((",:;-" : Str).cps)[i]? = some k) (e : c.toNat = k) : VamvsBase.SIGNS.contains c = true := by
  have q : ∀ k : Nat, c.toNat = k → k < 256 → c = UInt8.ofNat k := fun k e hk => UInt8.toNat_inj.mp (by rw [e]; simp; omega)
  match i, hi with
  | 0, _ =>
    cases h
    rw [q 44 e (by decide)]
    decide
  | 1, _ =>
    cases h
    rw [q 58 e (by decide)]
    decide
  | 2, _ =>
    cases h
    rw [q 59 e (by decide)]
    decide
  | 3, _ =>
    cases h
    rw [q 45 e (by decide)]
    decide
section
variable {P : Program} {w : World} {K : PySem.W.Frag} {mg : Str → Option Value} {base : Heap} {d : Ad}
theorem ok_word_token (T : Txt K mg d) : FnOk P w K mg base (L2.CX P w) 3 d.f_word_token d.fd_word_token P_word_token (sp_word_token d) := by
  refine T.F.F_word_token.okX sc_word_token (fun vs H Q E h => ?_) (fun cdv A outer s H vs Q E hr h => ⟨t_word_token K d E (sp_Fault_init d) sp_text_of (sp_Token_init d), dv_word_token T (ok_Fault_init T) (ok_text_of T) (ok_Token_init T) hr, ?_⟩)
  · obtain ⟨p, w, pl, rfl, _⟩ := h
    rfl
  · obtain ⟨p, w, pl, rfl, hp, hw, kf, k⟩ := h
    refine q_when (et_test (ev_op (ev_len (ev_var rfl) (sq_of hp)) ev_c rv_gt)) (fun hb H1 e1 => ?_) (fun hb H1 e1 => ?_)
    · have hb' := of_decide_eq_true hb
      rw [List.length_map] at hb'
      exact s_fault (ea_cons ev_c (ea_cons (ev_var rfl) ea_nil)) ((kf (by show 16 < w.length; omega)).mono e1)
    · have hb' := of_decide_eq_false hb
      rw [List.length_map] at hb'
      have k' := k (by show ¬ 16 < w.length; omega)
      refine q_asg (v := .str (strOf w)) (ev_call (vs := [.ref p]) (ea_cons (ev_var rfl) ea_nil) (fun H2 e2 Q q E => ⟨p, w, rfl, e2.at (e1.at hp), hw, by omega, q⟩)) fun H2 e2 => ?_
      refine q_when (et_test (ev_op (ev_var rfl) ev_c (rv_isT (T.KT.t_WORDS H2) rfl rfl))) (fun hc H3 e3 => ?_) (fun hc H3 e3 => ?_)
      · rw [words_in] at hc
        refine s_retR (er_token (ea_cons ev_c (ea_cons (ev_var rfl) (ea_cons ev_c (ea_cons (ev_var rfl) ea_nil)))) (s := "word") (t := strOf w) (n := 0) (p := pl)) fun q H4 hq e4 h4 => k' q H4 (fresh_back ((e1.trans e2).trans e3) hq) (((e1.trans e2).trans e3).trans e4) ?_
        show TokF d H4 q (if VamvsBase.RESERVED.contains w = true then "word" else "name") (strOf w) 0 pl
        rw [if_pos hc]
        exact h4
      · rw [words_in] at hc
        refine s_retR (er_token (ea_cons ev_c (ea_cons (ev_var rfl) (ea_cons ev_c (ea_cons (ev_var rfl) ea_nil)))) (s := "name") (t := strOf w) (n := 0) (p := pl)) fun q H4 hq e4 h4 => k' q H4 (fresh_back ((e1.trans e2).trans e3) hq) (((e1.trans e2).trans e3).trans e4) ?_
        show TokF d H4 q (if VamvsBase.RESERVED.contains w = true then "word" else "name") (strOf w) 0 pl
        rw [if_neg (by rw [hc]; decide)]
        exact h4
theorem ok_number_token (T : Txt K mg d) : FnOk P w K mg base (L2.CX P w) 3 d.f_number_token d.fd_number_token P_number_token (sp_number_token d) := by
  refine T.F.F_number_token.okX sc_number_token (fun vs H Q E h => ?_) (fun cdv A outer s H vs Q E hr h => ⟨t_number_token K d E (sp_Fault_init d) (sp_Token_init d), dv_number_token T (ok_Fault_init T) (ok_Token_init T) hr, ?_⟩)
  · obtain ⟨p, w, pl, rfl, _⟩ := h
    rfl
  · obtain ⟨p, w, pl, rfl, hp, hw, hne, kf, k⟩ := h
    rw [KA.number_is hw hne] at kf k
    refine q_asg ev_c fun H1 e1 => ?_
    refine q_forLn (ev_var rfl) (sq_of (e1.at hp)) (fun n σ' H' => ∃ v3 : Option V, σ' = [some (.ref p), some (nV pl), some (nV (VamvsBase.decimal (w.take n))), v3] ∧ Ex H H') (fun H2 e2 => ⟨none, rfl, e1.trans e2⟩) (fun n σ' H' hn ⟨_, _, e⟩ => sq_of (e.at hp)) ?_ ?_
    · rintro n x σ' H2 hx ⟨v3, rfl, e2⟩
      obtain ⟨c, hc, rfl⟩ := byV_at hx
      have hin := hw c (List.mem_of_getElem? hc)
      unfold isDigit at hin
      have hin' := of_decide_eq_true hin
      refine s_asg (ev_op (ev_op (ev_op ev_c (ev_var rfl) (rv_mul (.inl ⟨by decide, by decide⟩))) (ev_var rfl) rv_add) ev_c rv_sub) fun H3 e3 => ⟨some (byV c), ?_, e2.trans e3⟩
      rw [take_next hc, decimal_snoc]
      have e : (10 : Int) * (VamvsBase.decimal (w.take n) : Int) + (c.toNat : Int) - 48 = ((10 * VamvsBase.decimal (w.take n) + (c.toNat - 48) : Nat) : Int) := by omega
      rw [e]
      rfl
    · rintro σ' H2 ⟨v3, rfl, e2⟩
      rw [List.length_map, List.take_length]
      obtain ⟨c, r, rfl⟩ : ∃ c r, w = c :: r := by
        cases w with
        | nil => exact absurd rfl hne
        | cons c r => exact ⟨c, r, rfl⟩
      have ht : EvT (tOr (tTest (tOp kGt (tVar 2) (tC (.int 1000000000)))) (tAnd (tTest (tOp rEq (tOp (rIxL K) (tVar 0) (tC (.int 0))) (tC (.int 48)))) (tTest (tOp kGt (tCB (Evl.rLenS K) (tCons (tVar 0) (tNil))) (tC (.int 1))))))
          [some (.ref p), some (nV pl), some (nV (VamvsBase.decimal (c :: r))), v3] H2 (decide (VamvsBase.NUMBER < VamvsBase.decimal (c :: r) ∨ ((c :: r).head? = some 48 ∧ 1 < (c :: r).length))) := by
        refine et_is (et_or (et_test (ev_op (ev_var rfl) ev_c rv_gt)) (fun _ => et_and (et_test (ev_op (ev_op (ev_var rfl) ev_c (rv_ixL (sq_of (e2.at hp)) (v := byV c) (atI_nat (j := 0) rfl))) ev_c (rv_eq rfl))) (fun _ => et_test (ev_op (ev_len (ev_var rfl) (sq_of (e2.at hp))) ev_c rv_gt)))) ?_
        have e48 : decide (byV c = V.int 48) = decide ((c :: r).head? = some 48) := decide_eq_decide.mpr ⟨fun h => by
          injection h with h
          have : c.toNat = 48 := by omega
          have : c = 48 := UInt8.toNat_inj.mp this
          rw [this]
          rfl, fun h => by
          injection h with h
          rw [h]
          rfl⟩
        rw [e48, List.length_map]
        have e1 : decide ((1000000000 : Int) < (VamvsBase.decimal (c :: r) : Int)) = decide (VamvsBase.NUMBER < VamvsBase.decimal (c :: r)) := decide_eq_decide.mpr (by show _ ↔ 1000000000 < _; omega)
        have e2 : decide ((1 : Int) < (((c :: r).length : Nat) : Int)) = decide (1 < (c :: r).length) := decide_eq_decide.mpr (by omega)
        rw [e1, e2]
        simp
      refine q_when ht (fun hb H3 e3 => ?_) (fun hb H3 e3 => ?_)
      · have hb' := of_decide_eq_true hb
        exact s_fault (ea_cons ev_c (ea_cons (ev_var rfl) ea_nil)) ((kf (if_pos hb')).mono (e2.trans e3))
      · have hb' := of_decide_eq_false hb
        exact s_retR (er_token (ea_cons ev_c (ea_cons ev_c (ea_cons (ev_var rfl) (ea_cons (ev_var rfl) ea_nil)))) (s := "number") (t := "") (n := VamvsBase.decimal (c :: r)) (p := pl)) fun q H4 hq e4 h4 => k _ (if_neg hb') q H4 (fresh_back (e2.trans e3) hq) ((e2.trans e3).trans e4) h4
theorem ok_sign_token (T : Txt K mg d) : FnOk P w K mg base (L2.CX P w) 3 d.f_sign_token d.fd_sign_token P_sign_token (sp_sign_token d) := by
  refine T.F.F_sign_token.okX sc_sign_token (fun vs H Q E h => ?_) (fun cdv A outer s H vs Q E hr h => ⟨t_sign_token K d E (sp_Token_init d) (sp_Fault_init d), dv_sign_token T (ok_Token_init T) (ok_Fault_init T) hr, ?_⟩)
  · obtain ⟨c, pl, rfl, _⟩ := h
    rfl
  · obtain ⟨c, pl, rfl, kf, k⟩ := h
    have hz : (",:;-" : Str).cps.size = 4 := by decide +kernel
    refine ⟨_, rfl, for_it walk_str (fun n σ' H' => ∃ v2 : Option V, σ' = [some (byV c), some (nV pl), v2] ∧ Ex H H' ∧ ∀ i : Nat, i < n → ∀ k : Nat, ((",:;-" : Str).cps)[i]? = some k → c.toNat ≠ k) ⟨none, rfl, Ex.refl H, fun i hi => absurd hi (Nat.not_lt_zero i)⟩ (fun _ _ _ _ _ => trivial) ?_ ?_⟩
    · rintro n x σ' H2 H3 hn ⟨v2, rfl, e2, hall⟩ ⟨rfl, s, hs, rfl⟩
      rw [hz] at hn
      refine s_when (et_test (ev_op (ev_var rfl) (ev_cb (r := rOrd) (vs := [.str ⟨#[s]⟩]) (z := nV s) (ea_cons (ev_var rfl) ea_nil) (fun H4 e4 Q q => ⟨_, rfl, rfl, q H4 (Ex.refl H4)⟩)) (rv_eq rfl))) (fun hb H4 e4 => ?_) (fun hb H4 e4 => ⟨_, rfl, e2.trans e4, fun i hi k hk => ?_⟩)
      · have hb' : c.toNat = s := by
          have := of_decide_eq_true hb
          injection this with this
          omega
        subst hb'
        refine s_retR (er_token (ea_cons ev_c (ea_cons (ev_var rfl) (ea_cons ev_c (ea_cons (ev_var rfl) ea_nil)))) (s := "sign") (t := ⟨#[c.toNat]⟩) (n := 0) (p := pl)) fun q H5 hq e5 h5 => k (sign_some hn hs rfl) q H5 (fresh_back (e2.trans e4) hq) ((e2.trans e4).trans e5) h5
      · by_cases hi2 : i < n
        · exact hall i hi2 k hk
        · have : i = n := by omega
          subst this
          rw [hs] at hk
          injection hk with hk
          subst hk
          intro q
          have := of_decide_eq_false hb
          exact this (by show V.int _ = V.int _; rw [q])
    · rintro σ' H2 ⟨v2, rfl, e2, hall⟩
      rw [hz] at hall
      exact s_fault (D := { nx := fun _ _ => True, rt := fun _ _ => True }) (ea_cons ev_c (ea_cons (ev_var rfl) ea_nil)) ((kf (sign_none hall)).mono e2)
end
end KW
end
section
/-! # tokens: scans, all tokens -/
namespace KW
open PySem PySem.Spec PyProof.Rows L2 Evl
open VamvsBase (Bytes PTok isLetter isDigit isBlank)
theorem cut_nat {xs : List V} {lo hi : Nat} (h1 : lo ≤ xs.length) (h2 : hi ≤ xs.length) : cutV xs (some (lo : Int)) (some (hi : Int)) = (xs.drop lo).take (hi - lo) := by
  unfold cutV
  rw [HT.sIx_nat, HT.sIx_nat, Nat.min_eq_left h2, Nat.min_eq_left h1]
theorem s_scan {K : PySem.W.Frag} {H : Hp} {f : UInt8 → Bool} {b : Bytes} {t : Addr} {p : Nat} {tu : TT} {D : Ends} (ht : SqL K H t (b.map byV)) (hu : ∀ (q : Nat) (c : UInt8), b[q]? = some c → ∀ H', Ex H H' → EvT tu [some (.ref t), some (nV q)] H' (f c)) (k : RetV (nV (KA.sc f b p)) H D.rt) :
    tSeq (tWhile (tAnd (tTest (tOp kLt (tVar 1) (tCB (rLenS K) (tCons (tVar 0) tNil)))) tu) (tAug 1 (tC (.int 1)) (ipI fun i j => i + j))) (tRet (tVar 1)) D [some (.ref t), some (nV p)] H := by
  refine q_while (fun m σ' H' => ∃ q : Nat, σ' = [some (.ref t), some (nV q)] ∧ m = b.length - q ∧ KA.sc f b q = KA.sc f b p ∧ Ex H H') (b.length - p) ⟨p, rfl, rfl, rfl, Ex.refl H⟩ ?_
  rintro m σ' H' ⟨q, rfl, rfl, hq, e⟩
  have hlt : EvT (tTest (tOp kLt (tVar 1) (tCB (rLenS K) (tCons (tVar 0) tNil)))) [some (.ref t), some (nV q)] H' (decide (q < b.length)) := et_is (et_test (ev_op (ev_var rfl) (ev_len (ev_var rfl) (ex_l e ht)) rv_lt)) (decide_eq_decide.mpr (by rw [List.length_map]; omega))
  by_cases h : q < b.length
  · obtain ⟨c, hc⟩ : ∃ c, b[q]? = some c := ⟨_, List.getElem?_eq_getElem h⟩
    refine ⟨f c, et_is (et_and hlt (fun _ => hu q c hc H' e)) (by rw [decide_eq_true h, Bool.true_and]), fun hb H1 e1 => ⟨_, fun σ2 H2 h2 => h2, ?_⟩, fun hb H1 e1 => ?_⟩
    · refine s_aug (a := (q : Int)) (b := 1) rfl ev_c fun H2 e2 => ⟨b.length - (q + 1), by omega, q + 1, ?_, rfl, ?_, (e.trans e1).trans e2⟩
      · show [some (V.ref t), some (V.int ((q : Int) + 1))] = _
        have : ((q : Int) + 1) = ((q + 1 : Nat) : Int) := by omega
        rw [this]
      · rw [← KA.sc_yes hc hb, hq]
    · rw [KA.sc_no hc hb] at hq
      refine s_ret (ev_var rfl) fun H2 e2 => ?_
      rw [hq]
      exact k H2 ((e.trans e1).trans e2)
  · refine ⟨false, et_is (et_and (b := false) hlt (fun hh => absurd (of_decide_eq_true hh) h)) (by rw [decide_eq_false h]; rfl), fun hb => absurd hb (by decide), fun hb H1 e1 => ?_⟩
    rw [KA.sc_end (by omega)] at hq
    refine s_ret (ev_var rfl) fun H2 e2 => ?_
    rw [hq]
    exact k H2 ((e.trans e1).trans e2)
section
variable {P : Program} {w : World} {K : PySem.W.Frag} {mg : Str → Option Value} {base : Heap} {d : Ad}
theorem ev_byte {σ : L2.St} {H : Hp} {ta tb : TE} {t : Addr} {b : Bytes} {q : Nat} {c : UInt8} (ha : Ev ta σ H (.ref t)) (hb : Ev tb σ H (nV q)) (ht : SqL K H t (b.map byV)) (hc : b[q]? = some c) : Ev (tOp (rIxL K) ta tb) σ H (byV c) := ev_op ha hb (rv_ixL ht (atI_nat (at_byV hc)))
theorem ok_remark_end (T : Txt K mg d) : FnOk P w K mg base CX0 1 d.f_remark_end d.fd_remark_end P_remark_end (sp_scan K (· != 10)) := by
  refine T.F.F_remark_end.ok sc_remark_end (fun vs H Q E h => ?_) (fun cdv A outer s H vs Q E hr h => ⟨t_remark_end K d, dv_remark_end T hr, ?_⟩)
  · obtain ⟨t, b, p, rfl, _⟩ := h
    rfl
  · obtain ⟨t, b, p, rfl, ht, k⟩ := h
    refine s_scan ht (fun q c hc H' e => et_is (et_test (ev_op (ev_byte (ev_var rfl) (ev_var rfl) (ex_l e ht) hc) ev_c (rv_ne rfl))) ?_) k
    have e : decide (byV c = V.int 10) = (c == 10) := by
      by_cases h : c = 10
      · rw [h]
        rfl
      · rw [beq_eq_false_iff_ne.mpr h]
        refine decide_eq_false fun y => h ?_
        injection y with y
        exact UInt8.toNat_inj.mp (by show c.toNat = 10; omega)
    rw [e]
    rfl
theorem ok_word_end (T : Txt K mg d) : FnOk P w K mg base CX0 2 d.f_word_end d.fd_word_end P_word_end (sp_scan K (fun c => isLetter c || isDigit c)) := by
  refine T.F.F_word_end.ok sc_word_end (fun vs H Q E h => ?_) (fun cdv A outer s H vs Q E hr h => ⟨t_word_end K d sp_is_digit sp_is_letter, dv_word_end T (ok_is_digit T) (ok_is_letter T) hr, ?_⟩)
  · obtain ⟨t, b, p, rfl, _⟩ := h
    rfl
  · obtain ⟨t, b, p, rfl, ht, k⟩ := h
    exact s_scan ht (fun q c hc H' e => et_or (et_B (ev_call (vs := [byV c]) (ea_cons (ev_byte (ev_var rfl) (ev_var rfl) (ex_l e ht) hc) ea_nil) spv_letter)) (fun _ => et_B (ev_call (vs := [byV c]) (ea_cons (ev_byte (ev_var rfl) (ev_var rfl) (ex_l e ht) hc) ea_nil) spv_digit))) k
theorem ok_number_end (T : Txt K mg d) : FnOk P w K mg base CX0 2 d.f_number_end d.fd_number_end P_number_end (sp_scan K isDigit) := by
  refine T.F.F_number_end.ok sc_number_end (fun vs H Q E h => ?_) (fun cdv A outer s H vs Q E hr h => ⟨t_number_end K d sp_is_digit, dv_number_end T (ok_is_digit T) hr, ?_⟩)
  · obtain ⟨t, b, p, rfl, _⟩ := h
    rfl
  · obtain ⟨t, b, p, rfl, ht, k⟩ := h
    exact s_scan ht (fun q c hc H' e => et_B (ev_call (vs := [byV c]) (ea_cons (ev_byte (ev_var rfl) (ev_var rfl) (ex_l e ht) hc) ea_nil) spv_digit)) k
theorem spv_scan {f : UInt8 → Bool} {t : Addr} {b : Bytes} {p : Nat} {H : Hp} (ht : SqL K H t (b.map byV)) : SpV (sp_scan K f) [.ref t, nV p] H (nV (KA.sc f b p)) := fun H1 e Q q E => ⟨t, b, p, rfl, ex_l e ht, q⟩
theorem el_part {σ : L2.St} {H : Hp} {ta tb tc : TE} {f : UInt8 → Bool} {t : Addr} {b : Bytes} {p : Nat} (hp : p ≤ b.length) (ha : Ev ta σ H (.ref t)) (hb : Ev tb σ H (nV p)) (hc : Ev tc σ H (nV (KA.sc f b p))) (ht : SqL K H t (b.map byV)) : EvL (tSl (rSlL K) ta (tPart tb) (tPart tc)) σ H (((b.drop p).takeWhile f).map byV) := by
  refine el_is (el_sl ha (eo_some hb) (eo_some hc) ht) ?_
  have hle := KA.sc_le (f := f) hp
  rw [cut_nat (by rw [List.length_map]; exact hp) (by rw [List.length_map]; exact hle), ← List.map_drop, ← List.map_take, (KA.sc_cut f b p).1]
theorem sc_gt {f : UInt8 → Bool} {b : Bytes} {p : Nat} {c : UInt8} (h : b[p]? = some c) (hf : f c = true) : p < KA.sc f b p := by
  rw [KA.sc_yes h hf]
  unfold KA.sc
  omega
theorem while_all {f : UInt8 → Bool} {l : Bytes} : ∀ c ∈ l.takeWhile f, f c = true := by
  induction l with
  | nil => intro c h; cases h
  | cons a l ih =>
    intro c h
    rw [List.takeWhile_cons] at h
    by_cases q : f a = true
    · rw [if_pos q] at h
      rcases List.mem_cons.mp h with e | e
      · rw [e]
        exact q
      · exact ih c e
    · rw [if_neg q] at h
      cases h
theorem blank_in (c : UInt8) : inV (byV c) [.int 9, .int 10, .int 32] = isBlank c := by
  show (((9 : Int) == (c.toNat : Int)) || (((10 : Int) == (c.toNat : Int)) || (((32 : Int) == (c.toNat : Int)) || false))) = _
  have e : ∀ k : UInt8, ((k.toNat : Int) == (c.toNat : Int)) = (c == k) := fun k => by
    by_cases h : c = k
    · rw [h]
      simp
    · rw [beq_eq_false_iff_ne.mpr h]
      refine beq_eq_false_iff_ne.mpr fun y => h (UInt8.toNat_inj.mp (by omega))
  have e9 := e 9
  have e10 := e 10
  have e32 := e 32
  have f9 : ((9 : Int) == (c.toNat : Int)) = (c == 9) := e9
  have f10 : ((10 : Int) == (c.toNat : Int)) = (c == 10) := e10
  have f32 : ((32 : Int) == (c.toNat : Int)) = (c == 32) := e32
  rw [f9, f10, f32]
  unfold isBlank
  cases (c == 9) <;> cases (c == 10) <;> cases (c == 32) <;> rfl
theorem map_app {α β : Type} {x : Except α (List β)} {a c : List β} {y : Except α (List β)} (h : x = y.map (a ++ ·)) {z : Except α (List β)} (h2 : y = z.map (c ++ ·)) : x = z.map ((a ++ c) ++ ·) := by
  rw [h, h2]
  cases z with
  | error f => rfl
  | ok l =>
    show Except.ok (a ++ (c ++ l)) = Except.ok ((a ++ c) ++ l)
    rw [List.append_assoc]
theorem ok_tokens_of (T : Txt K mg d) : FnOk P w K mg base (L2.CX P w) 4 d.f_tokens_of d.fd_tokens_of P_tokens_of (sp_tokens_of d K) := by
  refine T.F.F_tokens_of.okX sc_tokens_of (fun vs H Q E h => ?_) (fun cdv A outer s H vs Q E hr h => ⟨t_tokens_of K d E (sp_scan K (· != 10)) sp_is_letter (sp_scan K (fun c => isLetter c || isDigit c)) (sp_word_token d) sp_is_digit (sp_scan K isDigit) (sp_number_token d) (sp_sign_token d) (sp_Token_init d),
    dv_tokens_of T (ok_remark_end T) (ok_is_letter T) (ok_word_end T) (ok_word_token T) (ok_is_digit T) (ok_number_end T) (ok_number_token T) (ok_sign_token T) (ok_Token_init T) hr, ?_⟩)
  · obtain ⟨t, b, rfl, _⟩ := h
    rfl
  · obtain ⟨t, b, rfl, ht, hb4, kf, k⟩ := h
    refine q_asgL (el_lst ea_nil (by decide)) fun fl H1 hfl0 e1 hfl1 => ?_
    refine q_asg ev_c fun H2 e2 => ?_
    refine q_while (fun m σ' H' => ∃ (p : Nat) (v3 : Option V) (toks : List PTok) (rs : List Addr), σ' = [some (.ref t), some (.ref fl), some (nV p), v3] ∧ Ex H H' ∧ H' fl = some (.lst (rs.map V.ref)) ∧ Paired (fun r x => TokAt d H' r x) rs toks ∧ p ≤ b.length ∧ toks.length ≤ p ∧ m = b.length - p ∧
      KA.lexAt b 0 = (KA.lexAt b p).map (toks ++ ·)) b.length ⟨0, none, [], [], rfl, e1.trans e2, e2.at hfl1, .nil, Nat.zero_le _, Nat.le_refl _, rfl, by
        cases KA.lexAt b 0 with
        | error f => rfl
        | ok l => rfl⟩ ?_
    rintro m σ' H3 ⟨p, v3, toks, rs, rfl, e3, hfl, hpp, hp, htl, rfl, hlex⟩
    have hrl : rs.length = toks.length := pair_len hpp
    refine ⟨decide (p < b.length), et_is (et_test (ev_op (ev_var rfl) (ev_len (ev_var rfl) (ex_l e3 ht)) rv_lt)) (decide_eq_decide.mpr (by rw [List.length_map]; omega)), fun hb H4 e4 => ⟨_, fun σ2 H2 h2 => h2, ?_⟩, fun hb H4 e4 => ?_⟩
    · have hlt := of_decide_eq_true hb
      obtain ⟨c, hc⟩ : ∃ c, b[p]? = some c := ⟨_, List.getElem?_eq_getElem hlt⟩
      -- the turn's end: a place, new tokens
      have fin : ∀ (p' : Nat) (more : List PTok) (rs' : List Addr) (H' : Hp), p < p' → p' ≤ b.length → more.length ≤ 1 → Ex H H' → H' fl = some (.lst (rs'.map V.ref)) → Paired (fun r x => TokAt d H' r x) rs' (toks ++ more) → KA.lexAt b p = (KA.lexAt b p').map (more ++ ·) →
          tAsg (tVar 3) (gName 2) { nx := fun σ2 H2 => ∃ m', m' < b.length - p ∧ ∃ (p : Nat) (v3 : Option V) (toks : List PTok) (rs : List Addr), σ2 = [some (.ref t), some (.ref fl), some (nV p), v3] ∧ Ex H H2 ∧ H2 fl = some (.lst (rs.map V.ref)) ∧ Paired (fun r x => TokAt d H2 r x) rs toks ∧ p ≤ b.length ∧ toks.length ≤ p ∧ m' = b.length - p ∧ KA.lexAt b 0 = (KA.lexAt b p).map (toks ++ ·), rt := Q }
            [some (.ref t), some (.ref fl), some (nV p), some (nV p')] H' := by
        intro p' more rs' H' h1 h2 hm eH hf hP hl
        refine s_asg (ev_var rfl) fun H5 e5 => ⟨b.length - p', by omega, p', _, toks ++ more, rs', rfl, eH.trans e5, e5.at hf, pair_imp hP fun r x y => y.mono e5, h2, ?_, rfl, map_app hlex hl⟩
        rw [List.length_append]
        omega
      have app : ∀ {x : PTok} {q : Addr} {H5 : Hp}, Ex H3 H5 → H q = none → TokAt d H5 q x → Ex H (upd H5 fl (.lst (rs.map V.ref ++ [.ref q]))) ∧ (upd H5 fl (.lst (rs.map V.ref ++ [.ref q]))) fl = some (.lst ((rs ++ [q]).map V.ref)) ∧ Paired (fun r x => TokAt d (upd H5 fl (.lst (rs.map V.ref ++ [.ref q]))) r x) (rs ++ [q]) (toks ++ [x]) := by
        intro x q H5 e5 hq hx
        have tk : ∀ {r : Addr} {y : PTok}, TokAt d H5 r y → TokAt d (upd H5 fl (.lst (rs.map V.ref ++ [.ref q]))) r y := fun {r y} ⟨dx, h⟩ => ⟨dx, by
          rw [upd_ne (fun z => by rw [z, e5.at hfl] at h; cases h)]
          exact h⟩
        refine ⟨Ex.mut (e3.trans e5) hfl0, ?_, pair_app (pair_imp hpp fun r y h => tk (h.mono e5)) (tk hx)⟩
        rw [upd_same, List.map_append]
        rfl
      refine q_asg (v := nV (p + 1)) (ev_is (ev_op (ev_var rfl) ev_c rv_add) (by show V.int _ = V.int _; congr 1)) fun H5 e5 => ?_
      have e35 := e4.trans e5
      have e05 := e3.trans e35
      refine q_if (b := (c == 35)) (et_is (et_test (ev_op (ev_byte (ev_var rfl) (ev_var rfl) (ex_l e05 ht) hc) ev_c (rv_eq rfl))) (by
        by_cases h : c = 35
        · rw [h]
          rfl
        · rw [beq_eq_false_iff_ne.mpr h]
          refine decide_eq_false fun y => h ?_
          injection y with y
          exact UInt8.toNat_inj.mp (by show c.toNat = 35; omega))) (fun h35 H6 e6 => ?_) (fun h35 H6 e6 => ?_)
      · have h35' : c = 35 := eq_of_beq h35
        subst h35'
        refine s_asg (v := nV (KA.sc (· != 10) b p)) (ev_call (vs := [.ref t, nV p]) (ea_cons (ev_var rfl) (ea_cons (ev_var rfl) ea_nil)) (spv_scan (ex_l (e05.trans e6) ht))) fun H7 e7 => ?_
        refine fin _ [] rs H7 (sc_gt hc (by decide)) (KA.sc_le hp) (by decide) ((e05.trans e6).trans e7) (((e35.trans e6).trans e7).at hfl) ?_ ?_
        · rw [List.append_nil]
          exact pair_imp hpp fun r x y => y.mono ((e35.trans e6).trans e7)
        · rw [KA.lexAt_remark hc]
          cases KA.lexAt b (KA.sc (· != 10) b p) with
          | error f => rfl
          | ok l => rfl
      · have h35' : c ≠ 35 := fun y => by
          rw [y] at h35
          cases h35
        refine s_if (et_B (ev_call (vs := [byV c]) (ea_cons (ev_byte (ev_var rfl) (ev_var rfl) (ex_l (e05.trans e6) ht) hc) ea_nil) spv_letter)) (fun hle H7 e7 => ?_) (fun hle H7 e7 => ?_)
        · have e37 := (e35.trans e6).trans e7
          have e07 := (e05.trans e6).trans e7
          have hlx := KA.lexAt_word hc hle
          have hmem : ∀ x ∈ (b.drop p).takeWhile (fun c => isLetter c || isDigit c), (isLetter x || isDigit x) = true := while_all
          refine q_asg (v := nV (KA.sc (fun c => isLetter c || isDigit c) b p)) (ev_call (vs := [.ref t, nV p]) (ea_cons (ev_var rfl) (ea_cons (ev_var rfl) ea_nil)) (spv_scan (ex_l e07 ht))) fun H8 e8 => ?_
          have e38 := e37.trans e8
          have e08 := e07.trans e8
          by_cases hn : VamvsBase.NAME < ((b.drop p).takeWhile fun c => isLetter c || isDigit c).length
          · rw [if_pos hn] at hlx
            rw [hlx] at hlex
            refine s_appF (e38.at hfl) (ev_var rfl) (ef_call1L (el_part hp (ev_var rfl) (ev_var rfl) (ev_var rfl) (ex_l e08 ht)) (ev_var rfl) fun q H9 e9 h9 Q' => ⟨q, _, p, rfl, h9, hmem, fun _ => (kf _ hlex).mono (e08.trans e9), fun h => absurd hn h⟩)
          · rw [if_neg hn] at hlx
            refine s_appR (R := fun q H2 => TokAt d H2 q ⟨p, .name ((b.drop p).takeWhile fun c => isLetter c || isDigit c)⟩) (e38.at hfl) (ev_var rfl) (er_call1L (el_part hp (ev_var rfl) (ev_var rfl) (ev_var rfl) (ex_l e08 ht)) (ev_var rfl) fun q H9 e9 h9 Q' q' => ⟨q, _, p, rfl, h9, hmem, fun h => absurd h hn, fun _ => q'⟩) (by rw [List.length_map]; omega) fun q H9 hq e9 h9 => ?_
            obtain ⟨g1, g2, g3⟩ := app (e38.trans e9) (fresh_back e08 hq) h9
            exact fin _ [_] (rs ++ [q]) _ (sc_gt hc (by show (isLetter c || isDigit c) = true; rw [hle]; rfl)) (KA.sc_le hp) (Nat.le_refl _) g1 g2 g3 hlx
        · refine s_if (et_B (ev_call (vs := [byV c]) (ea_cons (ev_byte (ev_var rfl) (ev_var rfl) (ex_l ((e05.trans e6).trans e7) ht) hc) ea_nil) spv_digit)) (fun hdi H8 e8 => ?_) (fun hdi H8 e8 => ?_)
          · have e38 := ((e35.trans e6).trans e7).trans e8
            have e08 := ((e05.trans e6).trans e7).trans e8
            have hlx := KA.lexAt_number hc hdi
            have hmem : ∀ x ∈ (b.drop p).takeWhile isDigit, isDigit x = true := while_all
            have hne : (b.drop p).takeWhile isDigit ≠ [] := by
              rw [KA.drop_at hc, List.takeWhile_cons, if_pos hdi]
              exact fun y => by cases y
            refine q_asg (v := nV (KA.sc isDigit b p)) (ev_call (vs := [.ref t, nV p]) (ea_cons (ev_var rfl) (ea_cons (ev_var rfl) ea_nil)) (spv_scan (ex_l e08 ht))) fun H9 e9 => ?_
            have e39 := e38.trans e9
            have e09 := e08.trans e9
            cases hnum : VamvsBase.numberOf ((b.drop p).takeWhile isDigit) with
            | none =>
              rw [hnum] at hlx
              rw [show KA.lexAt b p = .error ⟨2, p⟩ from hlx] at hlex
              refine s_appF (e39.at hfl) (ev_var rfl) (ef_call1L (el_part hp (ev_var rfl) (ev_var rfl) (ev_var rfl) (ex_l e09 ht)) (ev_var rfl) fun q Ha ea ha Q' => ⟨q, _, p, rfl, ha, hmem, hne, fun _ => (kf _ hlex).mono (e09.trans ea), fun n h => absurd (hnum.symm.trans h) (fun y => by cases y)⟩)
            | some n =>
              rw [hnum] at hlx
              refine s_appR (R := fun q H2 => TokAt d H2 q ⟨p, .num n⟩) (e39.at hfl) (ev_var rfl) (er_call1L (el_part hp (ev_var rfl) (ev_var rfl) (ev_var rfl) (ex_l e09 ht)) (ev_var rfl) fun q Ha ea ha Q' q' => ⟨q, _, p, rfl, ha, hmem, hne, fun h => absurd (hnum.symm.trans h) (fun y => by cases y), fun m h => by
                rw [hnum] at h
                injection h with h
                rw [← h]
                exact q'⟩) (by rw [List.length_map]; omega) fun q Ha hq ea ha => ?_
              obtain ⟨g1, g2, g3⟩ := app (e39.trans ea) (fresh_back e09 hq) ha
              exact fin _ [_] (rs ++ [q]) _ (sc_gt hc hdi) (KA.sc_le hp) (Nat.le_refl _) g1 g2 g3 hlx
          · have e38 := ((e35.trans e6).trans e7).trans e8
            have e08 := ((e05.trans e6).trans e7).trans e8
            refine s_when (et_is (et_test (ev_op (ev_byte (ev_var rfl) (ev_var rfl) (ex_l e08 ht) hc) ev_c (rv_niT (T.KT.t_BLANKS H8) rfl rfl))) (by rw [blank_in])) (fun hbl H9 e9 => ?_) (fun hbl H9 e9 => ?_)
            · have hbl' : isBlank c = false := by
                cases q : isBlank c with
                | false => rfl
                | true =>
                  rw [q] at hbl
                  cases hbl
              have e39 := e38.trans e9
              have e09 := e08.trans e9
              have hlx := KA.lexAt_sign hc hbl' h35' hle hdi
              cases hs : VamvsBase.SIGNS.contains c with
              | false =>
                rw [if_neg (by rw [hs]; decide)] at hlx
                rw [hlx] at hlex
                refine s_appF (e39.at hfl) (ev_var rfl) (ef_call (vs := [byV c, nV p]) (ea_cons (ev_byte (ev_var rfl) (ev_var rfl) (ex_l e09 ht) hc) (ea_cons (ev_var rfl) ea_nil)) fun Ha ea Q' => ⟨c, p, rfl, fun _ => (kf _ hlex).mono (e09.trans ea), fun h => absurd (hs.symm.trans h) (by decide)⟩)
              | true =>
                rw [if_pos hs] at hlx
                refine s_appR (R := fun q H2 => TokAt d H2 q ⟨p, .sign c.toNat⟩) (e39.at hfl) (ev_var rfl) (er_call (vs := [byV c, nV p]) (ea_cons (ev_byte (ev_var rfl) (ev_var rfl) (ex_l e09 ht) hc) (ea_cons (ev_var rfl) ea_nil)) fun Ha ea Q' q' => ⟨c, p, rfl, fun h => absurd (hs.symm.trans h) (by decide), fun _ => q'⟩) (by rw [List.length_map]; omega) fun q Ha hq ea ha => ?_
                obtain ⟨g1, g2, g3⟩ := app (e39.trans ea) (fresh_back e09 hq) ha
                exact fin _ [_] (rs ++ [q]) _ (Nat.lt_succ_self p) hlt (Nat.le_refl _) g1 g2 g3 hlx
            · have hbl' : isBlank c = true := by
                cases q : isBlank c with
                | true => rfl
                | false =>
                  rw [q] at hbl
                  cases hbl
              refine fin _ [] rs H9 (Nat.lt_succ_self p) hlt (by decide) (e08.trans e9) ((e38.trans e9).at hfl) ?_ ?_
              · rw [List.append_nil]
                exact pair_imp hpp fun r x y => y.mono (e38.trans e9)
              · rw [KA.lexAt_blank hc hbl']
                cases KA.lexAt b (p + 1) with
                | error f => rfl
                | ok l => rfl
    · have hge : b.length ≤ p := by
        have := of_decide_eq_false hb
        omega
      have hpe : p = b.length := Nat.le_antisymm hp hge
      rw [KA.lexAt_end hge] at hlex
      have e34 := e3.trans e4
      refine s_appR (D := { nx := _, rt := Q }) (R := fun q H2 => TokAt d H2 q ⟨p, .last⟩) (e4.at hfl) (ev_var rfl) (er_token (s := "end") (t := "") (n := 0) (p := p) (ea_cons ev_c (ea_cons ev_c (ea_cons ev_c (ea_cons (ev_is (ev_len (ev_var rfl) (ex_l e34 ht)) (by rw [List.length_map, hpe])) ea_nil))))) (by rw [List.length_map]; omega) fun q H5 hq e5 h5 => ?_
      have hf5 := (e4.trans e5).at hfl
      refine s_ret (ev_var rfl) fun H6 e6 => k _ hlex fl H6 ((Ex.mut (e34.trans e5) hfl0).trans e6) ⟨rs ++ [q], ?_, pair_app (pair_imp hpp fun r y h => ?_) ?_⟩
      · rw [List.map_append]
        exact e6.at upd_same
      · obtain ⟨dx, h⟩ := h.mono (e4.trans e5)
        refine ⟨dx, e6.at ?_⟩
        rw [upd_ne (fun z => by rw [z, hf5] at h; cases h)]
        exact h
      · obtain ⟨dx, h⟩ := h5
        refine ⟨dx, e6.at ?_⟩
        rw [upd_ne (fun z => by rw [z, hf5] at h; cases h)]
        exact h
end
end KW
end
section
/-! # reading: what stands next -/
namespace KW
open PySem PySem.Spec PyProof.Rows L2 Evl
open VamvsBase (Bytes PTok Toks tokEq next taken wrong takeSign takeWord)
/-! ### promises for what may be a fault -/
def Out {α : Type} (d : Ad) (E : XK) (B : Hp) (x : Except VamvsBase.Fault α) (k : α → Prop) : Prop := (∀ f, x = .error f → FaultW d E B f) ∧ (∀ a, x = .ok a → k a)
theorem Out.bind {α β : Type} {d : Ad} {E : XK} {B : Hp} {x : Except VamvsBase.Fault α} {g : α → Except VamvsBase.Fault β} {k : β → Prop} (h : Out d E B (x.bind g) k) : Out d E B x (fun a => Out d E B (g a) k) := by
  cases x with
  | error f =>
    refine ⟨fun f' e => h.1 f' ?_, fun a e => (nomatch e)⟩
    injection e with e
    rw [e]
    rfl
  | ok a =>
    refine ⟨fun f' e => (nomatch e), fun a' e => ?_⟩
    injection e with e
    subst e
    exact h
theorem Out.map {α β : Type} {d : Ad} {E : XK} {B : Hp} {x : Except VamvsBase.Fault α} {g : α → β} {k : β → Prop} (h : Out d E B (x.map g) k) : Out d E B x (fun a => k (g a)) := by
  cases x with
  | error f =>
    refine ⟨fun f' e => h.1 f' ?_, fun a e => (nomatch e)⟩
    injection e with e
    rw [e]
    rfl
  | ok a =>
    refine ⟨fun f' e => (nomatch e), fun a' e => ?_⟩
    injection e with e
    subst e
    exact h.2 _ rfl
theorem Out.imp {α : Type} {d : Ad} {E : XK} {B : Hp} {x : Except VamvsBase.Fault α} {k k' : α → Prop} (h : Out d E B x k) (i : ∀ a, x = .ok a → k a → k' a) : Out d E B x k' := ⟨h.1, fun a e => i a e (h.2 a e)⟩
theorem Out.ok {α : Type} {d : Ad} {E : XK} {B : Hp} {a : α} {k : α → Prop} (h : Out d E B (.ok a) k) : k a := h.2 a rfl
theorem Out.err {α : Type} {d : Ad} {E : XK} {B : Hp} {f : VamvsBase.Fault} {k : α → Prop} (h : Out d E B (.error f) k) : FaultW d E B f := h.1 f rfl
theorem Out.to {α : Type} {d : Ad} {E : XK} {B : Hp} {x y : Except VamvsBase.Fault α} {k : α → Prop} (h : Out d E B x k) (e : x = y) : Out d E B y k := e ▸ h
/-! ### the reader -/
def RSt (d : Ad) (H : Hp) (r dx tl ta : Addr) (l : Toks) : Prop := KA.EndsL l ∧ ∃ (n : Nat) (ts : Toks), H r = some (.ins d.cReader dx (fl_Reader (.ref tl) (nV n) (.ref ta))) ∧ ToksAt d H tl ts ∧ ts.drop n = l
theorem RSt.mono {d : Ad} {H H' : Hp} {r dx tl ta : Addr} {l : Toks} (e : Ex H H') (h : RSt d H r dx tl ta l) : RSt d H' r dx tl ta l := by
  obtain ⟨h1, n, ts, h2, ⟨rs, h3, h4⟩, h5⟩ := h
  exact ⟨h1, n, ts, e.at h2, ⟨rs, e.at h3, pair_imp h4 fun _ _ q => q.mono e⟩, h5⟩
/-- the reader goes on by one -/
theorem RSt.step {d : Ad} {H : Hp} {r dx tl ta : Addr} {x : PTok} {l : Toks} (h : RSt d H r dx tl ta (x :: l)) (hx : x.tok ≠ .last) : ∃ n : Nat, H r = some (.ins d.cReader dx (fl_Reader (.ref tl) (nV n) (.ref ta))) ∧
    RSt d (upd H r (.ins d.cReader dx (fl_Reader (.ref tl) (nV (n + 1)) (.ref ta)))) r dx tl ta l ∧ ∃ (rs : List Addr) (ts : Toks) (q : Addr), H tl = some (.lst (rs.map V.ref)) ∧ rs[n]? = some q ∧ TokAt d H q x ∧ q ≠ r ∧ tl ≠ r := by
  obtain ⟨h1, n, ts, h2, ⟨rs, h3, h4⟩, h5⟩ := h
  have ntl : tl ≠ r := fun y => by
    rw [y, h2] at h3
    cases h3
  have ntk : ∀ {q : Addr} {y : PTok}, TokAt d H q y → q ≠ r := fun {q y} ⟨dy, hy⟩ z => by
    rw [z, h2] at hy
    injection hy with hy
    injection hy with _ _ hy
    cases hy
  have hn : ts[n]? = some x := by
    have : (ts.drop n)[0]? = some x := by rw [h5]; rfl
    rw [List.getElem?_drop] at this
    simpa using this
  obtain ⟨q, hq, hqx⟩ := pair_get h4 hn
  refine ⟨n, h2, ⟨h1.cons hx, n + 1, ts, upd_same, ⟨rs, ?_, pair_imp h4 fun a b g => ?_⟩, ?_⟩, rs, ts, q, h3, hq, hqx, ntk hqx, ntl⟩
  · rw [upd_ne ntl]
    exact h3
  · obtain ⟨dy, hy⟩ := id g
    exact ⟨dy, by rw [upd_ne (ntk g)]; exact hy⟩
  · rw [← List.drop_drop, h5]
    rfl
/-- what is no reader keeps -/
theorem off_ex {B H H' : Hp} {r : Addr} (e : Ex B H) (hb : B r = none) (o : Off r H H') : Ex B H' := fun b u h => o b u (e b u h) (ne_of_none h hb)
/-- a token by its sort and its text -/
def KeyOk (s t : Str) (k : VamvsBase.Tok) : Prop := ∀ x : VamvsBase.Tok, (decide (V.str (tokSort x) = V.str s) && decide (V.str (tokText x) = V.str t)) = tokEq x k
theorem key_word (s : String) (hs : VamvsBase.RESERVED.contains (VamvsBase.word s) = true) (h : strOf (VamvsBase.word s) = Str.ofString s) : KeyOk "word" (Str.ofString s) (.name (VamvsBase.word s)) := by
  intro x
  rw [dec_str, dec_str]
  cases x with
  | name b =>
    show ((if VamvsBase.RESERVED.contains b = true then ("word" : Str) else "name") == ("word" : Str) && (strOf b == Str.ofString s)) = (b == VamvsBase.word s)
    by_cases q : b = VamvsBase.word s
    · rw [q, if_pos hs, h]
      simp
    · rw [beq_eq_false_iff_ne.mpr q, beq_eq_false_iff_ne.mpr fun y => q (strOf_inj (y.trans h.symm)), Bool.and_false]
  | num n => rfl
  | sign n => rfl
  | last => rfl
theorem key_sign (n : Nat) : KeyOk "sign" ⟨#[n]⟩ (.sign n) := by
  intro x
  rw [dec_str, dec_str]
  cases x with
  | name b =>
    show ((if VamvsBase.RESERVED.contains b = true then ("word" : Str) else "name") == ("sign" : Str) && _) = false
    split <;> rfl
  | num n => rfl
  | sign m =>
    show (("sign" : Str) == ("sign" : Str) && ((⟨#[m]⟩ : Str) == ⟨#[n]⟩)) = (m == n)
    by_cases q : m = n
    · rw [q]
      simp
    · have e : ((⟨#[m]⟩ : Str) == ⟨#[n]⟩) = false := beq_eq_false_iff_ne.mpr fun y => q (by
        have := congrArg (fun z : Str => z.cps.toList) y
        simpa using this)
      rw [e, beq_eq_false_iff_ne.mpr q, Bool.and_false]
  | last => rfl
theorem key_columns : KeyOk "word" "columns" (.name (VamvsBase.word "columns")) := key_word "columns" (by decide +kernel) (by decide +kernel)
theorem key_row : KeyOk "word" "row" (.name (VamvsBase.word "row")) := key_word "row" (by decide +kernel) (by decide +kernel)
theorem key_ask : KeyOk "word" "ask" (.name (VamvsBase.word "ask")) := key_word "ask" (by decide +kernel) (by decide +kernel)
theorem key_times : KeyOk "word" "times" (.name (VamvsBase.word "times")) := key_word "times" (by decide +kernel) (by decide +kernel)
theorem key_comma : KeyOk "sign" "," (.sign 44) := key_sign 44
theorem key_colon : KeyOk "sign" ":" (.sign 58) := key_sign 58
theorem key_semi : KeyOk "sign" ";" (.sign 59) := key_sign 59
theorem key_minus : KeyOk "sign" "-" (.sign 45) := key_sign 45
/-- a reference of which R tells -/
def EvX (te : TE) (σ : L2.St) (H : Hp) (R : Addr → Hp → Prop) : Prop := ∀ H1, Ex H H1 → ∀ Q : VK, (∀ p H2, Ex H1 H2 → R p H2 → Q (.ref p) H2) → te σ H1 Q
section
variable (d : Ad)
def sp_here : Sp := fun vs H Q _ => ∃ (r dx tl ta : Addr) (x : PTok) (l : Toks), vs = [.ref r] ∧ RSt d H r dx tl ta (x :: l) ∧ ∀ q H2, Ex H H2 → TokAt d H2 q x → Q (.ref q) H2
def sp_fail_if : Sp := fun vs H Q E => ∃ (r dx tl ta : Addr) (b : Bool) (kind : Nat) (l : Toks), vs = [.ref r, .bl b, nV kind] ∧ RSt d H r dx tl ta l ∧ (b = true → FaultW d E H ⟨kind, VamvsBase.here l⟩) ∧ (b = false → ∀ H2, Ex H H2 → Q .non H2)
def sp_is_next : Sp := fun vs H Q _ => ∃ (r dx tl ta : Addr) (s t : Str) (k : VamvsBase.Tok) (l : Toks), vs = [.ref r, .str s, .str t] ∧ KeyOk s t k ∧ RSt d H r dx tl ta l ∧ RetV (.bl (next k l)) H Q
def sp_look_for : Sp := fun vs H Q _ => ∃ (r dx tl ta : Addr) (s t : Str) (k : VamvsBase.Tok) (l : Toks), vs = [.ref r, .str s, .str t] ∧ KeyOk s t k ∧ k ≠ .last ∧ RSt d H r dx tl ta l ∧
  ∀ H', Off r H H' → RSt d H' r dx tl ta (if next k l = true then l.drop 1 else l) → Q (.bl (next k l)) H'
def sp_want : Sp := fun vs H Q E => ∃ (B : Hp) (r dx tl ta : Addr) (s t : Str) (k : VamvsBase.Tok) (l : Toks), vs = [.ref r, .str s, .str t] ∧ KeyOk s t k ∧ k ≠ .last ∧ RSt d H r dx tl ta l ∧ Ex B H ∧ B r = none ∧
  Out d E B (taken k l) fun l' => ∀ H', Off r H H' → RSt d H' r dx tl ta l' → Q .non H'
def sp_read_number : Sp := fun vs H Q E => ∃ (B : Hp) (r dx tl ta : Addr) (lo hi : Nat) (l : Toks), vs = [.ref r, nV lo, nV hi] ∧ RSt d H r dx tl ta l ∧ Ex B H ∧ B r = none ∧
  Out d E B (KA.takeNum lo hi l) fun a => ∀ H', Off r H H' → RSt d H' r dx tl ta a.2 → Q (nV a.1) H'
end
theorem tokEq_last {x k : VamvsBase.Tok} (h : tokEq x k = true) (hk : k ≠ .last) : x ≠ .last := fun e => by
  subst e
  cases k with
  | last => exact hk rfl
  | name b => cases h
  | num b => cases h
  | sign b => cases h
section
variable {P : Program} {w : World} {K : PySem.W.Frag} {mg : Str → Option Value} {base : Heap} {d : Ad}
theorem ok_here (T : Txt K mg d) : FnOk P w K mg base CX0 1 d.f_Reader_here d.fd_Reader_here P_Reader_here (sp_here d) := by
  refine T.F.F_Reader_here.ok sc_Reader_here (fun vs H Q E h => ?_) (fun cdv A outer s H vs Q E hr h => ⟨t_Reader_here K d, dv_Reader_here T hr, ?_⟩)
  · obtain ⟨r, dx, tl, ta, x, l, rfl, _⟩ := h
    rfl
  · obtain ⟨r, dx, tl, ta, x, l, rfl, ⟨h1, n, ts, h2, ⟨rs, h3, h4⟩, h5⟩, k⟩ := h
    have hn : ts[n]? = some x := by
      have : (ts.drop n)[0]? = some x := by rw [h5]; rfl
      rw [List.getElem?_drop] at this
      simpa using this
    obtain ⟨q, hq, hqx⟩ := pair_get h4 hn
    exact s_ret (ev_op (ev_Reader_tokens T (ev_var rfl) h2) (ev_Reader_at T (ev_var rfl) h2) (rv_ixL (sq_of h3) (v := .ref q) (atI_nat (by rw [List.getElem?_map, hq]; rfl)))) fun H1 e1 => k q H1 e1 (hqx.mono e1)
theorem ex_here {σ : L2.St} {H : Hp} {te : TE} {r dx tl ta : Addr} {x : PTok} {l : Toks} (h : Ev te σ H (.ref r)) (R : RSt d H r dx tl ta (x :: l)) : EvX (tMeth d.cReader "here" (sp_here d) [] E0 te tNil) σ H (fun q H2 => TokAt d H2 q x) := fun H1 e Q k =>
  h H1 e _ fun H2 e2 => ⟨r, _, _, rfl, (R.mono (e.trans e2)).2.choose_spec.choose_spec.1, no_Reader_here .., r, dx, tl, ta, x, l, rfl, R.mono (e.trans e2), fun q H3 e3 h3 => k q H3 (e2.trans e3) h3⟩
theorem ev_sort (T : Txt K mg d) {σ : L2.St} {H : Hp} {te : TE} {x : PTok} (h : EvX te σ H (fun q H2 => TokAt d H2 q x)) : Ev (tFld K te "sort_told") σ H (.str (tokSort x.tok)) := fun H1 e Q k =>
  h H1 e _ fun q H2 e2 ⟨dx, h2⟩ => ⟨q, d.cToken, dx, _, _, rfl, h2, T.C.cl_Token, T.C.n_Token_sort_told, lk_Token_sort_told .., k H2 e2⟩
theorem ev_text (T : Txt K mg d) {σ : L2.St} {H : Hp} {te : TE} {x : PTok} (h : EvX te σ H (fun q H2 => TokAt d H2 q x)) : Ev (tFld K te "text") σ H (.str (tokText x.tok)) := fun H1 e Q k =>
  h H1 e _ fun q H2 e2 ⟨dx, h2⟩ => ⟨q, d.cToken, dx, _, _, rfl, h2, T.C.cl_Token, T.C.n_Token_text, lk_Token_text .., k H2 e2⟩
theorem ev_number (T : Txt K mg d) {σ : L2.St} {H : Hp} {te : TE} {x : PTok} (h : EvX te σ H (fun q H2 => TokAt d H2 q x)) : Ev (tFld K te "number") σ H (nV (tokNum x.tok)) := fun H1 e Q k =>
  h H1 e _ fun q H2 e2 ⟨dx, h2⟩ => ⟨q, d.cToken, dx, _, _, rfl, h2, T.C.cl_Token, T.C.n_Token_number, lk_Token_number .., k H2 e2⟩
theorem ev_place (T : Txt K mg d) {σ : L2.St} {H : Hp} {te : TE} {x : PTok} (h : EvX te σ H (fun q H2 => TokAt d H2 q x)) : Ev (tFld K te "place") σ H (nV x.place) := fun H1 e Q k =>
  h H1 e _ fun q H2 e2 ⟨dx, h2⟩ => ⟨q, d.cToken, dx, _, _, rfl, h2, T.C.cl_Token, T.C.n_Token_place, lk_Token_place .., k H2 e2⟩
theorem ok_fail_if (T : Txt K mg d) : FnOk P w K mg base (L2.CX P w) 3 d.f_Reader_fail_if d.fd_Reader_fail_if P_Reader_fail_if (sp_fail_if d) := by
  refine T.F.F_Reader_fail_if.okX sc_Reader_fail_if (fun vs H Q E h => ?_) (fun cdv A outer s H vs Q E hr h => ⟨t_Reader_fail_if K d E (sp_Fault_init d) (sp_here d), dv_Reader_fail_if T (ok_Fault_init T) (ok_here T) hr, ?_⟩)
  · obtain ⟨r, dx, tl, ta, b, kind, l, rfl, _⟩ := h
    rfl
  · obtain ⟨r, dx, tl, ta, b, kind, l, rfl, R, kf, k⟩ := h
    refine s_when (et_B (ev_var rfl)) (fun hb H1 e1 => ?_) (fun hb H1 e1 => k hb H1 e1)
    obtain ⟨x, l', rfl⟩ := R.1.ne
    exact s_fault (D := { nx := fun _ _ => True, rt := fun _ _ => True }) (ea_cons (ev_var rfl) (ea_cons (ev_place T (ex_here (ev_var rfl) (R.mono e1))) ea_nil)) ((kf hb).mono e1)
theorem ok_is_next (T : Txt K mg d) : FnOk P w K mg base CX0 2 d.f_Reader_is_next d.fd_Reader_is_next P_Reader_is_next (sp_is_next d) := by
  refine T.F.F_Reader_is_next.ok sc_Reader_is_next (fun vs H Q E h => ?_) (fun cdv A outer s H vs Q E hr h => ⟨t_Reader_is_next K d (sp_here d), dv_Reader_is_next T (ok_here T) hr, ?_⟩)
  · obtain ⟨r, dx, tl, ta, s, t, ky, l, rfl, _⟩ := h
    rfl
  · obtain ⟨r, dx, tl, ta, s, t, ky, l, rfl, hk, R, k⟩ := h
    obtain ⟨x, l', rfl⟩ := R.1.ne
    refine s_ret (ev_is (ev_andV (ev_op (ev_sort T (ex_here (ev_var rfl) R)) (ev_var rfl) (rv_eq rfl)) (fun _ => ev_op (ev_text T (ex_here (ev_var rfl) R)) (ev_var rfl) (rv_eq rfl))) ?_) k
    rw [hk x.tok]
    rfl
theorem spv_is_next {H : Hp} {r dx tl ta : Addr} {s t : Str} {k : VamvsBase.Tok} {l : Toks} (hk : KeyOk s t k) (R : RSt d H r dx tl ta l) : SpV (sp_is_next d) [.ref r, .str s, .str t] H (.bl (next k l)) := fun H1 e Q q E => ⟨r, dx, tl, ta, s, t, k, l, rfl, hk, R.mono e, q⟩
/-- self.at += 1 -/
theorem q_step (T : Txt K mg d) {σ : L2.St} {H : Hp} {te : TE} {r dx tl ta : Addr} {x : PTok} {l : Toks} {tz : TS} {D : Ends} (h : Ev te σ H (.ref r)) (R : RSt d H r dx tl ta (x :: l)) (hx : x.tok ≠ .last)
    (k : ∀ H', Off r H H' → RSt d H' r dx tl ta l → (∃ (n : Nat) (rs : List Addr) (q : Addr), H' r = some (.ins d.cReader dx (fl_Reader (.ref tl) (nV (n + 1)) (.ref ta))) ∧ H' tl = some (.lst (rs.map V.ref)) ∧ rs[n]? = some q ∧ TokAt d H' q x) → tz D σ H') :
    tSeq (sFldAug K te (tC (.int 1)) rAdd "at") tz D σ H := h H (Ex.refl H) _ fun H1 e1 => by
  obtain ⟨n, h2, R', rs, ts, q, h3, hq, hqx, nq, nt⟩ := (R.mono e1).step hx
  refine ⟨r, d.cReader, dx, _, _, rfl, h2, T.C.cl_Reader, T.C.n_Reader_at, lk_Reader_at .., (n : Int), 1, rfl, rfl, dx, _, h2, (by show 3 < 1000; decide), ?_⟩
  rw [pt_Reader_at]
  have e : ((n : Int) + 1) = ((n + 1 : Nat) : Int) := by omega
  rw [e]
  refine k _ (e1.off.trans Off.upd) R' ⟨n, rs, q, upd_same, ?_, hq, ?_⟩
  · rw [upd_ne nt]
    exact h3
  · obtain ⟨dy, hy⟩ := hqx
    exact ⟨dy, by rw [upd_ne nq]; exact hy⟩
theorem ok_look_for (T : Txt K mg d) : FnOk P w K mg base CX0 3 d.f_Reader_look_for d.fd_Reader_look_for P_Reader_look_for (sp_look_for d) := by
  refine T.F.F_Reader_look_for.ok sc_Reader_look_for (fun vs H Q E h => ?_) (fun cdv A outer s H vs Q E hr h => ⟨t_Reader_look_for K d (sp_is_next d), dv_Reader_look_for T (ok_is_next T) hr, ?_⟩)
  · obtain ⟨r, dx, tl, ta, s, t, ky, l, rfl, _⟩ := h
    rfl
  · obtain ⟨r, dx, tl, ta, s, t, ky, l, rfl, hk, hkl, R, k⟩ := h
    refine q_when (et_not (et_B (ev_methG (ev_var rfl) R.2.choose_spec.choose_spec.1 (no_Reader_is_next ..) (ea_cons (ev_var rfl) (ea_cons (ev_var rfl) ea_nil)) (spv_is_next hk R)))) (fun hb H1 e1 => ?_) (fun hb H1 e1 => ?_)
    · have hn : next ky l = false := by
        cases q : next ky l with
        | false => rfl
        | true =>
          rw [q] at hb
          cases hb
      rw [hn] at k
      exact s_ret ev_c fun H2 e2 => k H2 ((e1.trans e2).off) ((R.mono e1).mono e2)
    · have hn : next ky l = true := by
        cases q : next ky l with
        | true => rfl
        | false =>
          rw [q] at hb
          cases hb
      rw [hn] at k
      obtain ⟨x, l', rfl⟩ := R.1.ne
      refine q_step T (ev_var rfl) (R.mono e1) (tokEq_last hn hkl) fun H2 o2 R2 _ => ?_
      exact s_ret ev_c fun H3 e3 => k H3 ((e1.off.trans o2).ex e3) (R2.mono e3)
theorem ok_want (T : Txt K mg d) : FnOk P w K mg base (L2.CX P w) 4 d.f_Reader_want d.fd_Reader_want P_Reader_want (sp_want d) := by
  refine T.F.F_Reader_want.okX sc_Reader_want (fun vs H Q E h => ?_) (fun cdv A outer s H vs Q E hr h => ⟨t_Reader_want K d E (sp_fail_if d) (sp_look_for d), dv_Reader_want T (ok_fail_if T) (ok_look_for T) hr, ?_⟩)
  · obtain ⟨B, r, dx, tl, ta, s, t, ky, l, rfl, _⟩ := h
    rfl
  · obtain ⟨B, r, dx, tl, ta, s, t, ky, l, rfl, hk, hkl, R, eB, hB, O⟩ := h
    have h2 := R.2.choose_spec.choose_spec.1
    refine ⟨_, rfl, r, _, _, rfl, h2, no_Reader_fail_if .., ⟨_, rfl, r, _, _, rfl, h2, no_Reader_look_for .., _, rfl, _, rfl, r, dx, tl, ta, s, t, ky, l, rfl, hk, hkl, R, fun H' o' R' => ⟨_, rfl, r, dx, tl, ta, !(next ky l), 3, _, rfl, R', fun hb => ?_, fun hb H2 e2 => ?_⟩⟩⟩
    · have hn : next ky l = false := by
        cases q : next ky l with
        | false => rfl
        | true =>
          rw [q] at hb
          cases hb
      rw [hn, if_neg (by decide)]
      unfold taken at O
      rw [hn, if_neg (by decide)] at O
      exact (Out.err O).mono (off_ex eB hB o')
    · have hn : next ky l = true := by
        cases q : next ky l with
        | true => rfl
        | false =>
          rw [q] at hb
          cases hb
      rw [hn, if_pos rfl] at R'
      unfold taken at O
      rw [hn, if_pos rfl] at O
      exact Out.ok O H2 (o'.ex e2) (R'.mono e2)
end
end KW
end
section
/-! # reading: numbers, columns -/
namespace KW
open PySem PySem.Spec PyProof.Rows L2 Evl
open VamvsBase (Bytes PTok Toks tokEq next taken wrong takeSign takeWord takeName)
abbrev byS (b : Bytes) : V := .str (strOf b)
theorem num_or (x : VamvsBase.Tok) : (∃ n, x = .num n) ∨ (!decide (V.str (tokSort x) = V.str "number")) = true := by
  cases x with
  | name b =>
    refine .inr ?_
    rw [dec_str]
    show (!((if VamvsBase.RESERVED.contains b = true then ("word" : Str) else "name") == ("number" : Str))) = true
    split <;> rfl
  | num n => exact .inl ⟨n, rfl⟩
  | sign n => exact .inr (by rw [dec_str]; rfl)
  | last => exact .inr (by rw [dec_str]; rfl)
theorem num_wrong {x : PTok} {l : Toks} (lo hi : Nat) (h : (!decide (V.str (tokSort x.tok) = V.str "number")) = true) : KA.takeNum lo hi (x :: l) = .error ⟨3, x.place⟩ := by
  obtain ⟨p, t⟩ := x
  cases t with
  | num n =>
    rw [dec_str] at h
    exact absurd h (by show ¬ ((!(("number" : Str) == "number")) = true); decide)
  | name b => rfl
  | sign n => rfl
  | last => rfl
theorem name_or (x : VamvsBase.Tok) : (∃ b, x = .name b ∧ VamvsBase.RESERVED.contains b = false) ∨ (!decide (V.str (tokSort x) = V.str "name")) = true := by
  cases x with
  | name b =>
    cases q : VamvsBase.RESERVED.contains b with
    | false => exact .inl ⟨b, rfl, q⟩
    | true =>
      refine .inr ?_
      rw [dec_str]
      show (!((if VamvsBase.RESERVED.contains b = true then ("word" : Str) else "name") == ("name" : Str))) = true
      rw [if_pos q]
      rfl
  | num n => exact .inr (by rw [dec_str]; rfl)
  | sign n => exact .inr (by rw [dec_str]; rfl)
  | last => exact .inr (by rw [dec_str]; rfl)
theorem name_sort {b : Bytes} (h : VamvsBase.RESERVED.contains b = false) : tokSort (.name b) = "name" := by
  show (if VamvsBase.RESERVED.contains b = true then ("word" : Str) else "name") = _
  rw [h]
  rfl
theorem name_wrong {x : PTok} {l : Toks} (h : (!decide (V.str (tokSort x.tok) = V.str "name")) = true) : takeName (x :: l) = .error ⟨3, x.place⟩ := by
  obtain ⟨p, t⟩ := x
  cases t with
  | num n => rfl
  | name b =>
    cases q : VamvsBase.RESERVED.contains b with
    | false =>
      rw [dec_str] at h
      have e : tokSort (.name b) = "name" := name_sort q
      rw [e] at h
      cases h
    | true =>
      show (if VamvsBase.RESERVED.contains b = true then wrong _ else _) = _
      rw [if_pos q]
      rfl
  | sign n => rfl
  | last => rfl
theorem name_ok {p : Nat} {b : Bytes} {l : Toks} (h : VamvsBase.RESERVED.contains b = false) : takeName (⟨p, .name b⟩ :: l) = .ok (⟨p, b⟩, l) := by
  show (if VamvsBase.RESERVED.contains b = true then wrong _ else _) = _
  rw [if_neg (by rw [h]; decide)]
theorem eqV_str (a b : Bytes) : eqV (byS a) (byS b) = (a == b) := by
  show ((strOf a) == (strOf b)) = _
  by_cases q : a = b
  · rw [q]
    simp
  · rw [beq_eq_false_iff_ne.mpr q, beq_eq_false_iff_ne.mpr fun y => q (strOf_inj y)]
theorem in_cols (b : Bytes) : ∀ cs : List Bytes, inV (byS b) (cs.map byS) = cs.contains b
  | [] => rfl
  | c :: cs => by
    show (eqV (byS c) (byS b) || inV (byS b) (cs.map byS)) = _
    rw [eqV_str, in_cols b cs, List.contains_cons]
    have e : (c == b) = (b == c) := by
      by_cases q : c = b
      · rw [q]
      · rw [beq_eq_false_iff_ne.mpr q, beq_eq_false_iff_ne.mpr fun y => q y.symm]
    rw [e]
theorem flat_cols : ∀ cs : List Bytes, (cs.map byS).all flatV = true
  | [] => rfl
  | c :: cs => by
    show (flatV (byS c) && (cs.map byS).all flatV) = true
    rw [flat_cols cs]
    rfl
/-- all but two stay -/
def Off2 (r c : Addr) (H H' : Hp) : Prop := ∀ b o, H b = some o → b ≠ r → b ≠ c → H' b = some o
theorem Off2.trans {r c : Addr} {H H1 H2 : Hp} (x : Off2 r c H H1) (y : Off2 r c H1 H2) : Off2 r c H H2 := fun b o h h1 h2 => y b o (x b o h h1 h2) h1 h2
theorem Off2.ex {r c : Addr} {H H1 H2 : Hp} (x : Off2 r c H H1) (y : Ex H1 H2) : Off2 r c H H2 := fun b o h h1 h2 => y b o (x b o h h1 h2)
theorem Off.two {r c : Addr} {H H1 : Hp} (x : Off r H H1) : Off2 r c H H1 := fun b o h h1 _ => x b o h h1
theorem Off2.upd {r c : Addr} {H : Hp} {o : HO} : Off2 r c H (upd H c o) := fun b u h _ h2 => by
  rw [upd_ne h2]
  exact h
theorem off2_ex {B H H' : Hp} {r c : Addr} (e : Ex B H) (hb : B r = none) (hc : B c = none) (o : Off2 r c H H') : Ex B H' := fun b u h => o b u (e b u h) (ne_of_none h hb) (ne_of_none h hc)
theorem Off.mut {r p : Addr} {H H' : Hp} {o : HO} (x : Off r H H') (h : H p = none) : Off r H (L2.upd H' p o) := fun b u hb hr => by
  rw [upd_ne (ne_of_none hb h)]
  exact x b u hb hr
theorem Ex.to2 {r c : Addr} {H H1 : Hp} (x : Ex H H1) : Off2 r c H H1 := fun b o h _ _ => x b o h
theorem RSt.lst {d : Ad} {H : Hp} {r dx tl ta : Addr} {l : Toks} (R : RSt d H r dx tl ta l) {b : Addr} {xs : List V} (h : H b = some (.lst xs)) : b ≠ r := fun e => by
  obtain ⟨_, n, ts, h2, _⟩ := R
  rw [e, h2] at h
  cases h
theorem RSt.ins {d : Ad} {H : Hp} {r dx tl ta : Addr} {l : Toks} (R : RSt d H r dx tl ta l) {b C dx' : Addr} {u v w : V} (h : H b = some (.ins C dx' (fl_Table u v w))) : b ≠ r := fun e => by
  obtain ⟨_, n, ts, h2, _⟩ := R
  rw [e, h2] at h
  injection h with h
  injection h with _ _ h
  injection h with h
  injection h with h
  exact absurd h (by decide +kernel)
/-- what is neither reader nor token may change -/
theorem RSt.lstUpd {d : Ad} {H : Hp} {r dx tl ta : Addr} {l : Toks} (R : RSt d H r dx tl ta l) {b : Addr} {xs : List V} {o : HO} (h : H b = some (.lst xs)) (nb : b ≠ tl) : RSt d (upd H b o) r dx tl ta l := by
  obtain ⟨h1, n, ts, h2, ⟨rs, h3, h4⟩, h5⟩ := R
  refine ⟨h1, n, ts, ?_, ⟨rs, ?_, pair_imp h4 fun a x ⟨dy, q⟩ => ⟨dy, ?_⟩⟩, h5⟩
  · rw [upd_ne fun e => by rw [← e, h2] at h; cases h]
    exact h2
  · rw [upd_ne (Ne.symm nb)]
    exact h3
  · rw [upd_ne fun e => by rw [← e, q] at h; cases h]
    exact q
theorem RSt.tl {d : Ad} {H : Hp} {r dx tl ta : Addr} {l : Toks} (R : RSt d H r dx tl ta l) : ∃ rs : List Addr, rs ≠ [] ∧ H tl = some (.lst (rs.map V.ref)) := by
  obtain ⟨h1, n, ts, h2, ⟨rs, h3, h4⟩, h5⟩ := R
  refine ⟨rs, fun e => ?_, h3⟩
  obtain ⟨x, l', rfl⟩ := h1.ne
  subst e
  have hl := pair_len h4
  have : ts = [] := List.length_eq_zero_iff.mp hl.symm
  rw [this] at h5
  simp at h5
/-! ### promises -/
section
variable (d : Ad)
def TabC (H : Hp) (ta dxt ca ra qa : Addr) (cs : List Bytes) : Prop := H ta = some (.ins d.cTable dxt (fl_Table (.ref ca) (.ref ra) (.ref qa))) ∧ H ca = some (.lst (cs.map byS))
def sp_read_column : Sp := fun vs H Q E => ∃ (B : Hp) (r dx tl ta dxt ca ra qa : Addr) (cs : List Bytes) (l : Toks), vs = [.ref r] ∧ RSt d H r dx tl ta l ∧ TabC d H ta dxt ca ra qa cs ∧ tl ≠ ca ∧ Ex B H ∧ B r = none ∧ B ca = none ∧ cs.length ≤ 4 ∧
  Out d E B (KA.takeCol cs l) fun a => ∀ H', Off2 r ca H H' → RSt d H' r dx tl ta a.2 → H' ca = some (.lst (a.1.map byS)) → Q .non H'
def sp_read_columns : Sp := fun vs H Q E => ∃ (B : Hp) (r dx tl ta dxt ca ra qa : Addr) (l : Toks), vs = [.ref r] ∧ RSt d H r dx tl ta l ∧ TabC d H ta dxt ca ra qa [] ∧ tl ≠ ca ∧ Ex B H ∧ B r = none ∧ B ca = none ∧
  Out d E B ((takeWord "columns" l).bind fun m => Vamvsa.takeColumns (m.length + 1) [] m) fun a => ∀ H', Off2 r ca H H' → RSt d H' r dx tl ta a.2 → H' ca = some (.lst (a.1.map byS)) → Q .non H'
end
theorem TabC.mono {d : Ad} {H H' : Hp} {ta dxt ca ra qa : Addr} {cs : List Bytes} (e : Ex H H') (h : TabC d H ta dxt ca ra qa cs) : TabC d H' ta dxt ca ra qa cs := ⟨e.at h.1, e.at h.2⟩
theorem TabC.off {d : Ad} {H H' : Hp} {r dx tl ta dxt ca ra qa : Addr} {cs : List Bytes} {l : Toks} (R : RSt d H r dx tl ta l) (o : Off r H H') (h : TabC d H ta dxt ca ra qa cs) : TabC d H' ta dxt ca ra qa cs := ⟨o _ _ h.1 (R.ins h.1), o _ _ h.2 (R.lst h.2)⟩
section
variable {P : Program} {w : World} {K : PySem.W.Frag} {mg : Str → Option Value} {base : Heap} {d : Ad}
/-! ### statements of the reader -/
section
variable {σ : L2.St} {H B : Hp} {te tb : TE} {r dx tl ta : Addr} {l : Toks} {D : Ends} {tz : TS} {E : XK}
theorem s_fail (h : Ev te σ H (.ref r)) (R : RSt d H r dx tl ta l) {b : Bool} (kind : Nat) (hb : Ev tb σ H (.bl b)) (kf : b = true → FaultW d E H ⟨kind, VamvsBase.here l⟩) (k : b = false → ∀ H1, Ex H H1 → D.nx σ H1) :
    tDrop (tMeth d.cReader "fail_if" (sp_fail_if d) [] E te (tCons tb (tCons (tC (nV kind)) tNil))) D σ H :=
  h H (Ex.refl H) _ fun H1 e1 => ⟨r, _, _, rfl, (R.mono e1).2.choose_spec.choose_spec.1, no_Reader_fail_if .., hb H1 e1 _ fun H2 e2 => ⟨r, dx, tl, ta, b, kind, l, rfl, R.mono (e1.trans e2), fun q => (kf q).mono (e1.trans e2), fun q H3 e3 => k q H3 ((e1.trans e2).trans e3)⟩⟩
theorem q_fail (h : Ev te σ H (.ref r)) (R : RSt d H r dx tl ta l) {b : Bool} (kind : Nat) (hb : Ev tb σ H (.bl b)) (kf : b = true → FaultW d E H ⟨kind, VamvsBase.here l⟩) (k : b = false → ∀ H1, Ex H H1 → tz D σ H1) :
    tSeq (tDrop (tMeth d.cReader "fail_if" (sp_fail_if d) [] E te (tCons tb (tCons (tC (nV kind)) tNil)))) tz D σ H := s_fail (D := { D with nx := tz D }) h R kind hb kf k
/-- a fault, for sure -/
theorem q_fault (h : Ev te σ H (.ref r)) (R : RSt d H r dx tl ta l) (kind : Nat) (hb : Ev tb σ H (.bl true)) (kf : FaultW d E H ⟨kind, VamvsBase.here l⟩) :
    tSeq (tDrop (tMeth d.cReader "fail_if" (sp_fail_if d) [] E te (tCons tb (tCons (tC (nV kind)) tNil)))) tz D σ H := q_fail h R kind hb (fun _ => kf) (fun q => by cases q)
theorem s_want (hv : σ[0]? = some (some (.ref r))) {s t : Str} {k : VamvsBase.Tok} (hk : KeyOk s t k) (hkl : k ≠ .last) (R : RSt d H r dx tl ta l) (eB : Ex B H) (hB : B r = none) {K1 : Toks → Prop} (O : Out d E B (taken k l) K1)
    (kk : ∀ l' H', K1 l' → Off r H H' → RSt d H' r dx tl ta l' → l' = l.drop 1 → D.nx σ H') : tDrop (tMeth d.cReader "want" (sp_want d) [] E (tVar 0) (tCons (tC (.str s)) (tCons (tC (.str t)) tNil))) D σ H :=
  ⟨_, hv, r, _, _, rfl, R.2.choose_spec.choose_spec.1, no_Reader_want .., B, r, dx, tl, ta, s, t, k, l, rfl, hk, hkl, R, eB, hB, O.imp fun l' e k1 H' o R' => kk l' H' k1 o R' (KA.taken_len e)⟩
theorem q_want (hv : σ[0]? = some (some (.ref r))) {s t : Str} {k : VamvsBase.Tok} (hk : KeyOk s t k) (hkl : k ≠ .last) (R : RSt d H r dx tl ta l) (eB : Ex B H) (hB : B r = none) {K1 : Toks → Prop} (O : Out d E B (taken k l) K1)
    (kk : ∀ l' H', K1 l' → Off r H H' → RSt d H' r dx tl ta l' → l' = l.drop 1 → tz D σ H') : tSeq (tDrop (tMeth d.cReader "want" (sp_want d) [] E (tVar 0) (tCons (tC (.str s)) (tCons (tC (.str t)) tNil)))) tz D σ H := s_want (D := { D with nx := tz D }) hv hk hkl R eB hB O kk
theorem te_look (hv : σ[0]? = some (some (.ref r))) {s t : Str} {k : VamvsBase.Tok} (hk : KeyOk s t k) (hkl : k ≠ .last) (R : RSt d H r dx tl ta l) {Q : VK} (kk : ∀ H', Off r H H' → RSt d H' r dx tl ta (if next k l = true then l.drop 1 else l) → Q (.bl (next k l)) H') :
    tMeth d.cReader "look_for" (sp_look_for d) [] E0 (tVar 0) (tCons (tC (.str s)) (tCons (tC (.str t)) tNil)) σ H Q :=
  ⟨_, hv, r, _, _, rfl, R.2.choose_spec.choose_spec.1, no_Reader_look_for .., r, dx, tl, ta, s, t, k, l, rfl, hk, hkl, R, kk⟩
theorem tt_look (hv : σ[0]? = some (some (.ref r))) {s t : Str} {k : VamvsBase.Tok} (hk : KeyOk s t k) (hkl : k ≠ .last) (R : RSt d H r dx tl ta l) {Q : Bool → Hp → Prop} (kk : ∀ H', Off r H H' → RSt d H' r dx tl ta (if next k l = true then l.drop 1 else l) → Q (next k l) H') :
    tB (tMeth d.cReader "look_for" (sp_look_for d) [] E0 (tVar 0) (tCons (tC (.str s)) (tCons (tC (.str t)) tNil))) σ H Q := te_look hv hk hkl R fun H' o R' => ⟨_, rfl, kk H' o R'⟩
theorem te_num (hv : σ[0]? = some (some (.ref r))) (lo hi : Nat) (R : RSt d H r dx tl ta l) (eB : Ex B H) (hB : B r = none) {K1 : Nat × Toks → Prop} (O : Out d E B (KA.takeNum lo hi l) K1) {Q : VK}
    (kk : ∀ (a : Nat × Toks) H', K1 a → Off r H H' → RSt d H' r dx tl ta a.2 → Q (nV a.1) H') : tMeth d.cReader "read_number" (sp_read_number d) [] E (tVar 0) (tCons (tC (nV lo)) (tCons (tC (nV hi)) tNil)) σ H Q :=
  ⟨_, hv, r, _, _, rfl, R.2.choose_spec.choose_spec.1, no_Reader_read_number .., B, r, dx, tl, ta, lo, hi, l, rfl, R, eB, hB, O.imp fun a _ k1 H' o R' => kk a H' k1 o R'⟩
/-- xs.append(what is read) -/
theorem s_appQ {c : Addr} {xs : List V} (hc : H c = some (.lst xs)) (ha : Ev tb σ H (.ref c)) (hz : xs.length < 100000) (h : ∀ H1, Ex H H1 → ∀ Q : VK, (∀ v H2, H2 c = some (.lst xs) → D.nx σ (upd H2 c (.lst (xs ++ [v]))) → Q v H2) → te σ H1 Q) :
    tDrop (tBM K "list" rAppend tb (tCons te tNil)) D σ H := ha H (Ex.refl H) _ fun H1 e1 =>
  ⟨Or.inl ⟨rfl, xs, sq_of (e1 c _ hc)⟩, h H1 e1 _ fun v H2 h2 q => ⟨c, xs, v, rfl, rfl, h2, sz_lt hz, q⟩⟩
theorem s_step (T : Txt K mg d) {x : PTok} (h : Ev te σ H (.ref r)) (R : RSt d H r dx tl ta (x :: l)) (hx : x.tok ≠ .last) (k : ∀ H', Off r H H' → RSt d H' r dx tl ta l → D.nx σ H') : sFldAug K te (tC (.int 1)) rAdd "at" D σ H :=
  q_step (tz := fun D σ H => D.nx σ H) T h R hx (fun H' o R' _ => k H' o R')
end
theorem ok_read_number (T : Txt K mg d) : FnOk P w K mg base (L2.CX P w) 4 d.f_Reader_read_number d.fd_Reader_read_number P_Reader_read_number (sp_read_number d) := by
  refine T.F.F_Reader_read_number.okX sc_Reader_read_number (fun vs H Q E h => ?_) (fun cdv A outer s H vs Q E hr h => ⟨t_Reader_read_number K d E (sp_fail_if d) (sp_here d), dv_Reader_read_number T (ok_fail_if T) (ok_here T) hr, ?_⟩)
  · obtain ⟨B, r, dx, tl, ta, lo, hi, l, rfl, _⟩ := h
    rfl
  · obtain ⟨B, r, dx, tl, ta, lo, hi, l, rfl, R, eB, hB, O⟩ := h
    obtain ⟨x, l', rfl⟩ := R.1.ne
    refine q_fail (ev_var rfl) R 3 (ev_op (ev_sort T (ex_here (ev_var rfl) R)) ev_c (rv_ne rfl)) (fun hb => ?_) (fun hb H1 e1 => ?_)
    · rw [num_wrong lo hi hb] at O
      exact (Out.err O).mono eB
    · obtain ⟨n, hn⟩ : ∃ n, x.tok = .num n := by
        rcases num_or x.tok with h | h
        · exact h
        · rw [h] at hb
          cases hb
      obtain ⟨p, t⟩ := x
      dsimp only at hn
      subst hn
      have O' : Out d E B (if n < lo ∨ hi < n then .error ⟨7, p⟩ else .ok (n, l')) _ := O
      refine q_fail (b := !(decide (((lo : Nat) : Int) ≤ ((n : Nat) : Int)) && decide (((n : Nat) : Int) ≤ ((hi : Nat) : Int)))) (ev_var rfl) (R.mono e1) 7 (ev_notV (ev_between (ev_var rfl) (ev_number T (ex_here (ev_var rfl) (R.mono e1))) (ev_var rfl))) (fun hb2 => ?_) (fun hb2 H2 e2 => ?_)
      · have hc : n < lo ∨ hi < n := by
          simp at hb2
          omega
        rw [if_pos hc] at O'
        exact (Out.err O').mono (eB.trans e1)
      · have hc : ¬ (n < lo ∨ hi < n) := by
          simp at hb2
          omega
        rw [if_neg hc] at O'
        refine q_step T (ev_var rfl) (R.mono (e1.trans e2)) (fun y => by cases y) fun H3 o3 R3 ⟨m, rs, q, g1, g2, g3, g4⟩ => ?_
        refine s_ret (ev_number T (x := ⟨p, .num n⟩) (fun H4 e4 Q' k' => ?_)) fun H4 e4 => Out.ok O' H4 (((e1.trans e2).off.trans o3).ex e4) (R3.mono e4)
        refine (ev_op (z := .ref q) (ev_Reader_tokens T (ev_var rfl) g1) (ev_op (ev_Reader_at T (ev_var rfl) g1) ev_c rv_sub) (rv_ixL (sq_of g2) ?_)) H4 e4 Q' fun H5 e5 => k' q H5 e5 (g4.mono (e4.trans e5))
        have e : ((m + 1 : Nat) : Int) - 1 = (m : Int) := by omega
        rw [e]
        exact atI_nat (by rw [List.getElem?_map, g3]; rfl)
theorem col_is {cs : List Bytes} {p : Nat} {b : Bytes} {l : Toks} (h : VamvsBase.RESERVED.contains b = false) : KA.takeCol cs (⟨p, .name b⟩ :: l) = if 4 ≤ cs.length then .error ⟨4, p⟩ else if cs.contains b = true then .error ⟨5, p⟩ else .ok (cs ++ [b], l) := by
  unfold KA.takeCol
  rw [name_ok h]
  rfl
theorem ok_read_column (T : Txt K mg d) : FnOk P w K mg base (L2.CX P w) 4 d.f_Reader_read_column d.fd_Reader_read_column P_Reader_read_column (sp_read_column d) := by
  refine T.F.F_Reader_read_column.okX sc_Reader_read_column (fun vs H Q E h => ?_) (fun cdv A outer s H vs Q E hr h => ⟨t_Reader_read_column K d E (sp_fail_if d) (sp_here d), dv_Reader_read_column T (ok_fail_if T) (ok_here T) hr, ?_⟩)
  · obtain ⟨B, r, dx, tl, ta, dxt, ca, ra, qa, cs, l, rfl, _⟩ := h
    rfl
  · obtain ⟨B, r, dx, tl, ta, dxt, ca, ra, qa, cs, l, rfl, R, hT, ntl, eB, hB, hBc, hcs, O⟩ := h
    obtain ⟨x, l', rfl⟩ := R.1.ne
    refine q_fail (ev_var rfl) R 3 (ev_op (ev_sort T (ex_here (ev_var rfl) R)) ev_c (rv_ne rfl)) (fun hb => ?_) (fun hb H1 e1 => ?_)
    · unfold KA.takeCol at O
      rw [name_wrong hb] at O
      exact (Out.err O).mono eB
    · obtain ⟨b, hbn, hres⟩ : ∃ b, x.tok = .name b ∧ VamvsBase.RESERVED.contains b = false := by
        rcases name_or x.tok with h | h
        · exact h
        · rw [h] at hb
          cases hb
      obtain ⟨p, t⟩ := x
      dsimp only at hbn
      subst hbn
      rw [col_is hres] at O
      refine q_asg (ev_Table_columns T (ev_Reader_table T (ev_var rfl) (R.mono e1).2.choose_spec.choose_spec.1) (e1.at hT.1)) fun H2 e2 => ?_
      have e02 := e1.trans e2
      refine q_fail (ev_var rfl) (R.mono e02) 4 (ev_op (ev_len (ev_var rfl) (sq_of (e02.at hT.2))) ev_c rv_ge) (fun hb2 => ?_) (fun hb2 H3 e3 => ?_)
      · have hc : 4 ≤ cs.length := by
          have := of_decide_eq_true hb2
          rw [List.length_map] at this
          omega
        rw [if_pos hc] at O
        exact (Out.err O).mono (eB.trans e02)
      · have hc : ¬ 4 ≤ cs.length := by
          have := of_decide_eq_false hb2
          rw [List.length_map] at this
          omega
        rw [if_neg hc] at O
        have e03 := e02.trans e3
        refine q_fail (ev_var rfl) (R.mono e03) 5 (ev_op (ev_text T (ex_here (ev_var rfl) (R.mono e03))) (ev_var rfl) (rv_isL (sq_of (e03.at hT.2)) rfl (flat_cols cs))) (fun hb3 => ?_) (fun hb3 H4 e4 => ?_)
        · rw [show inV (V.str (tokText (VamvsBase.Tok.name b))) (cs.map byS) = cs.contains b from in_cols b cs] at hb3
          rw [if_pos hb3] at O
          exact (Out.err O).mono (eB.trans e03)
        · rw [show inV (V.str (tokText (VamvsBase.Tok.name b))) (cs.map byS) = cs.contains b from in_cols b cs] at hb3
          rw [if_neg (by rw [hb3]; decide)] at O
          have e04 := e03.trans e4
          refine q_app (e04.at hT.2) (ev_var rfl) (ev_text T (ex_here (ev_var rfl) (R.mono e04))) (by rw [List.length_map]; omega) fun H5 e5 => ?_
          have e05 := e04.trans e5
          have hca := e05.at hT.2
          have R5 := (R.mono e05).lstUpd (o := .lst (cs.map byS ++ [V.str (tokText (VamvsBase.Tok.name b))])) hca (Ne.symm ntl)
          refine s_step T (ev_var rfl) R5 (fun y => by cases y) fun H6 o6 R6 => ?_
          refine Out.ok O H6 ((Ex.to2 e05).trans (Off2.upd.trans o6.two)) R6 ?_
          rw [o6 ca _ upd_same ((R.mono e05).lst hca), List.map_append]
          rfl
end
end KW
end
section
/-! # reading: all columns, rows -/
namespace KW
open PySem PySem.Spec PyProof.Rows L2 Evl
open VamvsBase (Bytes PTok Toks tokEq next taken wrong takeSign takeWord takeName)
section
variable (d : Ad)
def sp_read_row : Sp := fun vs H Q E => ∃ (B : Hp) (r dx tl ta dxt ca ra qa : Addr) (cs : List Bytes) (l : Toks), vs = [.ref r] ∧ RSt d H r dx tl ta l ∧ TabC d H ta dxt ca ra qa cs ∧ Ex B H ∧ B r = none ∧ cs.length ≤ 4 ∧
  Out d E B (KA.rowOf cs.length l) fun a => ∀ p H', H p = none → Off r H H' → RSt d H' r dx tl ta a.2 → H' p = some (.lst (a.1.1.map nV)) → Q (.ref p) H'
end
section
variable {P : Program} {w : World} {K : PySem.W.Frag} {mg : Str → Option Value} {base : Heap} {d : Ad}
section
variable {σ : L2.St} {H B : Hp} {r dx tl ta dxt ca ra qa : Addr} {l : Toks} {D : Ends} {tz : TS} {E : XK} {cs : List Bytes}
theorem s_col (hv : σ[0]? = some (some (.ref r))) (R : RSt d H r dx tl ta l) (hT : TabC d H ta dxt ca ra qa cs) (ntl : tl ≠ ca) (eB : Ex B H) (hB : B r = none) (hBc : B ca = none) (hcs : cs.length ≤ 4) {K1 : List Bytes × Toks → Prop} (O : Out d E B (KA.takeCol cs l) K1)
    (kk : ∀ (a : List Bytes × Toks) H', K1 a → KA.takeCol cs l = .ok a → Off2 r ca H H' → RSt d H' r dx tl ta a.2 → TabC d H' ta dxt ca ra qa a.1 → D.nx σ H') : tDrop (tMeth d.cReader "read_column" (sp_read_column d) [] E (tVar 0) tNil) D σ H :=
  ⟨_, hv, r, _, _, rfl, R.2.choose_spec.choose_spec.1, no_Reader_read_column .., B, r, dx, tl, ta, dxt, ca, ra, qa, cs, l, rfl, R, hT, ntl, eB, hB, hBc, hcs, O.imp fun a e k1 H' o R' hc => kk a H' k1 e o R' ⟨o _ _ hT.1 (R.ins hT.1) (fun y => by
    have h := hT.1
    rw [y, hT.2] at h
    cases h), hc⟩⟩
end
theorem ok_read_columns (T : Txt K mg d) : FnOk P w K mg base (L2.CX P w) 5 d.f_Reader_read_columns d.fd_Reader_read_columns P_Reader_read_columns (sp_read_columns d) := by
  refine T.F.F_Reader_read_columns.okX sc_Reader_read_columns (fun vs H Q E h => ?_) (fun cdv A outer s H vs Q E hr h => ⟨t_Reader_read_columns K d E (sp_want d) (sp_read_column d) (sp_look_for d), dv_Reader_read_columns T (ok_want T) (ok_read_column T) (ok_look_for T) hr, ?_⟩)
  · obtain ⟨B, r, dx, tl, ta, dxt, ca, ra, qa, l, rfl, _⟩ := h
    rfl
  · obtain ⟨B, r, dx, tl, ta, dxt, ca, ra, qa, l, rfl, R, hT, ntl, eB, hB, hBc, O⟩ := h
    refine q_want rfl key_columns (fun y => by cases y) R eB hB (Out.bind O) fun l1 H1 O1 o1 R1 _ => ?_
    rw [KA.cols_next] at O1
    have hT1 := hT.off R o1
    refine s_col (D := { nx := tSeq _ _ _, rt := Q }) rfl R1 hT1 ntl (off_ex eB hB o1) hB hBc (Nat.zero_le _) (Out.bind O1) fun a H2 O2 e2 o2 R2 hT2 => ?_
    have hlen := KA.shr_col _ _ a e2
    refine ⟨fun m σ' H' => ∃ (cs : List Bytes) (l : Toks) (n : Nat), σ' = [some (.ref r)] ∧ l.length = m ∧ l.length < n ∧ cs.length ≤ 4 ∧ Off2 r ca H H' ∧ RSt d H' r dx tl ta l ∧ TabC d H' ta dxt ca ra qa cs ∧ Out d E B (KA.contCols n cs l) _, ⟨_, a.1, a.2, l1.length, rfl, rfl, by omega, KA.col_len e2, o1.two.trans o2, R2, hT2, O2⟩, ?_⟩
    rintro m σ' H3 ⟨cs, l3, n, rfl, rfl, hn, h4, o3, R3, hT3, O3⟩
    have eB3 := off2_ex eB hB hBc o3
    refine tt_look rfl key_comma (fun y => by cases y) R3 fun H4 o4 R4 => ?_
    unfold KA.contCols at O3
    have hT4 := hT3.off R3 o4
    by_cases hx : next (.sign 44) l3 = true
    · rw [if_pos hx] at O3 R4
      rw [if_pos hx]
      obtain ⟨k, rfl⟩ : ∃ k, n = k + 1 := ⟨n - 1, by omega⟩
      rw [KA.cols_next] at O3
      refine ⟨_, fun σ2 H2 h => h, s_col rfl R4 hT4 ntl (off_ex eB3 hB o4) hB hBc h4 (Out.bind O3) fun b H5 O5 e5 o5 R5 hT5 => ?_⟩
      have hlen5 := KA.shr_col _ _ b e5
      rw [List.length_drop] at hlen5
      exact ⟨b.2.length, by omega, b.1, b.2, k, rfl, rfl, by omega, KA.col_len e5, (o3.trans o4.two).trans o5, R5, hT5, O5⟩
    · rw [if_neg hx] at O3 R4
      rw [if_neg hx]
      refine s_want (D := { nx := fun _ H' => Q .non H', rt := Q }) rfl key_semi (fun y => by cases y) R4 (off_ex eB3 hB o4) hB (Out.map O3) fun l5 H5 O5 o5 R5 _ => ?_
      exact O5 H5 ((o3.trans o4.two).trans o5.two) R5 (hT4.off R4 o5).2
theorem ok_read_row (T : Txt K mg d) : FnOk P w K mg base (L2.CX P w) 5 d.f_Reader_read_row d.fd_Reader_read_row P_Reader_read_row (sp_read_row d) := by
  refine T.F.F_Reader_read_row.okX sc_Reader_read_row (fun vs H Q E h => ?_) (fun cdv A outer s H vs Q E hr h => ⟨t_Reader_read_row K d E (sp_want d) (sp_read_number d) (sp_look_for d), dv_Reader_read_row T (ok_want T) (ok_read_number T) (ok_look_for T) hr, ?_⟩)
  · obtain ⟨B, r, dx, tl, ta, dxt, ca, ra, qa, cs, l, rfl, _⟩ := h
    rfl
  · obtain ⟨B, r, dx, tl, ta, dxt, ca, ra, qa, cs, l, rfl, R, hT, eB, hB, hcs, O⟩ := h
    refine q_asgL (el_lst ea_nil (by decide)) fun fl H1 hfl0 e1 hfl1 => ?_
    obtain ⟨trs, _, htl⟩ := R.tl
    have nfl : fl ≠ tl := Ne.symm (ne_of_none htl hfl0)
    obtain ⟨K1, hK1, O1⟩ : ∃ K1 : List Nat × Toks → Prop, (∀ a, K1 a → Out d E B ((takeSign 58 a.2).bind fun r => (Vamvsa.takeInt r).bind fun x => (takeSign 59 x.2).bind fun m => .ok ((a.1, x.1), m)) fun a => ∀ p H', H p = none → Off r H H' → RSt d H' r dx tl ta a.2 → H' p = some (.lst (a.1.1.map nV)) → Q (.ref p) H') ∧ Out d E B (Vamvsa.takeValues cs.length [] l) K1 := ⟨_, fun _ h => h, Out.bind O⟩
    refine q_forR1 (n := ((cs.length : Nat) : Int)) (ea_cons (ev_is (ev_len (ev_Table_columns T (ev_Reader_table T (ev_var rfl) (R.mono e1).2.choose_spec.choose_spec.1) (e1.at hT.1)) (sq_of (e1.at hT.2))) (by rw [List.length_map])) ea_nil) ⟨by omega, by omega⟩
      (fun i σ' H' => ∃ (v2 : Option V) (vs : List Nat) (l' : Toks), σ' = [some (.ref r), some (.ref fl), v2] ∧ Off r H H' ∧ H' fl = some (.lst (vs.map nV)) ∧ vs.length = i ∧ RSt d H' r dx tl ta l' ∧ Out d E B (Vamvsa.takeValues (cs.length - i) vs l') K1)
      (fun H2 e2 => ⟨none, [], l, rfl, (e1.trans e2).off, e2.at hfl1, rfl, R.mono (e1.trans e2), O1⟩) ?_ ?_
    · rintro i σ' H2 hi ⟨v2, vs, l2, rfl, o2, hf2, rfl, R2, O2⟩
      have hi' : vs.length < cs.length := by omega
      obtain ⟨m, hm⟩ : ∃ m, cs.length - vs.length = m + 1 := ⟨cs.length - vs.length - 1, by omega⟩
      have hm2 : cs.length - (vs.length + 1) = m := by omega
      rw [hm] at O2
      rw [hm2]
      have O2' : Out d E B ((if vs.isEmpty = true then .ok l2 else takeSign 44 l2).bind fun r => (Vamvsa.takeNat Vamvsa.VALUE r).bind fun x => Vamvsa.takeValues m (vs ++ [x.1]) x.2) K1 := O2
      have O3 := Out.bind O2'
      have app : ∀ (l3 : Toks) (H3 : Hp), Off r H H3 → H3 fl = some (.lst (vs.map nV)) → RSt d H3 r dx tl ta l3 → Out d E B ((Vamvsa.takeNat Vamvsa.VALUE l3).bind fun x => Vamvsa.takeValues m (vs ++ [x.1]) x.2) K1 →
          tDrop (tBM K "list" rAppend (tVar 1) (tCons (tMeth d.cReader "read_number" (sp_read_number d) [] E (tVar 0) (tCons (tC (nV 0)) (tCons (tC (nV 9)) tNil))) tNil))
            { nx := fun σ' H' => ∃ (v2 : Option V) (vs' : List Nat) (l' : Toks), σ' = [some (.ref r), some (.ref fl), v2] ∧ Off r H H' ∧ H' fl = some (.lst (vs'.map nV)) ∧ vs'.length = vs.length + 1 ∧ RSt d H' r dx tl ta l' ∧ Out d E B (Vamvsa.takeValues m vs' l') K1, rt := Q }
            [some (.ref r), some (.ref fl), some (nV vs.length)] H3 := by
        intro l3 H3 o3 hf3 R3 O4
        rw [KA.nat_num] at O4
        refine s_appQ hf3 (ev_var rfl) (by rw [List.length_map]; omega) fun H4 e4 Q' q' => te_num rfl 0 9 (R3.mono e4) ((off_ex eB hB o3).trans e4) hB (Out.bind O4) fun a H5 O5 o5 R5 => ?_
        have nr : fl ≠ r := (R3.mono e4).lst (e4.at hf3)
        have hf5 := o5 fl _ (e4.at hf3) nr
        refine q' _ _ hf5 ⟨some (nV vs.length), vs ++ [a.1], a.2, rfl, ((o3.ex e4).trans o5).mut hfl0, ?_, ?_, R5.lstUpd hf5 nfl, O5⟩
        · rw [upd_same, List.map_append]
          rfl
        · rw [List.length_append, List.length_singleton]
      refine q_when (et_test (ev_op (ev_var rfl) ev_c rv_gt)) (fun hb H3 e3 => ?_) (fun hb H3 e3 => ?_)
      · have hne : ¬ vs.isEmpty = true := fun y => by
          have : vs = [] := by simpa using y
          subst this
          exact absurd (of_decide_eq_true hb) (by decide)
        rw [if_neg hne] at O3
        refine s_want rfl key_comma (fun y => by cases y) (R2.mono e3) ((off_ex eB hB o2).trans e3) hB O3 fun l4 H4 O4 o4 R4 _ => ?_
        exact app l4 H4 ((o2.ex e3).trans o4) (o4 fl _ (e3.at hf2) ((R2.mono e3).lst (e3.at hf2))) R4 O4
      · have hem : vs.isEmpty = true := by
          have := of_decide_eq_false hb
          have h0 : vs.length = 0 := by omega
          rw [List.length_eq_zero_iff.mp h0]
          rfl
        rw [if_pos hem] at O3
        have O4 := Out.ok O3
        exact app l2 H3 (o2.ex e3) (e3.at hf2) (R2.mono e3) O4
    · rintro σ' H2 ⟨v2, vs, l2, rfl, o2, hf2, hvl, R2, O2⟩
      rw [Int.toNat_natCast, Nat.sub_self] at O2
      have O3 := hK1 _ (Out.ok (show Out d E B (.ok (vs, l2)) K1 from O2))
      have eB2 := off_ex eB hB o2
      refine q_want rfl key_colon (fun y => by cases y) R2 eB2 hB (Out.bind O3) fun l3 H3 O4 o3 R3 _ => ?_
      have hf3 := o3 fl _ hf2 (R2.lst hf2)
      have eB3 := off_ex eB2 hB o3
      refine te_look rfl key_minus (fun y => by cases y) R3 fun H4 o4 R4 => ?_
      have hf4 := o4 fl _ hf3 (R3.lst hf3)
      have eB4 := off_ex eB3 hB o4
      have O5 := Out.map (show Out d E B ((Vamvsa.takeNat Vamvsa.SIZE (if next (.sign 45) l3 = true then l3.drop 1 else l3)).map _) _ from Out.bind O4)
      rw [KA.nat_num] at O5
      refine te_num rfl 0 1000 R4 eB4 hB O5 fun a H5 O6 o5 R5 => ?_
      have hf5 := o5 fl _ hf4 (R4.lst hf4)
      have eB5 := off_ex eB4 hB o5
      refine q_want rfl key_semi (fun y => by cases y) R5 eB5 hB (Out.bind O6) fun l6 H6 O7 o6 R6 _ => ?_
      have hf6 := o6 fl _ hf5 (R5.lst hf5)
      refine s_ret (ev_var rfl) fun H7 e7 => Out.ok O7 fl H7 hfl0 (((((o2.trans o3).trans o4).trans o5).trans o6).ex e7) (R6.mono e7) (e7.at hf6)
end
end KW
end
section
/-! # reading: questions -/
namespace KA
open VamvsBase
def askTail (g : Nat) (l : Toks) : Except Fault (Vamvsa.Ask × Toks) := (Vamvsa.takeTimes l).bind fun k => (takeSign 59 k.2).map fun m => ((⟨g, k.1⟩ : Vamvsa.Ask), m)
theorem ask_is (cs : List Bytes) (l : Toks) : Vamvsa.takeAsk cs l = (if nextWord "times" l = true ∨ next (.sign 59) l = true then .ok (0, l) else Vamvsa.takeAsked cs (l.length + 1) 0 l).bind fun g => askTail g.1 g.2 := rfl
theorem step_is {cs : List Bytes} {g p : Nat} {b : Bytes} {l : Toks} (h : takeName (⟨p, .name b⟩ :: l) = .ok (⟨p, b⟩, l)) : nameStep cs g (⟨p, .name b⟩ :: l) = match cs.findIdx? fun c => c == b with
    | none => .error ⟨8, p⟩
    | some i => if g / 2 ^ i % 2 = 1 then .error ⟨6, p⟩ else .ok (2 ^ i, l) := by
  unfold nameStep
  rw [h]
  rfl
theorem find_none {cs : List Bytes} {b : Bytes} (h : cs.findIdx? (fun c => c == b) = none) : cs.contains b = false := by
  rw [List.findIdx?_eq_none_iff] at h
  cases q : cs.contains b with
  | false => rfl
  | true =>
    have := h b (List.contains_iff_mem.mp q)
    simp at this
theorem find_some {cs : List Bytes} {b : Bytes} {i : Nat} (h : cs.findIdx? (fun c => c == b) = some i) : cs.contains b = true ∧ cs[i]? = some b ∧ ∀ (j : Nat) (c : Bytes), j < i → cs[j]? = some c → (c == b) = false := by
  obtain ⟨hl, h1, h2⟩ := List.findIdx?_eq_some_iff_getElem.mp h
  have e : cs[i] = b := eq_of_beq h1
  refine ⟨List.contains_iff_mem.mpr (by rw [← e]; exact List.getElem_mem hl), by rw [List.getElem?_eq_getElem hl, e], fun j c hj hc => ?_⟩
  have := h2 j hj
  obtain ⟨hl2, e2⟩ := List.getElem?_eq_some_iff.mp hc
  rw [e2] at this
  simpa using this
theorem and_bit (g i : Nat) : decide (0 < (g &&& 2 ^ i)) = decide (g / 2 ^ i % 2 = 1) := by
  have e := Nat.testBit_eq_decide_div_mod_eq (x := g) (i := i)
  rw [← e]
  cases q : g.testBit i with
  | true =>
    refine decide_eq_true ?_
    refine Nat.pos_of_ne_zero fun z => ?_
    have h : (g &&& 2 ^ i).testBit i = true := by
      rw [Nat.testBit_and, q, Nat.testBit_two_pow]
      simp
    rw [z, Nat.zero_testBit] at h
    cases h
  | false =>
    refine decide_eq_false ?_
    have h : g &&& 2 ^ i = 0 := by
      refine Nat.eq_of_testBit_eq fun j => ?_
      rw [Nat.testBit_and, Nat.testBit_two_pow, Nat.zero_testBit]
      by_cases z : i = j
      · rw [← z, q]
        rfl
      · rw [decide_eq_false z, Bool.and_false]
    rw [h]
    exact Nat.lt_irrefl 0
end KA
namespace KW
open PySem PySem.Spec PyProof.Rows L2 Evl
open VamvsBase (Bytes PTok Toks tokEq next taken wrong takeSign takeWord takeName)
theorem Out.bad {α : Type} {d : Ad} {E : XK} {B : Hp} {x : Except VamvsBase.Fault α} {f : VamvsBase.Fault} (k : α → Prop) (e : x = .error f) (h : FaultW d E B f) : Out d E B x k := by
  subst e
  refine ⟨fun f' e => ?_, fun a e => (nomatch e)⟩
  injection e with e
  rw [← e]
  exact h
section
variable (d : Ad)
def sp_Question_init : Sp := fun vs H Q _ => ∃ (a dx : Addr) (g k : Nat), vs = [.ref a, nV g, nV k] ∧ H a = some (.ins d.cQuestion dx []) ∧ ∀ H', Off a H H' → QAt d H' a ⟨g, k⟩ → Q .non H'
def sp_read_name : Sp := fun vs H Q E => ∃ (B : Hp) (r dx tl ta dxt ca ra qa : Addr) (cs : List Bytes) (g : Nat) (l : Toks), vs = [.ref r, nV g] ∧ RSt d H r dx tl ta l ∧ TabC d H ta dxt ca ra qa cs ∧ Ex B H ∧ B r = none ∧ cs.length ≤ 4 ∧
  Out d E B (KA.nameStep cs g l) fun a => ∀ H', Off r H H' → RSt d H' r dx tl ta a.2 → Q (nV a.1) H'
def sp_read_question : Sp := fun vs H Q E => ∃ (B : Hp) (r dx tl ta dxt ca ra qa : Addr) (cs : List Bytes) (l : Toks), vs = [.ref r] ∧ RSt d H r dx tl ta l ∧ TabC d H ta dxt ca ra qa cs ∧ Ex B H ∧ B r = none ∧ cs.length ≤ 4 ∧
  Out d E B (Vamvsa.takeAsk cs l) fun a => ∀ p H', H p = none → Off r H H' → RSt d H' r dx tl ta a.2 → QAt d H' p a.1 → Q (.ref p) H'
end
section
variable {P : Program} {w : World} {K : PySem.W.Frag} {mg : Str → Option Value} {base : Heap} {d : Ad}
theorem ok_Question_init (T : Txt K mg d) : FnOk P w K mg base CX0 1 d.f_Question_init d.fd_Question_init P_Question_init (sp_Question_init d) := by
  refine T.F.F_Question_init.ok sc_Question_init (fun vs H Q E h => ?_) (fun cdv A outer s H vs Q E hr h => ⟨t_Question_init K d, dv_Question_init T hr, ?_⟩)
  · obtain ⟨a, dx, g, k, rfl, _⟩ := h
    rfl
  · obtain ⟨a, dx, g, n, rfl, hI, k⟩ := h
    refine ⟨_, rfl, _, rfl, a, d.cQuestion, dx, _, rfl, hI, T.C.cl_Question, T.C.n_Question_grouping, (by show 0 < 1000; decide), ?_⟩
    refine ⟨_, rfl, _, rfl, a, d.cQuestion, dx, _, rfl, upd_same, T.C.cl_Question, T.C.n_Question_often, (by show 1 < 1000; decide), ?_⟩
    rw [upd_upd, nw_Question]
    exact k _ Off.upd ⟨dx, upd_same⟩
theorem er_question {σ : L2.St} {H : Hp} {ta : TA} {g n : Nat} (h : EvA ta σ H [nV g, nV n]) : EvR (tMake d.cQuestion (sp_Question_init d) [] E0 ta) σ H (fun q H2 => QAt d H2 q ⟨g, n⟩) := fun H1 e Q q =>
  h H1 e _ fun H2 e2 => fun x dx nx nd ne => ⟨x, dx, g, n, rfl, upd_same, fun H' off hl => ⟨rfl, q x H' (fresh_back e2 nx) (e2.trans (made_ex nx nd off)) hl⟩⟩
theorem ok_read_name (T : Txt K mg d) : FnOk P w K mg base (L2.CX P w) 4 d.f_Reader_read_name d.fd_Reader_read_name P_Reader_read_name (sp_read_name d) := by
  refine T.F.F_Reader_read_name.okX sc_Reader_read_name (fun vs H Q E h => ?_) (fun cdv A outer s H vs Q E hr h => ⟨t_Reader_read_name K d E (sp_fail_if d) (sp_here d), dv_Reader_read_name T (ok_fail_if T) (ok_here T) hr, ?_⟩)
  · obtain ⟨B, r, dx, tl, ta, dxt, ca, ra, qa, cs, g, l, rfl, _⟩ := h
    rfl
  · obtain ⟨B, r, dx, tl, ta, dxt, ca, ra, qa, cs, g, l, rfl, R, hT, eB, hB, hcs, O⟩ := h
    obtain ⟨x, l', rfl⟩ := R.1.ne
    refine q_fail (ev_var rfl) R 3 (ev_op (ev_sort T (ex_here (ev_var rfl) R)) ev_c (rv_ne rfl)) (fun hb => ?_) (fun hb H1 e1 => ?_)
    · unfold KA.nameStep at O
      rw [name_wrong hb] at O
      exact (Out.err O).mono eB
    · obtain ⟨b, hbn, hres⟩ : ∃ b, x.tok = .name b ∧ VamvsBase.RESERVED.contains b = false := by
        rcases name_or x.tok with h | h
        · exact h
        · rw [h] at hb
          cases hb
      obtain ⟨p, t⟩ := x
      dsimp only at hbn
      subst hbn
      rw [KA.step_is (name_ok hres)] at O
      refine q_asg (v := byS b) (ev_text T (ex_here (ev_var rfl) (R.mono e1))) fun H2 e2 => ?_
      have e02 := e1.trans e2
      have cols : ∀ {σ : L2.St} {H' : Hp}, σ[0]? = some (some (.ref r)) → Ex H H' → Ev (tFld K (tFld K (tVar 0) "table") "columns") σ H' (.ref ca) := fun {σ H'} hv e => ev_Table_columns T (ev_Reader_table T (ev_var hv) (R.mono e).2.choose_spec.choose_spec.1) (e.at hT.1)
      refine q_fail (ev_var rfl) (R.mono e02) 8 (ev_op (ev_var rfl) (cols rfl e02) (rv_niL (sq_of (e02.at hT.2)) rfl (flat_cols cs))) (fun hb2 => ?_) (fun hb2 H3 e3 => ?_)
      · rw [in_cols] at hb2
        cases hf : cs.findIdx? (fun c => c == b) with
        | none =>
          rw [hf] at O
          exact (Out.err O).mono (eB.trans e02)
        | some i =>
          rw [(KA.find_some hf).1] at hb2
          cases hb2
      · rw [in_cols] at hb2
        have e03 := e02.trans e3
        cases hf : cs.findIdx? (fun c => c == b) with
        | none =>
          rw [KA.find_none hf] at hb2
          cases hb2
        | some i =>
          rw [hf] at O
          obtain ⟨f1, f2, f3⟩ := KA.find_some hf
          have hi : i < cs.length := (List.getElem?_eq_some_iff.mp f2).1
          have O' : Out d E B (if g / 2 ^ i % 2 = 1 then .error ⟨6, p⟩ else .ok (2 ^ i, l')) _ := O
          refine q_asg (v := nV (2 ^ i)) (ev_shl1 (n := i) (by omega) (fun H4 e4 Q' q' => ?_)) fun H4 e4 => ?_
          · refine cols rfl (e03.trans e4) H4 (Ex.refl H4) _ fun H5 e5 => ⟨.inl ⟨rfl, _, sq_of (((e03.trans e4).trans e5).at hT.2)⟩, _, rfl, ca, cs.map byS, byS b, i, byS b, rfl, rfl, sq_of (((e03.trans e4).trans e5).at hT.2), rfl, flat_cols cs, by rw [List.getElem?_map, f2]; rfl, by rw [eqV_str]; simp, fun m z hm hz => ?_, q' H5 e5⟩
            rw [List.getElem?_map] at hz
            cases hc : cs[m]? with
            | none =>
              rw [hc] at hz
              cases hz
            | some c =>
              rw [hc] at hz
              have hz' : z = byS c := (Option.some.inj hz).symm
              rw [hz', eqV_str]
              exact f3 m c hm hc
          · have e04 := e03.trans e4
            refine q_fail (b := decide (g / 2 ^ i % 2 = 1)) (ev_var rfl) (R.mono e04) 6 (ev_is (ev_op (ev_op (ev_var rfl) (ev_var rfl) rv_and) ev_c rv_gt) ?_) (fun hb3 => ?_) (fun hb3 H5 e5 => ?_)
            · rw [and_nat, ← KA.and_bit]
              congr 1
              exact decide_eq_decide.mpr (by omega)
            · rw [if_pos (of_decide_eq_true hb3)] at O'
              exact (Out.err O').mono (eB.trans e04)
            · rw [if_neg (of_decide_eq_false hb3)] at O'
              have O2 := Out.ok O'
              refine q_step T (ev_var rfl) (R.mono (e04.trans e5)) (fun y => by cases y) fun H6 o6 R6 _ => ?_
              exact s_ret (ev_var rfl) fun H7 e7 => O2 H7 (((e04.trans e5).off.trans o6).ex e7) (R6.mono e7)
section
variable {σ : L2.St} {H B : Hp} {r dx tl ta dxt ca ra qa : Addr} {l : Toks} {E : XK} {cs : List Bytes} {tg : TE}
theorem te_name (hv : σ[0]? = some (some (.ref r))) (R : RSt d H r dx tl ta l) (hT : TabC d H ta dxt ca ra qa cs) (eB : Ex B H) (hB : B r = none) (hcs : cs.length ≤ 4) {g : Nat} (hg : tg σ H = fun Q => Q (nV g) H) {K1 : Nat × Toks → Prop} (O : Out d E B (KA.nameStep cs g l) K1) {Q : VK}
    (kk : ∀ (a : Nat × Toks) H', K1 a → KA.nameStep cs g l = .ok a → Off r H H' → RSt d H' r dx tl ta a.2 → Q (nV a.1) H') : tMeth d.cReader "read_name" (sp_read_name d) [] E (tVar 0) (tCons tg tNil) σ H Q :=
  ⟨_, hv, r, _, _, rfl, R.2.choose_spec.choose_spec.1, no_Reader_read_name .., by
    show tg σ H _
    rw [hg]
    exact ⟨B, r, dx, tl, ta, dxt, ca, ra, qa, cs, g, l, rfl, R, hT, eB, hB, hcs, O.imp fun a e k1 H' o R' => kk a H' k1 e o R'⟩⟩
end
theorem not_key {b : Bytes} (h : VamvsBase.RESERVED.contains b = false) {p : Nat} {l : Toks} : VamvsBase.nextWord "times" (⟨p, .name b⟩ :: l) = false := by
  show (b == VamvsBase.word "times") = false
  refine beq_eq_false_iff_ne.mpr fun y => ?_
  rw [y] at h
  exact absurd h (by decide +kernel)
theorem ok_read_question (T : Txt K mg d) : FnOk P w K mg base (L2.CX P w) 5 d.f_Reader_read_question d.fd_Reader_read_question P_Reader_read_question (sp_read_question d) := by
  refine T.F.F_Reader_read_question.okX sc_Reader_read_question (fun vs H Q E h => ?_) (fun cdv A outer s H vs Q E hr h => ⟨t_Reader_read_question K d E (sp_here d) (sp_read_name d) (sp_look_for d) (sp_read_number d) (sp_want d) (sp_Question_init d), dv_Reader_read_question T (ok_here T) (ok_read_name T) (ok_look_for T) (ok_read_number T) (ok_want T) (ok_Question_init T) hr, ?_⟩)
  · obtain ⟨B, r, dx, tl, ta, dxt, ca, ra, qa, cs, l, rfl, _⟩ := h
    rfl
  · obtain ⟨B, r, dx, tl, ta, dxt, ca, ra, qa, cs, l, rfl, R, hT, eB, hB, hcs, O⟩ := h
    rw [KA.ask_is] at O
    generalize hK : (fun a : Vamvsa.Ask × Toks => ∀ p H', H p = none → Off r H H' → RSt d H' r dx tl ta a.2 → QAt d H' p a.1 → Q (.ref p) H') = K0 at O
    -- how often, and the end
    have tail : ∀ (g : Nat) (v2 : Option V) (l1 : Toks) (H1 : Hp), Off r H H1 → RSt d H1 r dx tl ta l1 → Out d E B (KA.askTail g l1) K0 →
        tSeq (tAsg (tC (.int 1)) (gName 2)) (tSeq (tIfS (tB (tMeth d.cReader "look_for" (sp_look_for d) [] E0 (tVar 0) (tCons (tC (.str "word")) (tCons (tC (.str "times")) tNil)))) (tAsg (tMeth d.cReader "read_number" (sp_read_number d) [] E (tVar 0) (tCons (tC (.int 1)) (tCons (tC (.int 99)) tNil))) (gName 2)) tNext)
          (tSeq (tDrop (tMeth d.cReader "want" (sp_want d) [] E (tVar 0) (tCons (tC (.str "sign")) (tCons (tC (.str ";")) tNil))))
          (tRet (tMake d.cQuestion (sp_Question_init d) [] E0 (tCons (tVar 1) (tCons (tVar 2) tNil)))))) { nx := fun _ H' => Q .non H', rt := Q } [some (.ref r), some (nV g), v2] H1 := by
      intro g v2 l1 H1 o1 R1 O1
      have O2 := Out.bind (show Out d E B ((Vamvsa.takeTimes l1).bind fun k => (takeSign 59 k.2).map fun m => ((⟨g, k.1⟩ : Vamvsa.Ask), m)) K0 from O1)
      have eB1 := off_ex eB hB o1
      have fin : ∀ (k : Nat) (l3 : Toks) (H3 : Hp), Off r H H3 → RSt d H3 r dx tl ta l3 → Out d E B ((takeSign 59 l3).map fun m => ((⟨g, k⟩ : Vamvsa.Ask), m)) K0 →
          tSeq (tDrop (tMeth d.cReader "want" (sp_want d) [] E (tVar 0) (tCons (tC (.str "sign")) (tCons (tC (.str ";")) tNil))))
          (tRet (tMake d.cQuestion (sp_Question_init d) [] E0 (tCons (tVar 1) (tCons (tVar 2) tNil)))) { nx := fun _ H' => Q .non H', rt := Q } [some (.ref r), some (nV g), some (nV k)] H3 := by
        intro k l3 H3 o3 R3 O3
        refine q_want rfl key_semi (fun y => by cases y) R3 (off_ex eB hB o3) hB (Out.map O3) fun l4 H4 O4 o4 R4 _ => ?_
        subst hK
        refine s_retR (er_question (g := g) (n := k) (ea_cons (ev_var rfl) (ea_cons (ev_var rfl) ea_nil))) fun p H5 hp e5 h5 => O4 p H5 ?_ ((o3.trans o4).ex e5) (R4.mono e5) h5
        have nr : p ≠ r := fun y => by
          rw [y, R4.2.choose_spec.choose_spec.1] at hp
          cases hp
        exact (o3.trans o4).fresh nr hp
      refine q_asg ev_c fun H2 e2 => ?_
      refine tt_look rfl key_times (fun y => by cases y) (R1.mono e2) fun H3 o3 R3 => ?_
      rw [KA.times_num] at O2
      by_cases hx : VamvsBase.nextWord "times" l1 = true
      · have hx' : next (.name (VamvsBase.word "times")) l1 = true := hx
        rw [if_pos hx] at O2
        rw [if_pos hx'] at R3 ⊢
        refine te_num rfl 1 99 R3 (off_ex (eB1.trans e2) hB o3) hB O2 fun a H4 O4 o4 R4 => ?_
        exact fin a.1 a.2 H4 (((o1.ex e2).trans o3).trans o4) R4 O4
      · have hx' : ¬ next (.name (VamvsBase.word "times")) l1 = true := hx
        rw [if_neg hx] at O2
        rw [if_neg hx'] at R3 ⊢
        have O3 := Out.ok O2
        exact fin 1 l1 H3 ((o1.ex e2).trans o3) R3 O3
    obtain ⟨x, l', rfl⟩ := R.1.ne
    refine q_asg ev_c fun H1 e1 => ?_
    refine q_if (et_test (ev_op (ev_sort T (ex_here (ev_var rfl) (R.mono e1))) ev_c (rv_eq rfl))) (fun hb H2 e2 => ?_) (fun hb H2 e2 => ?_)
    · obtain ⟨b, hbn, hres⟩ : ∃ b, x.tok = .name b ∧ VamvsBase.RESERVED.contains b = false := by
        rcases name_or x.tok with h | h
        · exact h
        · rw [hb] at h
          cases h
      obtain ⟨p, t⟩ := x
      dsimp only at hbn
      subst hbn
      have hno : ¬ (VamvsBase.nextWord "times" (⟨p, .name b⟩ :: l') = true ∨ next (.sign 59) (⟨p, .name b⟩ :: l') = true) := by
        rintro (h | h)
        · rw [not_key hres] at h
          cases h
        · cases h
      rw [if_neg hno] at O
      have O1 := Out.bind O
      rw [KA.asked_next] at O1
      have O2 := Out.bind O1
      have e02 := e1.trans e2
      refine te_name (tg := tC (.int 0)) (g := 0) rfl (R.mono e02) (hT.mono e02) (eB.trans e02) hB hcs rfl O2 fun a H3 O3 ea o3 R3 => ?_
      have hlen := KA.shr_step _ _ _ a ea
      rw [Nat.zero_add] at O3
      refine ⟨fun m σ' H' => ∃ (g : Nat) (l2 : Toks) (n : Nat), σ' = [some (.ref r), some (nV g), none] ∧ l2.length = m ∧ l2.length < n ∧ Off r H H' ∧ RSt d H' r dx tl ta l2 ∧ Out d E B (KA.contAsked cs n g l2) fun a => Out d E B (KA.askTail a.1 a.2) K0, ⟨_, a.1, a.2, _, rfl, rfl, by omega, e02.off.trans o3, R3, O3⟩, ?_⟩
      rintro m σ' H4 ⟨g, l2, n, rfl, rfl, hn, o4, R4, O4⟩
      refine tt_look rfl key_comma (fun y => by cases y) R4 fun H5 o5 R5 => ?_
      unfold KA.contAsked at O4
      have o05 := o4.trans o5
      by_cases hx : next (.sign 44) l2 = true
      · rw [if_pos hx] at O4 R5
        rw [if_pos hx]
        obtain ⟨k, rfl⟩ : ∃ k, n = k + 1 := ⟨n - 1, by omega⟩
        rw [KA.asked_next] at O4
        refine ⟨_, fun σ2 H2 h => h, nV g, rfl, ?_⟩
        refine te_name (tg := tVar 1) (g := g) rfl R5 (hT.off R o05) (off_ex eB hB o05) hB hcs ?_ (Out.bind O4) fun c H6 O6 ec o6 R6 => ?_
        · funext Q'
          show (∃ v, _ ∧ _) = _
          exact propext ⟨fun ⟨v, h1, h2⟩ => by
            have h1' : v = nV g := (Option.some.inj (Option.some.inj h1)).symm
            rw [h1'] at h2
            exact h2, fun h => ⟨_, rfl, h⟩⟩
        · have hlen6 := KA.shr_step _ _ _ c ec
          rw [List.length_drop] at hlen6
          refine ⟨_, _, rfl, rfl, c.2.length, by omega, g + c.1, c.2, k, ?_, rfl, by omega, o05.trans o6, R6, O6⟩
          have e : ((g : Nat) : Int) + ((c.1 : Nat) : Int) = ((g + c.1 : Nat) : Int) := by omega
          show [some (V.ref r), some (V.int (((g : Nat) : Int) + ((c.1 : Nat) : Int))), none] = _
          rw [e]
      · rw [if_neg hx] at O4 R5
        rw [if_neg hx]
        have O6 := Out.ok O4
        exact tail g none l2 H5 o05 R5 O6
    · refine tail 0 none (x :: l') H2 (e1.trans e2).off (R.mono (e1.trans e2)) ?_
      by_cases hx : VamvsBase.nextWord "times" (x :: l') = true ∨ next (.sign 59) (x :: l') = true
      · rw [if_pos hx] at O
        exact O
      · rw [if_neg hx] at O
        have h1 : (!decide (V.str (tokSort x.tok) = V.str "name")) = true := by
          rw [hb]
          rfl
        rw [KA.asked_next] at O
        unfold KA.nameStep at O
        rw [name_wrong h1] at O
        have hf := Out.err (show Out d E B (.error ⟨3, x.place⟩) K0 from O)
        refine Out.bad _ ?_ hf
        unfold KA.askTail
        rw [KA.times_num, if_neg fun y => hx (.inl y)]
        show Except.map _ (taken (.sign 59) (x :: l')) = _
        unfold taken
        rw [if_neg fun y => hx (.inr y)]
        rfl
end
end KW
end
section
/-! # reading: all -/
namespace KA
open VamvsBase
def readToks (l : Toks) : Except Fault Vamvsa.Table := ((takeWord "columns" l).bind fun m => Vamvsa.takeColumns (m.length + 1) [] m).bind fun x => Vamvsa.takeLines (x.2.length + 1) ⟨x.1, [], []⟩ x.2
theorem read_toks (b : Bytes) : Vamvsa.read b = (tokens b).bind readToks := by
  unfold Vamvsa.read
  cases tokens b with
  | error f => rfl
  | ok l =>
    show Except.bind (takeWord "columns" l) _ = Except.bind (Except.bind (takeWord "columns" l) _) _
    cases takeWord "columns" l with
    | error f => rfl
    | ok m => rfl
end KA
namespace KW
open PySem PySem.Spec PyProof.Rows L2 Evl
open VamvsBase (Bytes PTok Toks tokEq next taken wrong takeSign takeWord takeName)
/-- the whole table that is read, and its lists -/
def TabAll (d : Ad) (N : Addr → Prop) (H : Hp) (ta dxt ca ra qa : Addr) (t : Vamvsa.Table) : Prop := TabC d H ta dxt ca ra qa t.cols ∧
  (∃ rs : List Addr, H ra = some (.lst (rs.map V.ref)) ∧ Paired (fun p (w : Vamvsa.Row) => H p = some (.lst (w.vs.map nV)) ∧ p ≠ ra ∧ p ≠ qa ∧ N p) rs t.rows) ∧
  (∃ qs : List Addr, H qa = some (.lst (qs.map V.ref)) ∧ Paired (fun p q => QAt d H p q) qs t.asks)
theorem RSt.q {d : Ad} {H : Hp} {r dx tl ta : Addr} {l : Toks} (R : RSt d H r dx tl ta l) {b C dx' : Addr} {u v : V} (h : H b = some (.ins C dx' (fl_Question u v))) : b ≠ r := fun e => by
  obtain ⟨_, n, ts, h2, _⟩ := R
  rw [e, h2] at h
  injection h with h
  injection h with _ _ h
  cases h
theorem TabAll.off {d : Ad} {N : Addr → Prop} {H H' : Hp} {r dx tl ta dxt ca ra qa : Addr} {t : Vamvsa.Table} {l : Toks} (R : RSt d H r dx tl ta l) (o : Off r H H') (h : TabAll d N H ta dxt ca ra qa t) : TabAll d N H' ta dxt ca ra qa t := by
  obtain ⟨h1, ⟨rs, h2, h3⟩, ⟨qs, h4, h5⟩⟩ := h
  exact ⟨h1.off R o, ⟨rs, o _ _ h2 (R.lst h2), pair_imp h3 fun p w q => ⟨o _ _ q.1 (R.lst q.1), q.2⟩⟩, ⟨qs, o _ _ h4 (R.lst h4), pair_imp h5 fun p w ⟨dq, q⟩ => ⟨dq, o _ _ q (R.q q)⟩⟩⟩
theorem TabAll.mono {d : Ad} {N : Addr → Prop} {H H' : Hp} {ta dxt ca ra qa : Addr} {t : Vamvsa.Table} (e : Ex H H') (h : TabAll d N H ta dxt ca ra qa t) : TabAll d N H' ta dxt ca ra qa t := by
  obtain ⟨h1, ⟨rs, h2, h3⟩, ⟨qs, h4, h5⟩⟩ := h
  exact ⟨h1.mono e, ⟨rs, e.at h2, pair_imp h3 fun p w q => ⟨e.at q.1, q.2⟩⟩, ⟨qs, e.at h4, pair_imp h5 fun p w q => q.mono e⟩⟩
theorem TabAll.table {d : Ad} {N : Addr → Prop} {H : Hp} {ta dxt ca ra qa : Addr} {t : Vamvsa.Table} (h : TabAll d N H ta dxt ca ra qa t) : TableAt d H ta t.cols (t.rows.map (·.vs)) t.asks := by
  obtain ⟨h1, ⟨rs, h2, h3⟩, ⟨qs, h4, h5⟩⟩ := h
  exact ⟨dxt, ca, ra, qa, h1.1, h1.2, ⟨rs, h2, pair_mapR (fun w : Vamvsa.Row => w.vs) (fun a b q => q.1) h3⟩, ⟨qs, h4, h5⟩⟩
theorem TabAll.parts {d : Ad} {N : Addr → Prop} {H : Hp} {ta dxt ca ra qa : Addr} {t : Vamvsa.Table} (h : TabAll d N H ta dxt ca ra qa t) (n1 : N ca) (n2 : N ra) (n3 : N qa) : TParts d H ta N := by
  obtain ⟨h1, ⟨rs, h2, h3⟩, _⟩ := h
  intro dxt' ca' ra' qa' e
  rw [h1.1] at e
  injection e with e
  injection e with _ _ e
  injection e with e1 e2
  injection e1 with _ e1
  injection e2 with e2 e3
  injection e2 with _ e2
  injection e3 with e3 _
  injection e3 with _ e3
  injection e1 with e1
  injection e2 with e2
  injection e3 with e3
  subst e1 e2 e3
  refine ⟨n1, n2, n3, fun rs' e' r hr => ?_⟩
  rw [← lst_inj h2 e'] at hr
  obtain ⟨i, hi, er⟩ := List.getElem_of_mem hr
  obtain ⟨w, _, hw⟩ := paired_get h3 (show rs[i]? = some r by rw [List.getElem?_eq_getElem hi, er])
  exact hw.2.2.2
section
variable (d : Ad)
/-- where the reader's lists lie -/
structure Apart (B : Hp) (r tl ca ra qa : Addr) : Prop where
  r : B r = none
  c : B ca = none
  w : B ra = none
  q : B qa = none
  tc : tl ≠ ca
  tw : tl ≠ ra
  tq : tl ≠ qa
  cw : ca ≠ ra
  cq : ca ≠ qa
  wq : ra ≠ qa
def sp_read : Sp := fun vs H Q E => ∃ (B : Hp) (r dx tl ta dxt ca ra qa : Addr) (l : Toks), vs = [.ref r] ∧ RSt d H r dx tl ta l ∧ TabAll d (fun b => B b = none) H ta dxt ca ra qa ⟨[], [], []⟩ ∧ Ex B H ∧ Apart B r tl ca ra qa ∧
  Out d E B (KA.readToks l) fun t => ∀ H', Ex B H' → TableAt d H' ta t.cols (t.rows.map (·.vs)) t.asks → TParts d H' ta (fun b => B b = none) → Q (.ref ta) H'
def sp_Table_init : Sp := fun vs H Q _ => ∃ a dx : Addr, vs = [.ref a] ∧ H a = some (.ins d.cTable dx []) ∧ ∀ H' (ca ra qa : Addr), Off a H H' → (∀ N : Addr → Prop, TabAll d N H' a dx ca ra qa ⟨[], [], []⟩) → H ca = none → H ra = none → H qa = none → ca ≠ ra → ca ≠ qa → ra ≠ qa → Q .non H'
def sp_Reader_init (K : PySem.W.Frag) : Sp := fun vs H Q E => ∃ (B : Hp) (r dx t : Addr) (b : Bytes), vs = [.ref r, .ref t] ∧ H r = some (.ins d.cReader dx []) ∧ SqL K H t (b.map byV) ∧ Ex B H ∧ B r = none ∧
  Out d E B (VamvsBase.tokens b) fun ts => ∀ H' (tl ta dxt ca ra qa : Addr), Ex B H' → RSt d H' r dx tl ta ts → TabAll d (fun b => B b = none) H' ta dxt ca ra qa ⟨[], [], []⟩ → Apart B r tl ca ra qa → Q .non H'
def sp_table_of (K : PySem.W.Frag) : Sp := fun vs H Q E => ∃ (t : Addr) (b : Bytes), vs = [.ref t] ∧ SqL K H t (b.map byV) ∧
  Out d E H (Vamvsa.read b) fun tb => ∀ p H', Ex H H' → TableAt d H' p tb.cols (tb.rows.map (·.vs)) tb.asks → TParts d H' p (fun b => H b = none) → Q (.ref p) H'
end
section
variable {P : Program} {w : World} {K : PySem.W.Frag} {mg : Str → Option Value} {base : Heap} {d : Ad}
theorem last_or (x : VamvsBase.Tok) : (x = .last ∧ (!decide (V.str (tokSort x) = V.str "end")) = false) ∨ (x ≠ .last ∧ (!decide (V.str (tokSort x) = V.str "end")) = true) := by
  cases x with
  | name b =>
    refine .inr ⟨(nomatch ·), ?_⟩
    rw [dec_str]
    show (!((if VamvsBase.RESERVED.contains b = true then ("word" : Str) else "name") == ("end" : Str))) = true
    split <;> rfl
  | num n => exact .inr ⟨(nomatch ·), by rw [dec_str]; rfl⟩
  | sign n => exact .inr ⟨(nomatch ·), by rw [dec_str]; rfl⟩
  | last => exact .inl ⟨rfl, by rw [dec_str]; rfl⟩
theorem not_last {x : PTok} {l : Toks} (h : x.tok ≠ .last) : ¬ next .last (x :: l) = true := by
  obtain ⟨p, t⟩ := x
  cases t with
  | last => exact absurd rfl h
  | name b => exact (nomatch ·)
  | num b => exact (nomatch ·)
  | sign b => exact (nomatch ·)
theorem ok_read (T : Txt K mg d) : FnOk P w K mg base (L2.CX P w) 6 d.f_Reader_read d.fd_Reader_read P_Reader_read (sp_read d) := by
  refine T.F.F_Reader_read.okX sc_Reader_read (fun vs H Q E h => ?_) (fun cdv A outer s H vs Q E hr h => ⟨t_Reader_read K d E (sp_read_columns d) (sp_here d) (sp_is_next d) (sp_fail_if d) (sp_want d) (sp_read_row d) (sp_read_question d), dv_Reader_read T (ok_read_columns T) (ok_here T) (ok_is_next T) (ok_fail_if T) (ok_want T) (ok_read_row T) (ok_read_question T) hr, ?_⟩)
  · obtain ⟨B, r, dx, tl, ta, dxt, ca, ra, qa, l, rfl, _⟩ := h
    rfl
  · obtain ⟨B, r, dx, tl, ta, dxt, ca, ra, qa, l, rfl, R, hT, eB, hA, O⟩ := h
    generalize hK : (fun t : Vamvsa.Table => ∀ H', Ex B H' → TableAt d H' ta t.cols (t.rows.map (·.vs)) t.asks → TParts d H' ta (fun b => B b = none) → Q (.ref ta) H') = K0 at O
    have O1 := Out.bind O
    refine ⟨_, rfl, r, _, _, rfl, R.2.choose_spec.choose_spec.1, no_Reader_read_columns .., B, r, dx, tl, ta, dxt, ca, ra, qa, l, rfl, R, hT.1, hA.tc, eB, hA.r, hA.c, O1.imp fun a ea O2 H1 o1 R1 hc1 => ?_⟩
    have hcol : a.1.length ≤ 4 := by
      obtain ⟨m, _, h2⟩ := KA.bind_ok ea
      exact KA.cols_len _ _ _ _ h2
    have hT1 : TabAll d (fun b => B b = none) H1 ta dxt ca ra qa ⟨a.1, [], []⟩ := by
      obtain ⟨h1, ⟨rs, h2, h3⟩, ⟨qs, h4, h5⟩⟩ := hT
      cases h3
      cases h5
      refine ⟨⟨o1 _ _ h1.1 (R.ins h1.1) (fun y => ?_), hc1⟩, ⟨[], o1 _ _ h2 (R.lst h2) (Ne.symm hA.cw), .nil⟩, ⟨[], o1 _ _ h4 (R.lst h4) (Ne.symm hA.cq), .nil⟩⟩
      have h := h1.1
      rw [y, h1.2] at h
      cases h
    have eB1 := off2_ex eB hA.r hA.c o1
    refine q_asg (ev_Reader_table T (ev_var rfl) R1.2.choose_spec.choose_spec.1) fun H2 e2 => ?_
    refine q_while (fun m σ' H' => ∃ (t : Vamvsa.Table) (l : Toks) (n : Nat), σ' = [some (.ref r), some (.ref ta)] ∧ l.length = m ∧ l.length < n ∧ Ex B H' ∧ RSt d H' r dx tl ta l ∧ TabAll d (fun b => B b = none) H' ta dxt ca ra qa t ∧ t.cols.length ≤ 4 ∧ t.rows.length ≤ 16 ∧ t.asks.length ≤ 8 ∧ Out d E B (Vamvsa.takeLines n t l) K0)
      a.2.length ⟨⟨a.1, [], []⟩, a.2, a.2.length + 1, rfl, rfl, Nat.lt_succ_self _, eB1.trans e2, R1.mono e2, hT1.mono e2, hcol, Nat.zero_le _, Nat.zero_le _, O2⟩ ?_
    rintro m σ' H3 ⟨t, l3, n, rfl, rfl, hn, eB3, R3, hT3, hc4, hr16, hq8, O3⟩
    obtain ⟨x, l', rfl⟩ := R3.1.ne
    obtain ⟨k, rfl⟩ : ∃ k, n = k + 1 := ⟨n - 1, by omega⟩
    rw [List.length_cons] at hn
    rw [KA.lines_next] at O3
    refine ⟨_, et_test (ev_op (ev_sort T (ex_here (ev_var rfl) R3)) ev_c (rv_ne rfl)), fun hb H4 e4 => ⟨_, fun σ2 H2 h2 => h2, ?_⟩, fun hb H4 e4 => ?_⟩
    · have hx : x.tok ≠ .last := by
        rcases last_or x.tok with ⟨_, h2⟩ | ⟨h1, _⟩
        · rw [h2] at hb
          cases hb
        · exact h1
      rw [if_neg (not_last hx)] at O3
      have R4 := R3.mono e4
      have hT4 := hT3.mono e4
      have eB4 := eB3.trans e4
      have isn : ∀ {s : String} {H' : Hp} (hk : KeyOk "word" (Str.ofString s) (.name (VamvsBase.word s))), Ex H4 H' → Ev (tMeth d.cReader "is_next" (sp_is_next d) [] E0 (tVar 0) (tCons (tC (.str "word")) (tCons (tC (.str (Str.ofString s))) tNil))) [some (.ref r), some (.ref ta)] H' (.bl (VamvsBase.nextWord s (x :: l'))) := fun {s H'} hk e =>
        ev_methG (ev_var rfl) (R4.mono e).2.choose_spec.choose_spec.1 (no_Reader_is_next ..) (ea_cons ev_c (ea_cons ev_c ea_nil)) (spv_is_next hk (R4.mono e))
      refine s_if (et_B (isn key_row (Ex.refl H4))) (fun hw H5 e5 => ?_) (fun hw H5 e5 => ?_)
      · rw [if_pos hw] at O3
        have hT5 := hT4.mono e5
        obtain ⟨hC5, ⟨rs, hrs, hrp⟩, hQ5⟩ := id hT5
        have hrl := pair_len hrp
        refine q_fail (b := decide (16 ≤ t.rows.length)) (ev_var rfl) (R4.mono e5) 4 (ev_is (ev_op (ev_len (ev_Table_rows T (ev_var rfl) hC5.1) (sq_of hrs)) ev_c rv_ge) (by
          congr 1
          exact decide_eq_decide.mpr (by rw [List.length_map, hrl]; omega))) (fun hb2 => ?_) (fun hb2 H6 e6 => ?_)
        · rw [if_pos (show Vamvsa.ROWS ≤ t.rows.length from of_decide_eq_true hb2)] at O3
          exact (Out.err O3).mono (eB4.trans e5)
        · have h16 : ¬ 16 ≤ t.rows.length := of_decide_eq_false hb2
          rw [if_neg (show ¬ Vamvsa.ROWS ≤ t.rows.length from h16)] at O3
          have R6 := (R4.mono e5).mono e6
          have hT6 := hT5.mono e6
          have eB6 := (eB4.trans e5).trans e6
          have hw' : next (.name (VamvsBase.word "row")) (x :: l') = true := hw
          refine q_want (K1 := fun l2 => l2 = l') rfl key_row (fun y => by cases y) R6 eB6 hA.r ⟨fun f ef => ?_, fun l2 el => KA.taken_len el⟩ fun l7 H7 e7l o7 R7 _ => ?_
          · unfold taken at ef
            rw [if_pos hw'] at ef
            cases ef
          · subst e7l
            have hT7 := hT6.off R6 o7
            have eB7 := off_ex eB6 hA.r o7
            obtain ⟨hC7, ⟨rs7, hrs7, hrp7⟩, hQ7⟩ := id hT7
            have hrl7 := pair_len hrp7
            refine s_appQ hrs7 (ev_Table_rows T (ev_var rfl) hC7.1) (by rw [List.length_map, hrl7]; omega) fun H8 e8 Q' q' => ?_
            refine ⟨_, rfl, r, _, _, rfl, (R7.mono e8).2.choose_spec.choose_spec.1, no_Reader_read_row .., B, r, dx, tl, ta, dxt, ca, ra, qa, t.cols, l7, rfl, R7.mono e8, hC7.mono e8, eB7.trans e8, hA.r, hc4, (Out.bind O3).imp fun y ey O9 p H9 hp o9 R9 h9 => ?_⟩
            have hshr : y.2.length ≤ l7.length := KA.shr_row _ _ y ey
            have hT9 := (hT7.mono e8).off (R7.mono e8) o9
            obtain ⟨hC9, ⟨rs9, hrs9, hrp9⟩, ⟨qs9, hqs9, hqp9⟩⟩ := hT9
            have hra9 := o9 ra _ (e8.at hrs7) ((R7.mono e8).lst (e8.at hrs7))
            rw [hra9] at hrs9
            have ers : rs7.map V.ref = rs9.map V.ref := by
              injection hrs9 with hrs9
              injection hrs9
            have npra : p ≠ ra := Ne.symm (ne_of_none (e8.at hrs7) hp)
            obtain ⟨qs7, hqs7, _⟩ := hQ7
            have npqa : p ≠ qa := Ne.symm (ne_of_none (e8.at hqs7) hp)
            refine q' (.ref p) H9 hra9 ⟨y.2.length, by simp only [List.length_cons]; omega, { t with rows := t.rows ++ [⟨y.1.1, y.1.2⟩] }, y.2, k, rfl, rfl, by omega, off_ex (eB7.trans e8) hA.r o9 |>.mut hA.w, R9.lstUpd hra9 (Ne.symm hA.tw), ⟨⟨?_, ?_⟩, ⟨rs9 ++ [p], ?_, ?_⟩, ⟨qs9, ?_, ?_⟩⟩, hc4, ?_, hq8, O9⟩
            · rw [upd_ne fun y => by rw [← y, hC9.1] at hra9; cases hra9]
              exact hC9.1
            · rw [upd_ne hA.cw]
              exact hC9.2
            · rw [upd_same, ers, List.map_append]
              rfl
            · refine pair_app (pair_imp hrp9 fun a b hab => ⟨?_, hab.2⟩) ⟨?_, npra, npqa, fresh_back (eB7.trans e8) hp⟩
              · rw [upd_ne hab.2.1]
                exact hab.1
              · rw [upd_ne npra]
                exact h9
            · rw [upd_ne (Ne.symm hA.wq)]
              exact hqs9
            · refine pair_imp hqp9 fun a b ⟨dq, hab⟩ => ⟨dq, ?_⟩
              rw [upd_ne fun y => by rw [← y, hab] at hra9; cases hra9]
              exact hab
            · show (t.rows ++ [_]).length ≤ 16
              rw [List.length_append, List.length_singleton]
              omega
      · rw [if_neg (by rw [hw]; decide)] at O3
        have R5 := R4.mono e5
        refine q_fail (ev_var rfl) R5 3 (ev_notV (isn key_ask e5)) (fun hb2 => ?_) (fun hb2 H6 e6 => ?_)
        · have hno : ¬ next (.name (VamvsBase.word "ask")) (x :: l') = true := fun y => by
            have y' : VamvsBase.nextWord "ask" (x :: l') = true := y
            rw [y'] at hb2
            cases hb2
          have hf := (Out.bind O3).1 ⟨3, VamvsBase.here (x :: l')⟩ (by
            show taken _ _ = _
            unfold taken
            rw [if_neg hno]
            rfl)
          exact hf.mono (eB4.trans e5)
        · have hw' : next (.name (VamvsBase.word "ask")) (x :: l') = true := by
            cases q : next (.name (VamvsBase.word "ask")) (x :: l') with
            | true => rfl
            | false =>
              have y' : VamvsBase.nextWord "ask" (x :: l') = false := q
              rw [y'] at hb2
              cases hb2
          have etk : takeWord "ask" (x :: l') = .ok l' := by
            show taken _ _ = _
            unfold taken
            rw [if_pos hw']
            rfl
          rw [etk] at O3
          have O4 : Out d E B (if Vamvsa.ASKS ≤ t.asks.length then .error ⟨4, VamvsBase.here (x :: l')⟩ else (Vamvsa.takeAsk t.cols l').bind fun a => Vamvsa.takeLines k { t with asks := t.asks ++ [a.1] } a.2) K0 := O3
          have R6 := R5.mono e6
          have hT6 := (hT4.mono e5).mono e6
          have eB6 := (eB4.trans e5).trans e6
          obtain ⟨hC6, hR6, ⟨qs, hqs, hqp⟩⟩ := id hT6
          have hql := pair_len hqp
          refine q_fail (b := decide (8 ≤ t.asks.length)) (ev_var rfl) R6 4 (ev_is (ev_op (ev_len (ev_Table_questions T (ev_var rfl) hC6.1) (sq_of hqs)) ev_c rv_ge) (by
            congr 1
            exact decide_eq_decide.mpr (by rw [List.length_map, hql]; omega))) (fun hb3 => ?_) (fun hb3 H7 e7 => ?_)
          · rw [if_pos (show Vamvsa.ASKS ≤ t.asks.length from of_decide_eq_true hb3)] at O4
            exact (Out.err O4).mono eB6
          · have h8 : ¬ 8 ≤ t.asks.length := of_decide_eq_false hb3
            rw [if_neg (show ¬ Vamvsa.ASKS ≤ t.asks.length from h8)] at O4
            have R7 := R6.mono e7
            have hT7 := hT6.mono e7
            have eB7 := eB6.trans e7
            refine q_want (K1 := fun l2 => l2 = l') rfl key_ask (fun y => by cases y) R7 eB7 hA.r ⟨fun f ef => ?_, fun l2 el => KA.taken_len el⟩ fun l8 H8 e8l o8 R8 _ => ?_
            · unfold taken at ef
              rw [if_pos hw'] at ef
              cases ef
            · subst e8l
              have hT8 := hT7.off R7 o8
              have eB8 := off_ex eB7 hA.r o8
              obtain ⟨hC8, hR8, ⟨qs8, hqs8, hqp8⟩⟩ := id hT8
              have hql8 := pair_len hqp8
              refine s_appQ hqs8 (ev_Table_questions T (ev_var rfl) hC8.1) (by rw [List.length_map, hql8]; omega) fun H9 e9 Q' q' => ?_
              refine ⟨_, rfl, r, _, _, rfl, (R8.mono e9).2.choose_spec.choose_spec.1, no_Reader_read_question .., B, r, dx, tl, ta, dxt, ca, ra, qa, t.cols, l8, rfl, R8.mono e9, hC8.mono e9, eB8.trans e9, hA.r, hc4, (Out.bind O4).imp fun y ey Oa p Ha hp oa Ra ha => ?_⟩
              have hshr : y.2.length ≤ l8.length := KA.shr_ask _ _ y ey
              have hTa := (hT8.mono e9).off (R8.mono e9) oa
              obtain ⟨hCa, ⟨rsa, hrsa, hrpa⟩, ⟨qsa, hqsa, hqpa⟩⟩ := hTa
              have hqa9 := oa qa _ (e9.at hqs8) ((R8.mono e9).lst (e9.at hqs8))
              rw [hqa9] at hqsa
              have eqs : qs8.map V.ref = qsa.map V.ref := by
                injection hqsa with hqsa
                injection hqsa
              refine q' (.ref p) Ha hqa9 ⟨y.2.length, by simp only [List.length_cons]; omega, { t with asks := t.asks ++ [y.1] }, y.2, k, rfl, rfl, by omega, off_ex (eB8.trans e9) hA.r oa |>.mut hA.q, Ra.lstUpd hqa9 (Ne.symm hA.tq), ⟨⟨?_, ?_⟩, ⟨rsa, ?_, ?_⟩, ⟨qsa ++ [p], ?_, ?_⟩⟩, hc4, hr16, ?_, Oa⟩
              · rw [upd_ne fun y => by rw [← y, hCa.1] at hqa9; cases hqa9]
                exact hCa.1
              · rw [upd_ne hA.cq]
                exact hCa.2
              · rw [upd_ne hA.wq]
                exact hrsa
              · refine pair_imp hrpa fun a b hab => ⟨?_, hab.2⟩
                rw [upd_ne hab.2.2.1]
                exact hab.1
              · rw [upd_same, eqs, List.map_append]
                rfl
              · have notq : ∀ {a : Addr} {b : Vamvsa.Ask}, QAt d Ha a b → QAt d (upd Ha qa (.lst (qs8.map V.ref ++ [V.ref p]))) a b := fun {a b} ⟨dq, hab⟩ => ⟨dq, by
                  rw [upd_ne fun y => by rw [← y, hab] at hqa9; cases hqa9]
                  exact hab⟩
                exact pair_app (pair_imp hqpa fun a b hab => notq hab) (notq ha)
              · show (t.asks ++ [_]).length ≤ 8
                rw [List.length_append, List.length_singleton]
                omega
    · have hx : x.tok = .last := by
        rcases last_or x.tok with ⟨h1, _⟩ | ⟨_, h2⟩
        · exact h1
        · rw [h2] at hb
          cases hb
      have hnl : next .last (x :: l') = true := by
        show tokEq x.tok .last = true
        rw [hx]
        rfl
      rw [if_pos hnl] at O3
      subst hK
      have O5 := Out.ok O3
      exact s_ret (ev_var rfl) fun H5 e5 => O5 H5 ((eB3.trans e4).trans e5) ((hT3.mono e4).mono e5).table (((hT3.mono e4).mono e5).parts hA.c hA.w hA.q)
theorem ok_Table_init (T : Txt K mg d) : FnOk P w K mg base CX0 1 d.f_Table_init d.fd_Table_init P_Table_init (sp_Table_init d) := by
  refine T.F.F_Table_init.ok sc_Table_init (fun vs H Q E h => ?_) (fun cdv A outer s H vs Q E hr h => ⟨t_Table_init K d, dv_Table_init T hr, ?_⟩)
  · obtain ⟨a, dx, rfl, _⟩ := h
    rfl
  · obtain ⟨a, dx, rfl, hI, k⟩ := h
    refine ⟨by show 0 ≤ sizeLine; decide, fun p1 hp1 => ⟨_, rfl, a, d.cTable, dx, _, rfl, (upd_ne (ne_of_none hI hp1)).trans hI, T.C.cl_Table, T.C.n_Table_columns, (by show 0 < 1000; decide), ?_⟩⟩
    refine ⟨by show 0 ≤ sizeLine; decide, fun p2 hp2 => ⟨_, rfl, a, d.cTable, dx, _, rfl, (upd_ne (ne_of_none upd_same hp2)).trans upd_same, T.C.cl_Table, T.C.n_Table_rows, (by show 1 < 1000; decide), ?_⟩⟩
    refine ⟨by show 0 ≤ sizeLine; decide, fun p3 hp3 => ⟨_, rfl, a, d.cTable, dx, _, rfl, (upd_ne (ne_of_none upd_same hp3)).trans upd_same, T.C.cl_Table, T.C.n_Table_questions, (by show 2 < 1000; decide), ?_⟩⟩
    have n1 : p1 ≠ a := Ne.symm (ne_of_none hI hp1)
    have n2 : p2 ≠ a := fun z => by
      rw [z, upd_same] at hp2
      cases hp2
    have n3 : p3 ≠ a := fun z => by
      rw [z, upd_same] at hp3
      cases hp3
    have n21 : p2 ≠ p1 := fun z => by
      rw [z, upd_ne n1, upd_same] at hp2
      cases hp2
    have n31 : p3 ≠ p1 := fun z => by
      rw [z, upd_ne n1, upd_ne (Ne.symm n21), upd_ne n1, upd_same] at hp3
      cases hp3
    have n32 : p3 ≠ p2 := fun z => by
      rw [z, upd_ne n2, upd_same] at hp3
      cases hp3
    have g1 : H p1 = none := hp1
    have g2 : H p2 = none := by
      rw [upd_ne n2, upd_ne n21] at hp2
      exact hp2
    have g3 : H p3 = none := by
      rw [upd_ne n3, upd_ne n32, upd_ne n3, upd_ne n31] at hp3
      exact hp3
    refine k _ p1 p2 p3 ?_ (fun N => ⟨⟨?_, ?_⟩, ⟨[], ?_, .nil⟩, ⟨[], ?_, .nil⟩⟩) g1 g2 g3 (Ne.symm n21) (Ne.symm n31) (Ne.symm n32)
    · intro b o h hb
      rw [upd_ne hb, upd_ne (ne_of_none h g3), upd_ne hb, upd_ne (ne_of_none h g2), upd_ne hb, upd_ne (ne_of_none h g1)]
      exact h
    · rw [upd_same, nw_Table]
    · rw [upd_ne n1, upd_ne (Ne.symm n31), upd_ne n1, upd_ne (Ne.symm n21), upd_ne n1, upd_same]
      rfl
    · rw [upd_ne n2, upd_ne (Ne.symm n32), upd_ne n2, upd_same]
      rfl
    · rw [upd_ne n3, upd_same]
      rfl
theorem er_table {σ : L2.St} {H : Hp} : EvR (tMake d.cTable (sp_Table_init d) [] E0 tNil) σ H (fun ta H2 => ∃ dxt ca ra qa : Addr, (∀ N : Addr → Prop, TabAll d N H2 ta dxt ca ra qa ⟨[], [], []⟩) ∧ H ca = none ∧ H ra = none ∧ H qa = none ∧ ca ≠ ra ∧ ca ≠ qa ∧ ra ≠ qa) := fun H1 e Q q =>
  fun x dx nx nd ne => ⟨x, dx, rfl, upd_same, fun H' ca ra qa off hT h1 h2 h3 n1 n2 n3 => ⟨rfl, by
    have e1 : Ex H1 (upd (upd H1 dx (.own x)) x (.ins d.cTable dx [])) := fun b o h => by
      rw [upd_ne (ne_of_none h nx), upd_ne (ne_of_none h nd)]
      exact h
    exact q x H' nx (made_ex nx nd off) ⟨dx, ca, ra, qa, hT, fresh_back (e.trans e1) h1, fresh_back (e.trans e1) h2, fresh_back (e.trans e1) h3, n1, n2, n3⟩⟩⟩
theorem ok_Reader_init (T : Txt K mg d) : FnOk P w K mg base (L2.CX P w) 5 d.f_Reader_init d.fd_Reader_init P_Reader_init (sp_Reader_init d K) := by
  refine T.F.F_Reader_init.okX sc_Reader_init (fun vs H Q E h => ?_) (fun cdv A outer s H vs Q E hr h => ⟨t_Reader_init K d E (sp_Fault_init d) (sp_tokens_of d K) (sp_Table_init d), dv_Reader_init T (ok_Fault_init T) (ok_tokens_of T) (ok_Table_init T) hr, ?_⟩)
  · obtain ⟨B, r, dx, t, b, rfl, _⟩ := h
    rfl
  · obtain ⟨B, r, dx, t, b, rfl, hI, ht, eB, hB, O⟩ := h
    refine q_when (et_test (ev_op (ev_len (ev_var rfl) ht) ev_c rv_gt)) (fun hb H1 e1 => ?_) (fun hb H1 e1 => ?_)
    · have hb' := of_decide_eq_true hb
      rw [List.length_map] at hb'
      have O1 : Out d E B (.error ⟨1, 4096⟩) _ := O.to (by
        unfold VamvsBase.tokens
        rw [if_pos (show VamvsBase.TEXT < b.length by show 4096 < b.length; omega)]
        rfl)
      exact s_fault (ea_cons ev_c (ea_cons ev_c ea_nil)) ((Out.err O1).mono (eB.trans e1))
    · have hb' := of_decide_eq_false hb
      rw [List.length_map] at hb'
      have hle : b.length ≤ VamvsBase.TEXT := by
        show b.length ≤ 4096
        omega
      have hends : ∀ ts, VamvsBase.tokens b = .ok ts → KA.EndsL ts := fun ts h => KA.tokens_ends h
      rw [KA.lex_eq b hle] at O hends
      refine ⟨_, rfl, t, b, rfl, ex_l e1 ht, hle, fun f ef => (O.1 f ef).mono (eB.trans e1), fun ts ets tl H2 e2 hts => ⟨_, rfl, r, d.cReader, dx, _, rfl, (e1.trans e2).at hI, T.C.cl_Reader, T.C.n_Reader_tokens, (by show 0 < 1000; decide), ?_⟩⟩
      have hI2 := (e1.trans e2).at hI
      refine ⟨_, rfl, r, d.cReader, dx, _, rfl, upd_same, T.C.cl_Reader, T.C.n_Reader_at, (by show 1 < 1000; decide), ?_⟩
      rw [upd_upd]
      obtain ⟨rs, htl, htp⟩ := hts
      have ntl : tl ≠ r := fun y => by
        rw [y, hI2] at htl
        cases htl
      have ntk : ∀ {q : Addr} {y : PTok}, TokAt d H2 q y → q ≠ r := fun {q y} ⟨dy, hy⟩ z => by
        rw [z, hI2] at hy
        injection hy with hy
        injection hy with _ _ hy
        cases hy
      refine s_fld_of (K := K) (ta := tVar 0) (tv := tMake d.cTable (sp_Table_init d) [] E0 tNil) (f := "table") (D := { nx := fun _ H' => Q .non H', rt := Q }) ?_
      refine er_table (d := d) (H := upd H2 r (.ins d.cReader dx (putF "at" (.int 0) (putF "tokens" (.ref tl) [])))) _ (Ex.refl _) _ fun ta H3 _ e3 ⟨dxt, ca, ra, qa, hT, h1, h2, h3, n1, n2, n3⟩ => ?_
      have hI3 : H3 r = some (.ins d.cReader dx (putF "at" (.int 0) (putF "tokens" (.ref tl) []))) := e3.at upd_same
      refine ⟨_, rfl, r, d.cReader, dx, _, rfl, hI3, T.C.cl_Reader, T.C.n_Reader_table, (by show 2 < 1000; decide), ?_⟩
      rw [nw_Reader]
      have frs : ∀ {c : Addr}, (upd H2 r (.ins d.cReader dx (putF "at" (.int 0) (putF "tokens" (.ref tl) [])))) c = none → B c = none ∧ tl ≠ c := fun {c} hc => by
        have nr : c ≠ r := fun y => by
          rw [y, upd_same] at hc
          cases hc
        rw [upd_ne nr] at hc
        exact ⟨fresh_back ((eB.trans e1).trans e2) hc, ne_of_none htl hc⟩
      have eB3 : Ex B (upd H3 r (.ins d.cReader dx (fl_Reader (.ref tl) (.int 0) (.ref ta)))) := fun b' o hb0 => by
        have nr := ne_of_none hb0 hB
        rw [upd_ne nr]
        refine e3.at ?_
        rw [upd_ne nr]
        exact ((eB.trans e1).trans e2).at hb0
      obtain ⟨hC, ⟨rr, hrr, hrp⟩, ⟨qq, hqq, hqp⟩⟩ := hT fun _ => True
      cases hrp
      cases hqp
      have ll : ∀ {c : Addr} {xs : List V}, H3 c = some (.lst xs) → (upd H3 r (.ins d.cReader dx (fl_Reader (.ref tl) (.int 0) (.ref ta)))) c = some (.lst xs) := fun {c xs} h => by
        rw [upd_ne fun y => by rw [y, hI3] at h; cases h]
        exact h
      refine O.2 ts ets _ tl ta dxt ca ra qa eB3 ⟨hends ts ets, 0, ts, upd_same, ⟨rs, ll (e3.at (by rw [upd_ne ntl]; exact htl)), pair_imp htp fun a x g => ?_⟩, rfl⟩ ⟨⟨?_, ll hC.2⟩, ⟨[], ll hrr, .nil⟩, ⟨[], ll hqq, .nil⟩⟩
        ⟨hB, (frs h1).1, (frs h2).1, (frs h3).1, (frs h1).2, (frs h2).2, (frs h3).2, n1, n2, n3⟩
      · have na := ntk g
        obtain ⟨dy, hy⟩ := g
        exact ⟨dy, by rw [upd_ne na]; exact e3.at (by rw [upd_ne na]; exact hy)⟩
      · rw [upd_ne fun y => by
          have h := hC.1
          rw [y, hI3] at h
          injection h with h
          injection h with _ _ h
          have h2 := congrArg List.length h
          cases h2]
        exact hC.1
theorem ok_table_of (T : Txt K mg d) : FnOk P w K mg base (L2.CX P w) 7 d.f_table_of d.fd_table_of P_table_of (sp_table_of d K) := by
  refine T.F.F_table_of.okX sc_table_of (fun vs H Q E h => ?_) (fun cdv A outer s H vs Q E hr h => ⟨t_table_of K d E (sp_Reader_init d K) (sp_read d), dv_table_of T (ok_Reader_init T) (ok_read T) hr, ?_⟩)
  · obtain ⟨t, b, rfl, _⟩ := h
    rfl
  · obtain ⟨t, b, rfl, ht, O⟩ := h
    rw [KA.read_toks] at O
    refine ⟨_, rfl, fun x dx nx nd ne => ?_⟩
    have e0 : Ex H (upd (upd H dx (.own x)) x (.ins d.cReader dx [])) := fun b o h => by
      rw [upd_ne (ne_of_none h nx), upd_ne (ne_of_none h nd)]
      exact h
    refine ⟨H, x, dx, t, b, rfl, upd_same, ex_l e0 ht, e0, nx, (Out.bind O).imp fun ts ets O2 H1 tl ta dxt ca ra qa e1 R1 hT1 hA => ⟨rfl, x, _, _, rfl, R1.2.choose_spec.choose_spec.1, no_Reader_read .., H, x, dx, tl, ta, dxt, ca, ra, qa, ts, rfl, R1, hT1, e1, hA, O2.imp fun tb etb k H2 e2 h2 h3 => k ta H2 e2 h2 h3⟩⟩
end
end KW
end
section
/-! # days: refusals, the desk -/
namespace KW
open PySem PySem.Spec PyProof.Rows L2 Evl
open VamvsBase (Answer one index)
open Vamvse (Held)
/-- all but the desk and what is a Choice stays -/
def OffD (d : Ad) (a : Addr) (H H' : Hp) : Prop := ∀ b o, H b = some o → b ≠ a → (∀ dx v0 v1 v2 v3, o ≠ .ins d.cChoice dx (fl_Choice v0 v1 v2 v3)) → H' b = some o
theorem _root_.Evl.Ex.offD {d : Ad} {a : Addr} {H H1 : Hp} (x : Ex H H1) : OffD d a H H1 := fun b o h _ _ => x b o h
theorem OffD.trans {d : Ad} {a : Addr} {H H1 H2 : Hp} (x : OffD d a H H1) (y : OffD d a H1 H2) : OffD d a H H2 := fun b o h h1 h2 => y b o (x b o h h1 h2) h1 h2
theorem OffD.ex {d : Ad} {a : Addr} {H H1 H2 : Hp} (x : OffD d a H H1) (y : Ex H1 H2) : OffD d a H H2 := fun b o h h1 h2 => y b o (x b o h h1 h2)
theorem Off.choice {d : Ad} {a c dx : Addr} {v0 v1 v2 v3 : V} {H H1 : Hp} (x : Off c H H1) (hc : H c = some (.ins d.cChoice dx (fl_Choice v0 v1 v2 v3))) : OffD d a H H1 := fun b o h _ h2 => x b o h fun e => by
  rw [e, hc] at h
  injection h with h
  exact h2 _ _ _ _ _ h.symm
theorem Off.desk {d : Ad} {a : Addr} {H H1 : Hp} (x : Off a H H1) : OffD d a H H1 := fun b o h h1 _ => x b o h h1
def RefW (d : Ad) (E : XK) (H : Hp) (why : Int) : Prop := ∀ (dd : Addr) (H2 : Hp), Ex H H2 → H2 dd = some (.xd [("why", .int why)]) → E (.ref d.cRefused) (some dd) H2
theorem RefW.mono {d : Ad} {E : XK} {H H' : Hp} {why : Int} (e : Ex H H') (h : RefW d E H why) : RefW d E H' why := fun dd H2 e2 h2 => h dd H2 (e.trans e2) h2
def DeskAt (d : Ad) (H : Hp) (a dx : Addr) : Vamvse.Obj → Prop
  | none => H a = some (.ins d.cDesk dx (fl_Desk .non))
  | some z => ∃ ha, H a = some (.ins d.cDesk dx (fl_Desk (.ref ha))) ∧ ChoiceAt d H ha z ∧ HeldOk z
theorem DeskAt.mono {d : Ad} {H H' : Hp} {a dx : Addr} {o : Vamvse.Obj} (e : Ex H H') (h : DeskAt d H a dx o) : DeskAt d H' a dx o := by
  cases o with
  | none => exact e.at h
  | some z =>
    obtain ⟨ha, h1, h2, h3⟩ := h
    exact ⟨ha, e.at h1, h2.mono e, h3⟩
/-- the lists of what the desk holds are told by N -/
def DParts (d : Ad) (H : Hp) (a : Addr) (N : Addr → Prop) : Prop := ∀ dx ha, H a = some (.ins d.cDesk dx (fl_Desk (.ref ha))) → Parts d H ha N
/-- no list of what the desk holds is another than it was, or it is new -/
def DOk (d : Ad) (a : Addr) (H H2 : Hp) : Prop := ∀ N : Addr → Prop, (∀ b, H b = none → N b) → DParts d H a N → DParts d H2 a N
theorem desk_inj {d : Ad} {H : Hp} {a dx dx' : Addr} {v v' : V} (h : H a = some (.ins d.cDesk dx (fl_Desk v))) (e : H a = some (.ins d.cDesk dx' (fl_Desk v'))) : v = v' := by
  rw [h] at e
  injection e with e
  injection e with _ _ e
  injection e with e _
  injection e
theorem DOk.ex {d : Ad} {H H2 : Hp} {a dx : Addr} {o : Vamvse.Obj} (hD : DeskAt d H a dx o) (e : Ex H H2) : DOk d a H H2 := by
  intro N _ p dx' ha' e'
  cases o with
  | none => exact nomatch desk_inj (e.at hD) e'
  | some z =>
    obtain ⟨ha, hI, hC, hz⟩ := hD
    have eh := desk_inj (e.at hI) e'
    injection eh with eh
    subst eh
    exact Parts.keep hC (fun b o h _ => e.at h) (p _ _ hI)
/-- what is wished of a call: its answer, the object behind it; a refusal instead, where that is its answer -/
def Both (d : Ad) (E : XK) (Q : VK) (H : Hp) (a dx : Addr) (o : Vamvse.Obj) (r : Vamvse.Obj × Answer) : Prop :=
  (∀ p H2, H p = none → OffD d a H H2 → DeskAt d H2 a dx r.1 → DOk d a H H2 → H2 p = some (.lst ((VamvseNeutral.encode r.2).map V.int)) → Q (.ref p) H2) ∧ (∀ why, r = (o, one why) → RefW d E H why)
section
variable (d : Ad)
def sp_Refused_init : Sp := fun vs H Q _ => ∃ (a : Addr) (x : V), vs = [.ref a, x] ∧ H a = some (exo a d.cRefused none) ∧ ∀ dx, H dx = none → dx ≠ a → Q .non (upd (upd H dx (exd dx [("why", x)])) a (exo a d.cRefused (some dx)))
def sp_refuse_if : Sp := fun vs H Q E => ∃ (b : Bool) (why : Int), vs = [.bl b, .int why] ∧ (b = true → RefW d E H why) ∧ (b = false → ∀ H2, Ex H H2 → Q .non H2)
def sp_Desk_init : Sp := fun vs H Q _ => ∃ a dx : Addr, vs = [.ref a] ∧ H a = some (.ins d.cDesk dx []) ∧ ∀ H', Off a H H' → DeskAt d H' a dx none → Q .non H'
def sp_look_at_room : Sp := fun vs H Q E => ∃ (a : Addr) (r : Int), vs = [.ref a, .int r] ∧ (¬ (0 ≤ r ∧ r ≤ 1000) → RefW d E H (-6)) ∧ (0 ≤ r ∧ r ≤ 1000 → ∀ H2, Ex H H2 → Q .non H2)
def sp_look_at_set : Sp := fun vs H Q E => ∃ (a dx : Addr) (z : Held) (s : Int), vs = [.ref a, .int s] ∧ DeskAt d H a dx (some z) ∧ (¬ (0 ≤ s ∧ s < ((2 ^ z.cs.length : Nat) : Int)) → RefW d E H (-7)) ∧ (0 ≤ s ∧ s < ((2 ^ z.cs.length : Nat) : Int) → ∀ H2, Ex H H2 → Q .non H2)
def sp_cands : Sp := fun vs H Q E => ∃ (a dx ga : Addr) (z : Held) (l : List Int), vs = [.ref a, .ref ga] ∧ DeskAt d H a dx (some z) ∧ H ga = some (.lst (l.map V.int)) ∧ l.length ≤ 8192 ∧ Both d E Q H a dx (some z) (Vamvse.step (some z) (.cands l))
def sp_Desk_put_days : Sp := fun vs H Q E => ∃ (a dx ga : Addr) (z : Held) (l : List Int), vs = [.ref a, .ref ga] ∧ DeskAt d H a dx (some z) ∧ H ga = some (.lst (l.map V.int)) ∧ l.length ≤ 8192 ∧ Both d E Q H a dx (some z) (Vamvse.step (some z) (.days l))
def sp_Desk_best : Sp := fun vs H Q E => ∃ (a dx : Addr) (z : Held) (r : Int), vs = [.ref a, .int r] ∧ DeskAt d H a dx (some z) ∧ Both d E Q H a dx (some z) (Vamvse.step (some z) (.best r))
def sp_Desk_always : Sp := fun vs H Q E => ∃ (a dx : Addr) (z : Held) (r : Int), vs = [.ref a, .int r] ∧ DeskAt d H a dx (some z) ∧ Both d E Q H a dx (some z) (Vamvse.step (some z) (.always r))
def sp_Desk_check : Sp := fun vs H Q E => ∃ (a dx ga : Addr) (z : Held) (r : Int) (l : List Int), vs = [.ref a, .int r, .ref ga] ∧ DeskAt d H a dx (some z) ∧ H ga = some (.lst (l.map V.int)) ∧ l.length ≤ 8192 ∧ Both d E Q H a dx (some z) (Vamvse.step (some z) (.check r l))
def sp_Desk_day : Sp := fun vs H Q E => ∃ (a dx : Addr) (z : Held) (n s : Int), vs = [.ref a, .int n, .int s] ∧ DeskAt d H a dx (some z) ∧ Both d E Q H a dx (some z) (Vamvse.step (some z) (.day n s))
def sp_Desk_go : Sp := fun vs H Q E => ∃ (a dx : Addr) (z : Held) (x y : Int), vs = [.ref a, .int x, .int y] ∧ DeskAt d H a dx (some z) ∧ Both d E Q H a dx (some z) (Vamvse.step (some z) (.go x y))
def sp_Desk_ends : Sp := fun vs H Q E => ∃ (a dx : Addr) (z : Held) (r q : Int), vs = [.ref a, .int r, .int q] ∧ DeskAt d H a dx (some z) ∧ Both d E Q H a dx (some z) (Vamvse.step (some z) (.ends r q))
end
section
variable {P : Program} {w : World} {K : PySem.W.Frag} {mg : Str → Option Value} {base : Heap} {d : Ad}
theorem ok_Refused_init (T : Txt K mg d) : FnOk P w K mg base CX0 1 d.f_Refused_init d.fd_Refused_init P_Refused_init (sp_Refused_init d) := by
  refine T.F.F_Refused_init.ok sc_Refused_init (fun vs H Q E h => ?_) (fun cdv A outer s H vs Q E hr h => ⟨t_Refused_init K d, dv_Refused_init T hr, ?_⟩)
  · obtain ⟨a, x, rfl, _⟩ := h
    rfl
  · obtain ⟨a, x, rfl, ha, k⟩ := h
    exact ⟨_, rfl, _, rfl, a, d.cRefused, rfl, T.E.ox_Refused, T.E.n_Refused_why, .inl ⟨ha, fun dx h1 h2 => k dx h1 h2⟩⟩
theorem s_raiseR {σ : L2.St} {H : Hp} {E : XK} {ta : TA} {D : Ends} {why : Int} (h : EvA ta σ H [.int why]) (k : RefW d E H why) : tRaiseO d.cRefused (sp_Refused_init d) E ta D σ H :=
  h H (Ex.refl H) _ fun H1 e1 => ⟨by show 1 ≤ 1000; decide, fun a ha => ⟨a, .int why, rfl, upd_same, fun dx h1 h2 => ⟨rfl, dx, _, upd_same, (by rw [upd_ne h2]; exact upd_same), (by rw [upd_ne h2] at h1; exact h1), k dx _ (fun b o hb => by
    have h0 : H1 dx = none := by
      rw [upd_ne h2] at h1
      exact h1
    have hb1 := e1 _ _ hb
    have nb : b ≠ a := ne_of_none hb1 ha
    have nd : b ≠ dx := ne_of_none hb1 h0
    rw [upd_ne nd, del_ne nb, upd_ne nb, upd_ne nd, upd_ne nb]
    exact hb1) upd_same⟩⟩⟩
theorem ok_refuse_if (T : Txt K mg d) : FnOk P w K mg base (L2.CX P w) 3 d.f_refuse_if d.fd_refuse_if P_refuse_if (sp_refuse_if d) := by
  refine T.F.F_refuse_if.okX sc_refuse_if (fun vs H Q E h => ?_) (fun cdv A outer s H vs Q E hr h => ⟨t_refuse_if K d E (sp_Refused_init d), dv_refuse_if T (ok_Refused_init T) hr, ?_⟩)
  · obtain ⟨b, why, rfl, _⟩ := h
    rfl
  · obtain ⟨b, why, rfl, kf, k⟩ := h
    refine s_when (et_B (ev_var rfl)) (fun hb H1 e1 => ?_) (fun hb H1 e1 => k hb H1 e1)
    exact s_raiseR (D := { nx := fun _ _ => True, rt := fun _ _ => True }) (ea_cons (ev_var rfl) ea_nil) ((kf hb).mono e1)
section
variable {σ : L2.St} {H : Hp} {ta tb tc tw : TE} {D : Ends} {tz : TS} {E : XK}
theorem s_refuse {b : Bool} {why : Int} (hb : Ev tb σ H (.bl b)) (hw : Ev tw σ H (.int why)) (kf : b = true → RefW d E H why) (k : b = false → ∀ H1, Ex H H1 → D.nx σ H1) : tDrop (tCall (sp_refuse_if d) [] E (tCons tb (tCons tw tNil))) D σ H :=
  hb H (Ex.refl H) _ fun H1 e1 => hw H1 e1 _ fun H2 e2 => ⟨b, why, rfl, fun q => (kf q).mono (e1.trans e2), fun q H3 e3 => k q H3 ((e1.trans e2).trans e3)⟩
theorem q_refuse {b : Bool} {why : Int} (hb : Ev tb σ H (.bl b)) (hw : Ev tw σ H (.int why)) (kf : b = true → RefW d E H why) (k : b = false → ∀ H1, Ex H H1 → tz D σ H1) : tSeq (tDrop (tCall (sp_refuse_if d) [] E (tCons tb (tCons tw tNil)))) tz D σ H := s_refuse (D := { D with nx := tz D }) hb hw kf k
theorem ev_betweenL {x y z : Int} (ha : Ev ta σ H (.int x)) (hb : Ev tb σ H (.int y)) (hc : Ev tc σ H (.int z)) : Ev (tChain kLe kLt ta tb tc) σ H (.bl (decide (x ≤ y) && decide (y < z))) :=
  ev_chainG (b := decide (x ≤ y)) ha hb rv_le (fun _ => hc) (fun h => by rw [h]; exact rv_lt) (fun h => by rw [h]; rfl)
end
theorem not_and {x y z : Int} : (!(decide (x ≤ y) && decide (y ≤ z))) = !decide (x ≤ y ∧ y ≤ z) := by
  rw [Bool.decide_and]
theorem not_andL {x y z : Int} : (!(decide (x ≤ y) && decide (y < z))) = !decide (x ≤ y ∧ y < z) := by
  rw [Bool.decide_and]
theorem of_not {p : Prop} [Decidable p] (h : (!decide p) = true) : ¬ p := by
  intro q
  rw [decide_eq_true q] at h
  cases h
theorem of_yes {p : Prop} [Decidable p] (h : (!decide p) = false) : p := by
  refine Decidable.byContradiction fun q => ?_
  rw [decide_eq_false q] at h
  cases h
theorem ok_Desk_init (T : Txt K mg d) : FnOk P w K mg base CX0 1 d.f_Desk_init d.fd_Desk_init P_Desk_init (sp_Desk_init d) := by
  refine T.F.F_Desk_init.ok sc_Desk_init (fun vs H Q E h => ?_) (fun cdv A outer s H vs Q E hr h => ⟨t_Desk_init K d, dv_Desk_init T hr, ?_⟩)
  · obtain ⟨a, dx, rfl, _⟩ := h
    rfl
  · obtain ⟨a, dx, rfl, hI, k⟩ := h
    exact ⟨_, rfl, a, d.cDesk, dx, _, rfl, hI, T.C.cl_Desk, T.C.n_Desk_held, (by show 0 < 1000; decide), k _ Off.upd upd_same⟩
theorem ok_look_at_room (T : Txt K mg d) : FnOk P w K mg base (L2.CX P w) 4 d.f_Desk_look_at_room d.fd_Desk_look_at_room P_Desk_look_at_room (sp_look_at_room d) := by
  refine T.F.F_Desk_look_at_room.okX sc_Desk_look_at_room (fun vs H Q E h => ?_) (fun cdv A outer s H vs Q E hr h => ⟨t_Desk_look_at_room K d E (sp_refuse_if d), dv_Desk_look_at_room T (ok_refuse_if T) hr, ?_⟩)
  · obtain ⟨a, r, rfl, _⟩ := h
    rfl
  · obtain ⟨a, r, rfl, kf, k⟩ := h
    refine s_refuse (why := -6) (ev_is (ev_notV (ev_between ev_c (ev_var rfl) ev_c)) (by rw [not_and])) (ev_un ev_c ru_neg') (fun hb => kf (of_not hb)) (fun hb H1 e1 => k (of_yes hb) H1 e1)
theorem ok_look_at_set (T : Txt K mg d) : FnOk P w K mg base (L2.CX P w) 4 d.f_Desk_look_at_set d.fd_Desk_look_at_set P_Desk_look_at_set (sp_look_at_set d) := by
  refine T.F.F_Desk_look_at_set.okX sc_Desk_look_at_set (fun vs H Q E h => ?_) (fun cdv A outer s H vs Q E hr h => ⟨t_Desk_look_at_set K d E (sp_refuse_if d) (sp_count_sets d), dv_Desk_look_at_set T (ok_refuse_if T) (ok_count_sets T) hr, ?_⟩)
  · obtain ⟨a, dx, z, s, rfl, _⟩ := h
    rfl
  · obtain ⟨a, dx, z, s, rfl, ⟨ha, hI, hC, hz⟩, kf, k⟩ := h
    obtain ⟨dxc, _, _, _, _, hCI, _⟩ := id hC
    refine s_refuse (why := -7) (ev_is (ev_notV (ev_betweenL ev_c (ev_var rfl) (ev_methG (ev_Desk_held T (ev_var rfl) hI) hCI (no_Choice_count_sets ..) ea_nil (spv_count_sets hC hz)))) (by rw [not_andL])) (ev_un ev_c ru_neg') (fun hb => kf (of_not hb)) (fun hb H1 e1 => k (of_yes hb) H1 e1)
section
variable {σ : L2.St} {H : Hp} {a dx : Addr} {D : Ends} {tz : TS} {E : XK} {ts : TE}
theorem q_room (hI : H a = some (.ins d.cDesk dx (fl_Desk ts0))) (hv : σ[0]? = some (some (.ref a))) {r : Int} (hr : σ[1]? = some (some (.int r))) (kf : ¬ (0 ≤ r ∧ r ≤ 1000) → RefW d E H (-6)) (k : 0 ≤ r ∧ r ≤ 1000 → ∀ H1, Ex H H1 → tz D σ H1) :
    tSeq (tDrop (tMeth d.cDesk "look_at_room" (sp_look_at_room d) [] E (tVar 0) (tCons (tVar 1) tNil))) tz D σ H := ⟨_, hv, a, dx, _, rfl, hI, no_Desk_look_at_room .., _, hr, a, r, rfl, kf, k⟩
theorem s_set (hv : σ[0]? = some (some (.ref a))) {z : Held} (hD : DeskAt d H a dx (some z)) {i : Nat} {s : Int} (hs : σ[i]? = some (some (.int s))) (kf : ¬ (0 ≤ s ∧ s < ((2 ^ z.cs.length : Nat) : Int)) → RefW d E H (-7)) (k : 0 ≤ s ∧ s < ((2 ^ z.cs.length : Nat) : Int) → ∀ H1, Ex H H1 → D.nx σ H1) :
    tDrop (tMeth d.cDesk "look_at_set" (sp_look_at_set d) [] E (tVar 0) (tCons (tVar i) tNil)) D σ H := by
  obtain ⟨ha, hI, hC, hz⟩ := id hD
  exact ⟨_, hv, a, dx, _, rfl, hI, no_Desk_look_at_set .., _, hs, a, dx, z, s, rfl, hD, kf, k⟩
theorem q_set (hv : σ[0]? = some (some (.ref a))) {z : Held} (hD : DeskAt d H a dx (some z)) {i : Nat} {s : Int} (hs : σ[i]? = some (some (.int s))) (kf : ¬ (0 ≤ s ∧ s < ((2 ^ z.cs.length : Nat) : Int)) → RefW d E H (-7)) (k : 0 ≤ s ∧ s < ((2 ^ z.cs.length : Nat) : Int) → ∀ H1, Ex H H1 → tz D σ H1) :
    tSeq (tDrop (tMeth d.cDesk "look_at_set" (sp_look_at_set d) [] E (tVar 0) (tCons (tVar i) tNil))) tz D σ H := s_set (D := { D with nx := tz D }) hv hD hs kf k
end
theorem spl_best {a : Addr} {z : Held} {r : Nat} {H : Hp} (hC : ChoiceAt d H a z) (hz : HeldOk z) : SpL (sp_best d) [.ref a, nV r] H (((Vamvse.bestPlan z.t z.cs r z.days).1 :: (Vamvse.bestPlan z.t z.cs r z.days).2).map nV) := fun H1 e Q q E => ⟨a, z, r, rfl, hC.mono e, hz, q⟩
theorem spl_always {a : Addr} {z : Held} {r : Nat} {H : Hp} (hC : ChoiceAt d H a z) (hz : HeldOk z) : SpL (sp_same_always d) [.ref a, nV r] H ([(Vamvse.always z.t z.cs r z.days).1, (Vamvse.always z.t z.cs r z.days).2].map nV) := fun H1 e Q q E => ⟨a, z, r, rfl, hC.mono e, hz, q⟩
theorem room_bad {r : Int} (h : ¬ (0 ≤ r ∧ r ≤ 1000)) (f : Nat → Answer) : Vamvse.withRoom r f = one (-6) := by
  unfold Vamvse.withRoom
  rw [if_pos]
  show r < 0 ∨ (1000 : Int) < r
  omega
theorem room_ok {r : Int} (h : 0 ≤ r ∧ r ≤ 1000) (f : Nat → Answer) : Vamvse.withRoom r f = f r.toNat := by
  unfold Vamvse.withRoom
  rw [if_neg]
  show ¬ (r < 0 ∨ (1000 : Int) < r)
  omega
theorem set_bad {z : Held} {s : Int} (h : ¬ (0 ≤ s ∧ s < ((2 ^ z.cs.length : Nat) : Int))) (f : Nat → Answer) : Vamvse.withSet z s f = one (-7) := by
  unfold Vamvse.withSet index
  rw [if_neg h]
theorem set_ok {z : Held} {s : Int} (h : 0 ≤ s ∧ s < ((2 ^ z.cs.length : Nat) : Int)) (f : Nat → Answer) : Vamvse.withSet z s f = f s.toNat := by
  unfold Vamvse.withSet index
  rw [if_pos h]
theorem nat_back {r : Int} (h : 0 ≤ r) : V.int r = nV r.toNat := by
  show V.int r = V.int _
  congr 1
  omega
theorem nats_V (l : List Nat) : (Vamvse.nats l).map V.int = l.map nV := by
  unfold Vamvse.nats
  rw [List.map_map]
  rfl
theorem step_best (z : Held) (r : Int) : Vamvse.step (some z) (.best r) = (some z, Vamvse.withRoom r fun r => ⟨((Vamvse.bestPlan z.t z.cs r z.days).1 : Int), Vamvse.nats (Vamvse.bestPlan z.t z.cs r z.days).2⟩) := rfl
theorem step_always (z : Held) (r : Int) : Vamvse.step (some z) (.always r) = (some z, Vamvse.withRoom r fun r => ⟨((Vamvse.always z.t z.cs r z.days).1 : Int), Vamvse.nats [(Vamvse.always z.t z.cs r z.days).2]⟩) := rfl
theorem ok_Desk_best (T : Txt K mg d) : FnOk P w K mg base (L2.CX P w) 5 d.f_Desk_best d.fd_Desk_best P_Desk_best (sp_Desk_best d) := by
  refine T.F.F_Desk_best.okX sc_Desk_best (fun vs H Q E h => ?_) (fun cdv A outer s H vs Q E hr h => ⟨t_Desk_best K d E (sp_look_at_room d) (sp_best d), dv_Desk_best T (ok_look_at_room T) (ok_best T) hr, ?_⟩)
  · obtain ⟨a, dx, z, r, rfl, _⟩ := h
    rfl
  · obtain ⟨a, dx, z, r, rfl, hD, k1, k2⟩ := h
    obtain ⟨ha, hI, hC, hz⟩ := id hD
    obtain ⟨dxc, _, _, _, _, hCI, _⟩ := id hC
    refine q_room hI rfl rfl (fun hb => k2 _ (by rw [step_best, room_bad hb])) fun hb H1 e1 => ?_
    have ek : Vamvse.step (some z) (.best r) = (some z, ⟨((Vamvse.bestPlan z.t z.cs r.toNat z.days).1 : Int), Vamvse.nats (Vamvse.bestPlan z.t z.cs r.toNat z.days).2⟩) := by
      rw [step_best, room_ok hb]
    rw [ek] at k1
    refine s_retL (el_methG (vs := [nV r.toNat]) (ev_Desk_held T (ev_var rfl) (e1.at hI)) (e1.at hCI) (no_Choice_best ..) (ea_cons (ev_is (ev_var rfl) (nat_back hb.1)) ea_nil) (spl_best (hC.mono e1) hz)) fun p H2 hp e2 h2 => k1 p H2 (fresh_back e1 hp) (e1.trans e2).offD (hD.mono (e1.trans e2)) (DOk.ex hD (e1.trans e2)) ?_
    rw [h2]
    show _ = some (HO.lst (V.int _ :: (Vamvse.nats _).map V.int))
    rw [nats_V]
    rfl
theorem ok_Desk_always (T : Txt K mg d) : FnOk P w K mg base (L2.CX P w) 5 d.f_Desk_always d.fd_Desk_always P_Desk_always (sp_Desk_always d) := by
  refine T.F.F_Desk_always.okX sc_Desk_always (fun vs H Q E h => ?_) (fun cdv A outer s H vs Q E hr h => ⟨t_Desk_always K d E (sp_look_at_room d) (sp_same_always d), dv_Desk_always T (ok_look_at_room T) (ok_same_always T) hr, ?_⟩)
  · obtain ⟨a, dx, z, r, rfl, _⟩ := h
    rfl
  · obtain ⟨a, dx, z, r, rfl, hD, k1, k2⟩ := h
    obtain ⟨ha, hI, hC, hz⟩ := id hD
    obtain ⟨dxc, _, _, _, _, hCI, _⟩ := id hC
    refine q_room hI rfl rfl (fun hb => k2 _ (by rw [step_always, room_bad hb])) fun hb H1 e1 => ?_
    have ek : Vamvse.step (some z) (.always r) = (some z, ⟨((Vamvse.always z.t z.cs r.toNat z.days).1 : Int), Vamvse.nats [(Vamvse.always z.t z.cs r.toNat z.days).2]⟩) := by
      rw [step_always, room_ok hb]
    rw [ek] at k1
    refine s_retL (el_methG (vs := [nV r.toNat]) (ev_Desk_held T (ev_var rfl) (e1.at hI)) (e1.at hCI) (no_Choice_same_always ..) (ea_cons (ev_is (ev_var rfl) (nat_back hb.1)) ea_nil) (spl_always (hC.mono e1) hz)) fun p H2 hp e2 h2 => k1 p H2 (fresh_back e1 hp) (e1.trans e2).offD (hD.mono (e1.trans e2)) (DOk.ex hD (e1.trans e2)) ?_
    rw [h2]
    show _ = some (HO.lst (V.int _ :: (Vamvse.nats _).map V.int))
    rw [nats_V]
    rfl
theorem ok_Desk_go (T : Txt K mg d) : FnOk P w K mg base (L2.CX P w) 5 d.f_Desk_go d.fd_Desk_go P_Desk_go (sp_Desk_go d) := by
  refine T.F.F_Desk_go.okX sc_Desk_go (fun vs H Q E h => ?_) (fun cdv A outer s H vs Q E hr h => ⟨t_Desk_go K d E (sp_look_at_set d) (sp_going d), dv_Desk_go T (ok_look_at_set T) (ok_going T) hr, ?_⟩)
  · obtain ⟨a, dx, z, x, y, rfl, _⟩ := h
    rfl
  · obtain ⟨a, dx, z, x, y, rfl, hD, k1, k2⟩ := h
    obtain ⟨ha, hI, hC, hz⟩ := id hD
    obtain ⟨dxc, _, _, _, _, hCI, _⟩ := id hC
    refine q_set rfl hD rfl (fun hb => k2 _ (by show (some z, Vamvse.withSet z x _) = _; rw [set_bad hb])) fun hx H1 e1 => ?_
    refine q_set rfl (hD.mono e1) rfl (fun hb => (k2 _ (by show (some z, Vamvse.withSet z x _) = _; rw [set_ok hx, set_bad hb])).mono e1) fun hy H2 e2 => ?_
    have ek : Vamvse.step (some z) (.go x y) = (some z, one (Vamvse.goCost z.t z.cs x.toNat y.toNat : Int)) := by
      show (some z, Vamvse.withSet z x _) = _
      rw [set_ok hx, set_ok hy]
    rw [ek] at k1
    have e02 := e1.trans e2
    refine s_retL (el_lst (ea_cons (ev_methG (vs := [nV x.toNat, nV y.toNat]) (ev_Desk_held T (ev_var rfl) (e02.at hI)) (e02.at hCI) (no_Choice_going ..) (ea_cons (ev_is (ev_var rfl) (nat_back hx.1)) (ea_cons (ev_is (ev_var rfl) (nat_back hy.1)) ea_nil)) (spv_going (hC.mono e02) hz)) ea_nil) (by show 1 ≤ 100000; decide)) fun p H3 hp e3 h3 => k1 p H3 (fresh_back e02 hp) (e02.trans e3).offD (hD.mono (e02.trans e3)) (DOk.ex hD (e02.trans e3)) h3
theorem ok_Desk_day (T : Txt K mg d) : FnOk P w K mg base (L2.CX P w) 5 d.f_Desk_day d.fd_Desk_day P_Desk_day (sp_Desk_day d) := by
  refine T.F.F_Desk_day.okX sc_Desk_day (fun vs H Q E h => ?_) (fun cdv A outer s H vs Q E hr h => ⟨t_Desk_day K d E (sp_refuse_if d) (sp_look_at_set d) (sp_room d) (sp_day_cost d), dv_Desk_day T (ok_refuse_if T) (ok_look_at_set T) (ok_room T) (ok_day_cost T) hr, ?_⟩)
  · obtain ⟨a, dx, z, n, s, rfl, _⟩ := h
    rfl
  · obtain ⟨a, dx, z, n, s, rfl, hD, k1, k2⟩ := h
    obtain ⟨ha, hI, hC, hz⟩ := id hD
    obtain ⟨dxc, ta, ca, sa, da, hCI, hT, hca, hsa, ⟨rs, hda, hdp⟩⟩ := id hC
    have hrl := pair_len hdp
    refine q_refuse (why := -8) (b := !decide (0 ≤ n ∧ n < ((z.days.length : Nat) : Int))) (ev_is (ev_notV (ev_betweenL ev_c (ev_var rfl) (ev_len (ev_Choice_days T (ev_Desk_held T (ev_var rfl) hI) hCI) (sq_of hda)))) (by rw [not_andL, List.length_map, hrl])) (ev_un ev_c ru_neg') (fun hb => k2 _ ?_) (fun hb H1 e1 => ?_)
    · show (some z, match (index n z.days.length).bind fun i => z.days[i]? with | none => _ | some ks => _) = _
      have : index n z.days.length = none := by
        unfold index
        rw [if_neg (of_not hb)]
      rw [this]
      rfl
    · have hn := of_yes hb
      have hi : n.toNat < z.days.length := by omega
      obtain ⟨ks, hks⟩ : ∃ ks, z.days[n.toNat]? = some ks := ⟨_, List.getElem?_eq_getElem hi⟩
      have hix : (index n z.days.length).bind (fun i => z.days[i]?) = some ks := by
        unfold index
        rw [if_pos hn]
        exact hks
      have e0 : Vamvse.step (some z) (.day n s) = (some z, Vamvse.withSet z s fun x => ⟨(Vamvse.dayCost z.t z.cs ks x : Int), Vamvse.nats [Vamvse.roomOf z.t z.cs x]⟩) := by
        show (some z, match (index n z.days.length).bind fun i => z.days[i]? with | none => _ | some ks => _) = _
        rw [hix]
      rw [e0] at k1 k2
      obtain ⟨kp, hkp, hkl⟩ := pair_get hdp hks
      refine q_set rfl (hD.mono e1) rfl (fun hb => (k2 _ (by rw [set_bad hb])).mono e1) fun hs H2 e2 => ?_
      rw [set_ok hs] at k1
      have e02 := e1.trans e2
      refine s_retL (el_lst (ea_cons (ev_methG (vs := [.ref kp, nV s.toNat]) (ev_Desk_held T (ev_var rfl) (e02.at hI)) (e02.at hCI) (no_Choice_day_cost ..) (ea_cons (ev_op (ev_Choice_days T (ev_Desk_held T (ev_var rfl) (e02.at hI)) (e02.at hCI)) (ev_is (ev_var rfl) (nat_back hn.1)) (rv_ixL (sq_of (e02.at hda)) (atI_nat (by rw [List.getElem?_map, hkp]; rfl)))) (ea_cons (ev_is (ev_var rfl) (nat_back hs.1)) ea_nil)) (spv_day_cost (hC.mono e02) hz (e02.at hkl) (hz.days ks (List.mem_of_getElem? hks)).2))
        (ea_cons (ev_methG (vs := [nV s.toNat]) (ev_Desk_held T (ev_var rfl) (e02.at hI)) (e02.at hCI) (no_Choice_room ..) (ea_cons (ev_is (ev_var rfl) (nat_back hs.1)) ea_nil) (spv_room (hC.mono e02) hz)) ea_nil)) (by show 2 ≤ 100000; decide)) fun p H3 hp e3 h3 => k1 p H3 (fresh_back e02 hp) (e02.trans e3).offD (hD.mono (e02.trans e3)) (DOk.ex hD (e02.trans e3)) h3
end
end KW
end
section
/-! # days: candidates, days, checks, ends -/
namespace KW
open PySem PySem.Spec PyProof.Rows L2 Evl
open VamvsBase (Answer one index fracRow)
open Vamvse (Held)
/-! ### filters of ints; sets -/
theorem filter_zip (bad : Int → Bool) : ∀ (l : List Int) (k : Nat), (((l.zipIdx k).filter fun x => bad x.1).map fun x => V.int x.1) = (l.filter bad).map V.int
  | [], _ => rfl
  | a :: l, k => by
    rw [List.zipIdx_cons, List.filter_cons, List.filter_cons]
    by_cases h : bad a = true
    · rw [if_pos h, if_pos (show bad (a, k).1 = true from h), List.map_cons, List.map_cons, filter_zip bad l (k + 1)]
    · rw [if_neg h, if_neg (show ¬ bad (a, k).1 = true from h), filter_zip bad l (k + 1)]
theorem given_bad (bad : Int → Bool) (l : List Int) : given l.length (fun i => bad (l.getD i 0)) (fun i => .int (l.getD i 0)) = (l.filter bad).map V.int := by
  rw [given_zip (fun x _ => bad x) V.int l 0 _ _ (fun i x hx => by
    rw [List.getD_eq_getElem?_getD, hx]
    exact ⟨rfl, rfl⟩), filter_zip]
theorem eqv_nil (ns : List Int) : PyData.eqv (.list (ns.map PyData.int)) (.list []) = ns.isEmpty := by
  cases ns with
  | nil => rfl
  | cons a r => rfl
theorem any_filter (bad : Int → Bool) (l : List Int) : (!(l.filter bad).isEmpty) = l.any bad := by
  induction l with
  | nil => rfl
  | cons a l ih =>
    rw [List.filter_cons, List.any_cons]
    by_cases h : bad a = true
    · rw [if_pos h, h]
      rfl
    · rw [if_neg h, ih]
      have : bad a = false := by simpa using h
      rw [this]
      rfl
/-- [x for x in xs if bad] != [] -/
theorem ev_bads {K : PySem.W.Frag} {σ : L2.St} {H : Hp} {tl : TE} {tt : TT} {te : TE} {j : Nat} {g : TG} {ga : Addr} {l : List Int} (bad : Int → Bool) (h : EvL (tLc (iList K tl) g tt te [j]) σ H ((l.filter bad).map V.int)) :
    Ev (tOp (rNeD K) (tLc (iList K tl) g tt te [j]) (tLst tNil)) σ H (.bl (l.any bad)) := by
  rw [← any_filter, ← eqv_nil]
  exact ev_opLL h (el_lst ea_nil (by decide)) fun p q H1 hp hq e1 => fun H2 e2 Q k => ⟨.list ((l.filter bad).map PyData.int), .list [], .lst (sq_of (e2.at hp)) (dpAll_ints _), .lst (sq_of (e2.at hq)) .nil, by
    show (PyData.canLay0 _ && decide (PyData.depth _ ≤ 64)) = true
    rw [Bool.and_eq_true]
    refine ⟨by simp only [PyData.canLay0]; exact lay_ints _, decide_eq_true ?_⟩
    simp only [PyData.depth, depth_ints]
    omega, by decide, k H2 (Ex.refl H2)⟩
theorem el_filter {K : PySem.W.Frag} {σ : L2.St} {H : Hp} {tl : TE} {tt : TT} {te : TE} {j : Nat} {ga : Addr} {l : List Int} (bad : Int → Bool) (h : Ev tl σ H (.ref ga)) (hx : SqL K H ga (l.map V.int)) (hz : l.length ≤ 40000) (hw : ∀ x, wipe ((wipe σ [j]).set j (some x)) [j] = wipe σ [j])
    (ht : ∀ (x : Int) H1, Ex H H1 → EvT tt ((wipe σ [j]).set j (some (.int x))) H1 (bad x)) (he : ∀ (x : Int) H1, Ex H H1 → Ev te ((wipe σ [j]).set j (some (.int x))) H1 (.int x)) :
    EvL (tLc (iList K tl) (gName j) tt te [j]) σ H ((l.filter bad).map V.int) := by
  rw [← given_bad]
  have e := el_lcL (t := tt) (te := te) (xs := l.map V.int) (fun i => bad (l.getD i 0)) (fun i => .int (l.getD i 0)) h hx (by rw [List.length_map]; exact hz) hw (fun i x H1 e1 hxi => ?_) (fun i x H1 e1 hxi _ => ?_)
  · rw [List.length_map] at e
    exact e
  · rw [List.getElem?_map] at hxi
    cases q : l[i]? with
    | none =>
      rw [q] at hxi
      cases hxi
    | some n =>
      rw [q] at hxi
      have e2 := (Option.some.inj hxi).symm
      subst e2
      rw [List.getD_eq_getElem?_getD, q]
      exact ht n H1 e1
  · rw [List.getElem?_map] at hxi
    cases q : l[i]? with
    | none =>
      rw [q] at hxi
      cases hxi
    | some n =>
      rw [q] at hxi
      have e2 := (Option.some.inj hxi).symm
      subst e2
      rw [List.getD_eq_getElem?_getD, q]
      exact he n H1 e1
theorem range_get (ns : List Int) : (List.range ns.length).map (fun i => ns.getD i 0) = ns := by
  refine List.ext_getElem (by rw [List.length_map, List.length_range]) fun i h1 h2 => ?_
  rw [List.getElem_map, List.getElem_range, List.getD_eq_getElem?_getD, List.getElem?_eq_getElem h2]
  rfl
theorem met_nodup (val : Nat → Int) : ∀ i : Nat, (PyProof.Rows.firstMet val i).length = i → ((List.range i).map val).Nodup
  | 0, _ => by simp
  | i + 1, h => by
    rw [PyProof.Rows.firstMet_succ] at h
    unfold PyProof.Rows.step_dedup at h
    have hle := PyProof.Rows.firstMet_length_le val i
    by_cases q : (PyProof.Rows.firstMet val i).any (· == val i) = true
    · rw [if_pos q] at h
      omega
    · rw [if_neg q, List.length_append, List.length_singleton] at h
      have ih := met_nodup val i (by omega)
      rw [List.range_succ, List.map_append, List.nodup_append]
      refine ⟨ih, by simp, fun a ha b hb => ?_⟩
      have hb' : b = val i := by simpa using hb
      subst hb'
      intro e
      subst e
      rw [PyProof.Rows.firstMet_any] at q
      exact q (List.any_eq_true.mpr ⟨_, ha, by simp⟩)
theorem met_lt (ns : List Int) : (PyProof.Rows.firstMet (fun i => ns.getD i 0) ns.length).length < ns.length ↔ ¬ ns.Nodup := by
  have hle := PyProof.Rows.firstMet_length_le (fun i => ns.getD i 0) ns.length
  constructor
  · intro h hn
    rw [RZ.firstMet_nodup hn ns.length (Nat.le_refl _), List.take_length] at h
    exact absurd h (Nat.lt_irrefl _)
  · intro h
    refine Nat.lt_of_le_of_ne hle fun e => h ?_
    have := met_nodup _ _ e
    rw [range_get] at this
    exact this
theorem ev_setLen {K : PySem.W.Frag} {σ : L2.St} {H : Hp} {ta : TE} {ga : Addr} {l : List Int} (h : Ev ta σ H (.ref ga)) (hx : SqL K H ga (l.map V.int)) (hz : l.length ≤ 4000) : Ev (tLenSetG K ta) σ H (nV (PyProof.Rows.firstMet (fun i => l.getD i 0) l.length).length) := fun H1 e Q q =>
  h H1 e _ fun H2 e2 => ⟨ga, l, rfl, ex_l (e.trans e2) hx, hz, q H2 e2⟩
theorem back_all {l : List Int} (h : ∀ x ∈ l, 0 ≤ x) : l.map V.int = (l.map fun x => x.toNat).map nV := by
  rw [List.map_map]
  exact List.map_congr_left fun x hx => nat_back (h x hx)
theorem nodup_back {l : List Int} (h : ∀ x ∈ l, 0 ≤ x) (hn : l.Nodup) : (l.map fun x => x.toNat).Nodup := by
  unfold List.Nodup at hn ⊢
  rw [List.pairwise_map]
  refine List.Pairwise.imp_of_mem (fun {a b} ha hb hab e => hab ?_) hn
  have h1 := h a ha
  have h2 := h b hb
  omega
theorem el_catR {σ : L2.St} {H : Hp} {ta tb : TE} {l : Addr} {xs ys : List V} (ha : Ev ta σ H (.ref l)) (hb : EvL tb σ H ys) (hl : H l = some (.lst xs)) (hz : xs.length + ys.length ≤ 100000) : EvL (tOp rCat ta tb) σ H (xs ++ ys) := fun H1 e Q q =>
  ha H1 e _ fun H2 e2 => hb H2 (e.trans e2) _ fun p H3 hp e3 h3 => ⟨l, p, xs, ys, rfl, rfl, (e.trans (e2.trans e3)).at hl, h3, sz_of hz, fun r hr => q r _ (fresh_back (e2.trans e3) hr) ((e2.trans e3).trans (Ex.new hr)) upd_same⟩
theorem q_dropMeth {σ : L2.St} {H : Hp} {ta : TE} {tr : TA} {tz : TS} {D : Ends} {E : XK} {C a dx : Addr} {fs : List (Str × V)} {m : Str} {sp : Sp} (h : Ev ta σ H (.ref a)) (ho : H a = some (.ins C dx fs)) (hl : fs.lookup m = none)
    (k : ∀ H1, Ex H H1 → tr σ H1 fun vs H2 => sp (.ref a :: (vs ++ [])) H2 (fun _ H3 => tz D σ H3) E) : tSeq (tDrop (tMeth C m sp [] E ta tr)) tz D σ H := h H (Ex.refl H) _ fun H1 e1 => ⟨a, dx, fs, rfl, e1.at ho, hl, k H1 e1⟩
theorem cut_rows (n : Nat) : ∀ (k : Nat) (l : List Nat), l.length = n * k → ∀ ks ∈ Vamvse.cut n k l, ks.length = n ∧ ∀ x ∈ ks, x ∈ l
  | 0, _, _, ks, h => by cases h
  | k + 1, l, hl, ks, h => by
    rw [Nat.mul_add, Nat.mul_one] at hl
    rcases List.mem_cons.mp h with e | e
    · rw [e, List.length_take]
      exact ⟨by omega, fun x hx => List.mem_of_mem_take hx⟩
    · obtain ⟨h1, h2⟩ := cut_rows n k (l.drop n) (by rw [List.length_drop]; omega) ks e
      exact ⟨h1, fun x hx => List.mem_of_mem_drop (h2 x hx)⟩
theorem index_none {g : Int} {n : Nat} : (index g n).isNone = !(decide (0 ≤ g) && decide (g < (n : Int))) := by
  unfold index
  by_cases h : 0 ≤ g ∧ g < (n : Int)
  · rw [if_pos h, decide_eq_true h.1, decide_eq_true h.2]
    rfl
  · rw [if_neg h, not_andL, decide_eq_false h]
    rfl
section
variable {P : Program} {w : World} {K : PySem.W.Frag} {mg : Str → Option Value} {base : Heap} {d : Ad}
theorem ok_cands (T : Txt K mg d) : FnOk P w K mg base (L2.CX P w) 4 d.f_Desk_cands d.fd_Desk_cands P_Desk_cands (sp_cands d) := by
  refine T.F.F_Desk_cands.okX sc_Desk_cands (fun vs H Q E h => ?_) (fun cdv A outer s H vs Q E hr h => ⟨t_Desk_cands K d E (sp_refuse_if d) (sp_put_candidates d), dv_Desk_cands T (ok_refuse_if T) (ok_put_candidates T) hr, ?_⟩)
  · obtain ⟨a, dx, ga, z, l, rfl, _⟩ := h
    rfl
  · obtain ⟨a, dx, ga, z, l, rfl, hD, hga, hll, k1, k2⟩ := h
    obtain ⟨ha, hI, hC, hz⟩ := id hD
    obtain ⟨dxc, ta, ca, sa, da, hCI, ⟨dxt, cola, ra, qa, hTI, hcol, hrw, hqs⟩, hca, hsa, hda⟩ := id hC
    have es : Vamvse.step (some z) (.cands l) = Vamvse.candsCall z l := rfl
    rw [es] at k1 k2
    unfold Vamvse.candsCall at k1 k2
    refine q_asg (v := nV (2 ^ Vamvsa.width z.t)) (ev_shl1 (n := Vamvsa.width z.t) (Nat.le_trans hz.cols (by decide)) (ev_is (ev_len (ev_Table_columns T (ev_Choice_table T (ev_Desk_held T (ev_var rfl) hI) hCI) hTI) (sq_of hcol)) (by rw [List.length_map]; rfl))) fun H1 e1 => ?_
    refine q_refuse (why := -2) (ev_bads (ga := ga) (fun g => (index g (2 ^ Vamvsa.width z.t)).isNone) (el_filter _ (ev_var rfl) (sq_of (e1.at hga)) (by omega) (fun _ => rfl) (fun x H2 e2 => ?_) (fun x H2 e2 => ev_var rfl))) (ev_un ev_c ru_neg') (fun hb => ?_) (fun hb H2 e2 => ?_)
    · rw [index_none]
      exact et_not (et_test (ev_betweenL ev_c (ev_var rfl) (ev_var rfl)))
    · rw [if_pos hb] at k2
      exact (k2 _ rfl).mono e1
    · rw [if_neg (by rw [hb]; decide)] at k1 k2
      have hall : ∀ g ∈ l, 0 ≤ g ∧ g < ((2 ^ Vamvsa.width z.t : Nat) : Int) := fun g hg => by
        have h1 : (index g (2 ^ Vamvsa.width z.t)).isNone = false := by
          cases q : (index g (2 ^ Vamvsa.width z.t)).isNone with
          | false => rfl
          | true =>
            rw [List.any_eq_true.mpr ⟨g, hg, q⟩] at hb
            cases hb
        rw [index_none, not_andL] at h1
        exact of_yes h1
      have e02 := e1.trans e2
      have hcond : Ev (tOrV (tOp kGt (tCB (Evl.rLenS K) (tCons (tVar 1) (tNil))) (tC (.int 4))) (tOp kLt (tLenSetG K (tVar 1)) (tCB (Evl.rLenS K) (tCons (tVar 1) (tNil))))) [some (.ref a), some (.ref ga), some (nV (2 ^ Vamvsa.width z.t)), none] H2 (.bl (decide (Vamvse.CANDS < l.length ∨ l.eraseDups.length < l.length))) := by
        refine ev_is (ev_orV (ev_op (ev_len (ev_var rfl) (sq_of (e02.at hga))) ev_c rv_gt) (fun h4 => ev_op (ev_setLen (ev_var rfl) (sq_of (e02.at hga)) ?_) (ev_len (ev_var rfl) (sq_of (e02.at hga))) rv_lt)) ?_
        · have := of_decide_eq_false h4
          rw [List.length_map] at this
          omega
        · rw [Bool.decide_or, List.length_map]
          have c1 : decide ((4 : Int) < ((l.length : Nat) : Int)) = decide (Vamvse.CANDS < l.length) := decide_eq_decide.mpr (by show _ ↔ 4 < _; omega)
          have c2 : decide (((PyProof.Rows.firstMet (fun i => l.getD i 0) l.length).length : Int) < ((l.length : Nat) : Int)) = decide (l.eraseDups.length < l.length) := decide_eq_decide.mpr (by
            rw [Int.ofNat_lt, met_lt, KA.dups_lt])
          rw [c1, c2]
      refine q_refuse (why := -4) hcond (ev_un ev_c ru_neg') (fun hb2 => ?_) (fun hb2 H3 e3 => ?_)
      · rw [if_pos (of_decide_eq_true hb2)] at k2
        exact (k2 _ rfl).mono e02
      · rw [if_neg (of_decide_eq_false hb2)] at k1
        have hno := of_decide_eq_false hb2
        have h4 : l.length ≤ 4 := Nat.le_of_not_lt fun y => hno (.inl y)
        have hnd : l.Nodup := Decidable.byContradiction fun y => hno (.inr ((KA.dups_lt l).mpr y))
        have e03 := e02.trans e3
        have hga' : H3 ga = some (.lst ((l.map fun g => g.toNat).map nV)) := by
          rw [← back_all fun x hx => (hall x hx).1]
          exact e03.at hga
        refine q_dropMeth (ev_Desk_held T (ev_var rfl) (e03.at hI)) (e03.at hCI) (no_Choice_put_candidates ..) fun H4 e4 => ?_
        have e04 := e03.trans e4
        refine ⟨_, rfl, ha, ga, z, l.map fun g => g.toNat, rfl, hC.mono e04, hz, e4.at hga', by rw [List.length_map]; exact h4, fun H5 o5 hC5 hP5 => ?_⟩
        have nah : a ≠ ha := fun y => by
          have h := hI
          rw [y, hCI] at h
          injection h with h
          injection h with _ _ h
          cases h
        have hI5 : H5 a = some (.ins d.cDesk dx (fl_Desk (.ref ha))) := o5 _ _ (e04.at hI) nah
        have hz5 : HeldOk { z with cs := l.map fun g => g.toNat } := ⟨hz.cols, hz.rows, hz.many, hz.asks, hz.asked, by show (l.map _).length ≤ 4; rw [List.length_map]; exact h4, nodup_back (fun x hx => (hall x hx).1) hnd, fun c hc => by
          obtain ⟨g, hg, rfl⟩ := List.mem_map.mp hc
          have := hall g hg
          show g.toNat < 2 ^ Vamvsa.width z.t
          omega, hz.day8, hz.days⟩
        obtain ⟨dxc5, ta5, ca5, sa5, da5, hCI5, _, _, hsa5, _⟩ := id hC5
        refine s_retL (el_cat (el_lst (ea_cons ev_c ea_nil) (by decide)) (ev_Choice_sizes T (ev_Desk_held T (ev_var rfl) hI5) hCI5) hsa5 (by
          rw [List.length_map, List.length_map, List.length_map]
          show 1 + l.length ≤ 100000
          omega)) fun p H6 hp e6 h6 => k1 p H6 ?_ ((e04.offD.trans (o5.choice (e04.at hCI))).ex e6) ⟨ha, e6.at hI5, hC5.mono e6, hz5⟩ (fun N hN pp dx' ha' e' => ?_) ?_
        · have npa : p ≠ ha := fun y => by
            rw [y, hCI5] at hp
            cases hp
          exact fresh_back e04 (o5.fresh npa hp)
        · have eh := desk_inj (e6.at hI5) e'
          injection eh with eh
          subst eh
          exact Parts.keep hC5 (fun b o h _ => e6.at h) (hP5 N (fun b hb => hN b (fresh_back e04 hb)) (Parts.keep hC (fun b o h _ => e04.at h) (pp _ _ hI)))
        · rw [h6]
          show _ = some (HO.lst (V.int 1 :: (Vamvse.nats _).map V.int))
          rw [nats_V]
          rfl
theorem ok_Desk_put_days (T : Txt K mg d) : FnOk P w K mg base (L2.CX P w) 4 d.f_Desk_put_days d.fd_Desk_put_days P_Desk_put_days (sp_Desk_put_days d) := by
  refine T.F.F_Desk_put_days.okX sc_Desk_put_days (fun vs H Q E h => ?_) (fun cdv A outer s H vs Q E hr h => ⟨t_Desk_put_days K d E (sp_refuse_if d) (sp_put_days d), dv_Desk_put_days T (ok_refuse_if T) (ok_put_days T) hr, ?_⟩)
  · obtain ⟨a, dx, ga, z, l, rfl, _⟩ := h
    rfl
  · obtain ⟨a, dx, ga, z, l, rfl, hD, hga, hll, k1, k2⟩ := h
    obtain ⟨ha, hI, hC, hz⟩ := id hD
    obtain ⟨dxc, ta, ca, sa, da, hCI, ⟨dxt, cola, ra, qa, hTI, hcol, hrw, ⟨qr, hqs, hqp⟩⟩, hca, hsa, hda⟩ := id hC
    have hql := pair_len hqp
    have es : Vamvse.step (some z) (.days l) = Vamvse.daysCall z l := rfl
    rw [es] at k1 k2
    unfold Vamvse.daysCall at k1 k2
    dsimp only at k1 k2
    refine q_asg (v := nV z.t.asks.length) (ev_is (ev_len (ev_Table_questions T (ev_Choice_table T (ev_Desk_held T (ev_var rfl) hI) hCI) hTI) (sq_of hqs)) (by rw [List.length_map, hql])) fun H1 e1 => ?_
    generalize hn : z.t.asks.length = n at *
    have hcond : Ev (tOrV (tOp rEq (tVar 2) (tC (.int 0))) (tOrV (tOp kGt (tOp kMod (tCB (Evl.rLenS K) (tCons (tVar 1) (tNil))) (tVar 2)) (tC (.int 0))) (tOp kGt (tCB (Evl.rLenS K) (tCons (tVar 1) (tNil))) (tOp kMul (tC (.int 8)) (tVar 2))))) [some (.ref a), some (.ref ga), some (nV n), none] H1
        (.bl (decide (n = 0 ∨ l.length % n ≠ 0 ∨ Vamvse.DAYS * n < l.length))) := by
      have e0 : decide (nV n = V.int 0) = decide (n = 0) := decide_eq_decide.mpr ⟨fun h => by injection h with h; omega, fun h => by rw [h]; rfl⟩
      refine ev_is (ev_orV (ev_op (ev_var rfl) ev_c (rv_eq rfl)) (fun h0 => ?_) (b := decide (l.length % n ≠ 0 ∨ Vamvse.DAYS * n < l.length))) ?_
      · rw [e0] at h0
        have hpos : 0 < n := Nat.pos_of_ne_zero (of_decide_eq_false h0)
        refine ev_is (ev_orV (ev_op (ev_op (ev_len (ev_var rfl) (sq_of (e1.at hga))) (ev_var rfl) (rv_mod (by omega))) ev_c rv_gt) (fun _ => ev_op (ev_len (ev_var rfl) (sq_of (e1.at hga))) (ev_op ev_c (ev_var rfl) (rv_mul (.inl ⟨by decide, by decide⟩))) rv_gt)) ?_
        rw [Bool.decide_or, List.length_map]
        have c1 : decide ((0 : Int) < ((l.length : Nat) : Int) % ((n : Nat) : Int)) = decide (l.length % n ≠ 0) := decide_eq_decide.mpr (by
          have : ((l.length : Nat) : Int) % ((n : Nat) : Int) = ((l.length % n : Nat) : Int) := by push_cast; rfl
          rw [this]
          omega)
        have c2 : decide ((8 : Int) * ((n : Nat) : Int) < ((l.length : Nat) : Int)) = decide (Vamvse.DAYS * n < l.length) := decide_eq_decide.mpr (by
          show _ ↔ 8 * n < l.length
          omega)
        rw [c1, c2]
      · rw [e0, ← Bool.decide_or]
    refine q_refuse (why := -5) hcond (ev_un ev_c ru_neg') (fun hb => ?_) (fun hb H2 e2 => ?_)
    · rw [if_pos (by
        rcases of_decide_eq_true hb with h | h | h
        · exact .inl h
        · exact .inr (.inl h)
        · exact .inr (.inr (.inl h)))] at k2
      exact (k2 _ rfl).mono e1
    · have hno := of_decide_eq_false hb
      have h0 : 0 < n := Nat.pos_of_ne_zero fun y => hno (.inl y)
      have hmod : l.length % n = 0 := Decidable.byContradiction fun y => hno (.inr (.inl y))
      have h8 : l.length ≤ 8 * n := Nat.le_of_not_lt fun y => hno (.inr (.inr y))
      have e02 := e1.trans e2
      refine q_refuse (why := -5) (ev_bads (ga := ga) (fun k => decide (k < 0 ∨ (Vamvsa.TIMES : Int) < k)) (el_filter _ (ev_var rfl) (sq_of (e02.at hga)) (by omega) (fun _ => rfl) (fun x H3 e3 => ?_) (fun x H3 e3 => ev_var rfl))) (ev_un ev_c ru_neg') (fun hb2 => ?_) (fun hb2 H3 e3 => ?_)
      · refine et_is (et_not (et_test (ev_between ev_c (ev_var rfl) ev_c))) ?_
        rw [not_and, ← decide_not]
        exact decide_eq_decide.mpr (by show ¬ (0 ≤ x ∧ x ≤ 99) ↔ (x < 0 ∨ (99 : Int) < x); omega)
      · rw [if_pos (.inr (.inr (.inr hb2)))] at k2
        exact (k2 _ rfl).mono e02
      · have hall : ∀ x ∈ l, 0 ≤ x ∧ x ≤ 99 := fun x hx => by
          have h1 : decide (x < 0 ∨ (Vamvsa.TIMES : Int) < x) = false := by
            cases q : decide (x < 0 ∨ (Vamvsa.TIMES : Int) < x) with
            | false => rfl
            | true =>
              rw [List.any_eq_true.mpr ⟨x, hx, q⟩] at hb2
              cases hb2
          have h2 := of_decide_eq_false h1
          have h3 : ¬ (x < 0 ∨ (99 : Int) < x) := h2
          omega
        rw [if_neg (by
          rintro (h | h | h | h)
          · omega
          · omega
          · have : 8 * n < l.length := h
            omega
          · rw [hb2] at h
            cases h)] at k1
        have e03 := e02.trans e3
        have hlen : l.length = n * (l.length / n) := by
          have := Nat.div_add_mod l.length n
          omega
        have hk8 : l.length / n ≤ 8 := by
          refine Nat.div_le_of_le_mul ?_
          rw [Nat.mul_comm]
          exact h8
        have hga' : H3 ga = some (.lst ((l.map fun g => g.toNat).map nV)) := by
          rw [← back_all fun x hx => (hall x hx).1]
          exact e03.at hga
        refine q_dropMeth (ev_Desk_held T (ev_var rfl) (e03.at hI)) (e03.at hCI) (no_Choice_put_days ..) fun H4 e4 => ?_
        have e04 := e03.trans e4
        refine ⟨_, rfl, ha, ga, z, l.length / n, l.map fun g => g.toNat, rfl, hC.mono e04, hz, e4.at hga', by rw [hn]; exact h0, hk8, by rw [hn, List.length_map]; exact hlen, fun H5 o5 hC5 hP5 => ?_⟩
        rw [hn] at hC5
        have nah : a ≠ ha := fun y => by
          have h := hI
          rw [y, hCI] at h
          injection h with h
          injection h with _ _ h
          cases h
        have hI5 : H5 a = some (.ins d.cDesk dx (fl_Desk (.ref ha))) := o5 _ _ (e04.at hI) nah
        have hz5 : HeldOk { z with days := Vamvse.cut n (l.length / n) (l.map fun g => g.toNat) } := ⟨hz.cols, hz.rows, hz.many, hz.asks, hz.asked, hz.cs4, hz.csN, hz.csB, by
          show (Vamvse.cut _ _ _).length ≤ 8
          rw [cut_len]
          exact hk8, fun ks hks => by
          obtain ⟨h1, h2⟩ := cut_rows n (l.length / n) (l.map fun g => g.toNat) (by rw [List.length_map]; exact hlen) ks hks
          refine ⟨h1.trans hn.symm, fun k hk => ?_⟩
          obtain ⟨g, hg, rfl⟩ := List.mem_map.mp (h2 k hk)
          have := hall g hg
          omega⟩
        obtain ⟨dxc5, ta5, ca5, sa5, da5, hCI5, _, _, _, ⟨rs5, hda5, hdp5⟩⟩ := id hC5
        have hdl := pair_len hdp5
        have hdl' : rs5.length = l.length / n := by
          rw [hdl]
          exact cut_len _ _ _
        refine s_retL (el_lst (ea_cons ev_c (ea_cons (ev_len (ev_Choice_days T (ev_Desk_held T (ev_var rfl) hI5) hCI5) (sq_of hda5)) ea_nil)) (by show 2 ≤ 100000; decide)) fun p H6 hp e6 h6 => k1 p H6 ?_ ((e04.offD.trans (o5.choice (e04.at hCI))).ex e6) ⟨ha, e6.at hI5, hC5.mono e6, hz5⟩ (fun N hN pp dx' ha' e' => ?_) ?_
        · have npa : p ≠ ha := fun y => by
            rw [y, hCI5] at hp
            cases hp
          exact fresh_back e04 (o5.fresh npa hp)
        · have eh := desk_inj (e6.at hI5) e'
          injection eh with eh
          subst eh
          exact Parts.keep hC5 (fun b o h _ => e6.at h) (hP5 N (fun b hb => hN b (fresh_back e04 hb)) (Parts.keep hC (fun b o h _ => e04.at h) (pp _ _ hI)))
        · rw [h6, List.length_map, hdl']
          rfl
end
end KW
end
section
/-! # days: checks, ends -/
namespace KW
open PySem PySem.Spec PyProof.Rows L2 Evl
open VamvsBase (Answer one index fracRow Frac)
open Vamvse (Held Piece)
theorem int_at {l : List Int} {i : Nat} {x : V} (h : (l.map V.int)[i]? = some x) : ∃ n, l[i]? = some n ∧ x = .int n := by
  rw [List.getElem?_map] at h
  cases q : l[i]? with
  | none =>
    rw [q] at h
    cases h
  | some n =>
    rw [q] at h
    exact ⟨n, rfl, (Option.some.inj h).symm⟩
def rowP (p : Piece) : List Int := (p.s : Int) :: (fracRow p.from_ ++ fracRow p.to)
theorem step_check (z : Held) (r : Int) (l : List Int) : Vamvse.step (some z) (.check r l) = (some z, Vamvse.withRoom r fun r => Vamvse.checkAnswer z r l) := rfl
theorem step_ends (z : Held) (r q : Int) : Vamvse.step (some z) (.ends r q) = (some z, Vamvse.withRoom r fun r => match index q z.t.asks.length with
    | none => one (-3)
    | some i => ⟨((Vamvse.pieces z.t z.cs r i).length : Int), (Vamvse.pieces z.t z.cs r i).flatMap rowP⟩) := rfl
theorem find_first {p : List Nat} {f : Nat → Bool} {n s : Nat} (hn : p[n]? = some s) (hs : f s = true) (h : ∀ (j s' : Nat), j < n → p[j]? = some s' → f s' = false) : p.findIdx? f = some n := by
  rw [List.findIdx?_eq_some_iff_getElem]
  obtain ⟨hl, e⟩ := List.getElem?_eq_some_iff.mp hn
  refine ⟨hl, by rw [e]; exact hs, fun j hj => ?_⟩
  have := h j _ hj (List.getElem?_eq_getElem (by omega))
  rw [this]
  decide
theorem find_no {p : List Nat} {f : Nat → Bool} (h : ∀ (j s' : Nat), j < p.length → p[j]? = some s' → f s' = false) : p.findIdx? f = none := by
  rw [List.findIdx?_eq_none_iff]
  intro x hx
  obtain ⟨j, hj, e⟩ := List.getElem_of_mem hx
  exact h j x hj (by rw [List.getElem?_eq_getElem hj, e])
section
variable {P : Program} {w : World} {K : PySem.W.Frag} {mg : Str → Option Value} {base : Heap} {d : Ad}
theorem ok_Desk_check (T : Txt K mg d) : FnOk P w K mg base (L2.CX P w) 5 d.f_Desk_check d.fd_Desk_check P_Desk_check (sp_Desk_check d) := by
  refine T.F.F_Desk_check.okX sc_Desk_check (fun vs H Q E h => ?_) (fun cdv A outer s H vs Q E hr h => ⟨t_Desk_check K d E (sp_look_at_room d) (sp_refuse_if d) (sp_look_at_set d) (sp_room d) (sp_plan_cost d), dv_Desk_check T (ok_look_at_room T) (ok_refuse_if T) (ok_look_at_set T) (ok_room T) (ok_plan_cost T) hr, ?_⟩)
  · obtain ⟨a, dx, ga, z, r, l, rfl, _⟩ := h
    rfl
  · obtain ⟨a, dx, ga, z, r, l, rfl, hD, hga, hll, k1, k2⟩ := h
    obtain ⟨ha, hI, hC, hz⟩ := id hD
    obtain ⟨dxc, ta, ca, sa, da, hCI, hT, hca, hsa, ⟨rs, hda, hdp⟩⟩ := id hC
    have hrl := pair_len hdp
    rw [step_check] at k1 k2
    refine q_room hI rfl rfl (fun hb => k2 _ (by rw [room_bad hb])) fun hb H1 e1 => ?_
    rw [room_ok hb] at k1 k2
    unfold Vamvse.checkAnswer at k1 k2
    refine q_refuse (why := -7) (b := decide (l.length ≠ z.days.length)) (ev_is (ev_op (ev_len (ev_var rfl) (sq_of (e1.at hga))) (ev_len (ev_Choice_days T (ev_Desk_held T (ev_var rfl) (e1.at hI)) (e1.at hCI)) (sq_of (e1.at hda))) (rv_ne rfl)) ?_) (ev_un ev_c ru_neg') (fun hb2 => ?_) (fun hb2 H2 e2 => ?_)
    · rw [List.length_map, List.length_map, hrl, ← decide_not]
      congr 1
      refine decide_eq_decide.mpr ⟨fun h y => h (by rw [y]), fun h y => h ?_⟩
      injection y with y
      omega
    · rw [if_pos (.inl (of_decide_eq_true hb2))] at k2
      exact (k2 _ rfl).mono e1
    · have hlen := of_decide_eq_false hb2
      have e02 := e1.trans e2
      refine q_forLn (ev_var rfl) (sq_of (e02.at hga)) (fun i σ' H' => ∃ v3 : Option V, σ' = [some (.ref a), some (.int r), some (.ref ga), v3, none] ∧ Ex H H' ∧ ∀ (j : Nat) (s : Int), j < i → l[j]? = some s → 0 ≤ s ∧ s < ((2 ^ z.cs.length : Nat) : Int)) (fun H3 e3 => ⟨none, rfl, e02.trans e3, fun j s hj => absurd hj (Nat.not_lt_zero j)⟩) (fun i σ' H' hi ⟨_, _, e, _⟩ => sq_of (e.at hga)) ?_ ?_
      · rintro i x σ' H3 hx ⟨v3, rfl, e3, hall⟩
        obtain ⟨s, hs, rfl⟩ := int_at hx
        refine s_set (i := 3) rfl (hD.mono e3) rfl (fun hbad => (k2 _ ?_).mono e3) fun hok H4 e4 => ⟨_, rfl, e3.trans e4, fun j s' hj hs' => ?_⟩
        · rw [if_pos (.inr (List.any_eq_true.mpr ⟨s, List.mem_of_getElem? hs, by
            rw [index_none, not_andL, decide_eq_false hbad]
            rfl⟩))]
        · by_cases hj2 : j < i
          · exact hall j s' hj2 hs'
          · have : j = i := by omega
            subst this
            rw [hs] at hs'
            injection hs' with hs'
            rw [← hs']
            exact hok
      · rintro σ' H3 ⟨v3, rfl, e3, hall⟩
        rw [List.length_map] at hall
        have hin : ∀ s ∈ l, 0 ≤ s ∧ s < ((2 ^ z.cs.length : Nat) : Int) := fun s hs => by
          obtain ⟨j, hj, e⟩ := List.getElem_of_mem hs
          exact hall j s hj (by rw [List.getElem?_eq_getElem hj, e])
        rw [if_neg (by
          rintro (h | h)
          · exact hlen h
          · obtain ⟨s, hs, h⟩ := List.any_eq_true.mp h
            rw [index_none, not_andL, decide_eq_true (hin s hs)] at h
            cases h)] at k1
        dsimp only at k1
        have hga' : H ga = some (.lst ((l.map fun s => s.toNat).map nV)) := by
          rw [← back_all fun x hx => (hin x hx).1]
          exact hga
        have hll' : (l.map fun s => s.toNat).length = l.length := List.length_map ..
        refine q_forEn (ev_var rfl) (sq_of (e3.at hga')) (fun n σ' H' => ∃ v3 v4 : Option V, σ' = [some (.ref a), some (.int r), some (.ref ga), v3, v4] ∧ Ex H H' ∧ ∀ (j s : Nat), j < n → (l.map fun s => s.toNat)[j]? = some s → decide (r.toNat < Vamvse.roomOf z.t z.cs s) = false)
          (fun H4 e4 => ⟨v3, none, rfl, e3.trans e4, fun j s hj => absurd hj (Nat.not_lt_zero j)⟩) (fun n σ' H' hn ⟨_, _, _, e, _⟩ => sq_of (e.at hga')) ?_ ?_
        · rintro n x σ' H4 H5 hx ⟨v3, v4, rfl, e4, hroom⟩ e5
          obtain ⟨s, hs, rfl⟩ := nV_at hx
          have e05 := e4.trans e5
          refine s_when (b := decide (r.toNat < Vamvse.roomOf z.t z.cs s)) (et_is (et_test (ev_op (ev_methG (vs := [nV s]) (ev_Desk_held T (ev_var rfl) (e05.at hI)) (e05.at hCI) (no_Choice_room ..) (ea_cons (ev_var rfl) ea_nil) (spv_room (hC.mono e05) hz)) (ev_var rfl) rv_gt)) (decide_eq_decide.mpr (by omega))) (fun hbr H6 e6 => ?_) (fun hbr H6 e6 => ⟨_, _, rfl, e05.trans e6, fun j s' hj hs' => ?_⟩)
          · have hf := find_first (f := fun s => decide (r.toNat < Vamvse.roomOf z.t z.cs s)) hs hbr hroom
            rw [hf] at k1
            exact s_retL (el_lst (ea_cons ev_c (ea_cons (ev_var rfl) ea_nil)) (by show 2 ≤ 100000; decide)) fun p H7 hp e7 h7 => k1 p H7 (fresh_back (e05.trans e6) hp) ((e05.trans e6).trans e7).offD (hD.mono ((e05.trans e6).trans e7)) (DOk.ex hD ((e05.trans e6).trans e7)) h7
          · by_cases hj2 : j < n
            · exact hroom j s' hj2 hs'
            · have : j = n := by omega
              subst this
              rw [hs] at hs'
              injection hs' with hs'
              rw [← hs']
              exact hbr
        · rintro σ' H4 ⟨v3, v4, rfl, e4, hroom⟩
          rw [List.length_map] at hroom
          have hf := find_no (f := fun s => decide (r.toNat < Vamvse.roomOf z.t z.cs s)) hroom
          rw [hf] at k1
          refine s_retL (el_lst (ea_cons ev_c (ea_cons (ev_methG (vs := [.ref ga]) (ev_Desk_held T (ev_var rfl) (e4.at hI)) (e4.at hCI) (no_Choice_plan_cost ..) (ea_cons (ev_var rfl) ea_nil) (spv_plan_cost (hC.mono e4) hz (e4.at hga'))) ea_nil)) (by show 2 ≤ 100000; decide)) fun p H7 hp e7 h7 => k1 p H7 (fresh_back e4 hp) (e4.trans e7).offD (hD.mono (e4.trans e7)) (DOk.ex hD (e4.trans e7)) h7
theorem q_asg_of {te : TE} {i : Nat} {tz : TS} {D : Ends} {σ : L2.St} {H : Hp} (h : te σ H fun v H1 => tz D (σ.set i (some v)) H1) : tSeq (tAsg te (gName i)) tz D σ H := h
theorem te_call2 {sp sp2 : Sp} {E E' : XK} {σ : L2.St} {H : Hp} {ta : TA} {vs : List V} {Q : VK} (h : EvA ta σ H vs) (k : ∀ H1, Ex H H1 → sp (vs ++ []) H1 (fun x H2 => sp2 ([x] ++ []) H2 Q E) E') : tCall sp2 [] E (tCons (tCall sp [] E' ta) tNil) σ H Q := h H (Ex.refl H) _ k
theorem ok_Desk_ends (T : Txt K mg d) : FnOk P w K mg base (L2.CX P w) 6 d.f_Desk_ends d.fd_Desk_ends P_Desk_ends (sp_Desk_ends d) := by
  refine T.F.F_Desk_ends.okX sc_Desk_ends (fun vs H Q E h => ?_) (fun cdv A outer s H vs Q E hr h => ⟨t_Desk_ends K d E (sp_look_at_room d) (sp_refuse_if d) (sp_pieces_of d) (sp_lines_of d), dv_Desk_ends T (ok_look_at_room T) (ok_refuse_if T) (ok_pieces_of T) (ok_lines_of T) hr, ?_⟩)
  · obtain ⟨a, dx, z, r, q, rfl, _⟩ := h
    rfl
  · obtain ⟨a, dx, z, r, q, rfl, hD, k1, k2⟩ := h
    obtain ⟨ha, hI, hC, hz⟩ := id hD
    obtain ⟨dxc, ta, ca, sa, da, hCI, ⟨dxt, cola, ra, qa, hTI, hcol, hrw, ⟨qr, hqs, hqp⟩⟩, hca, hsa, hda⟩ := id hC
    have hql := pair_len hqp
    rw [step_ends] at k1 k2
    refine q_room hI rfl rfl (fun hb => k2 _ (by rw [room_bad hb])) fun hb H1 e1 => ?_
    rw [room_ok hb] at k1 k2
    refine q_refuse (why := -3) (b := !decide (0 ≤ q ∧ q < ((z.t.asks.length : Nat) : Int))) (ev_is (ev_notV (ev_betweenL ev_c (ev_var rfl) (ev_len (ev_Table_questions T (ev_Choice_table T (ev_Desk_held T (ev_var rfl) (e1.at hI)) (e1.at hCI)) (e1.at hTI)) (sq_of (e1.at hqs))))) (by rw [not_andL, List.length_map, hql])) (ev_un ev_c ru_neg') (fun hb2 => ?_) (fun hb2 H2 e2 => ?_)
    · have : index q z.t.asks.length = none := by
        unfold index
        rw [if_neg (of_not hb2)]
      rw [this] at k2
      exact (k2 _ rfl).mono e1
    · have hq := of_yes hb2
      have hix : index q z.t.asks.length = some q.toNat := by
        unfold index
        rw [if_pos hq]
      rw [hix] at k1
      dsimp only at k1
      have e02 := e1.trans e2
      obtain ⟨fr, hfit⟩ := KA.fitting_cons z.t z.cs r.toNat
      have hrun := KA.run_pieces (t := z.t) (cs := z.cs) (room := r.toNat) (q := q.toNat) (by rw [hfit]; exact fun y => by cases y)
      have hok := lines_ok hz r.toNat q.toNat
      have hfew : (Vamvse.pieces z.t z.cs r.toNat q.toNat).length ≤ 16 := Nat.le_trans (KA.run_few hrun) hok.few
      generalize Vamvse.pieces z.t z.cs r.toNat q.toNat = ps at *
      refine q_asg_of ?_
      refine te_call2 (vs := [.ref ha, nV r.toNat, nV q.toNat]) (ea_cons (ev_Desk_held T (ev_var rfl) (e02.at hI)) (ea_cons (ev_is (ev_var rfl) (nat_back hb.1)) (ea_cons (ev_is (ev_var rfl) (nat_back hq.1)) ea_nil))) fun H3 e3 => ?_
      have e03 := e02.trans e3
      refine ⟨ha, z, r.toNat, q.toNat, rfl, hC.mono e03, hz, by omega, fun lp H4 e4 hL => ?_⟩
      refine ⟨lp, _, ps, rfl, hL, hok, hrun, by omega, fun pp H5 e5 ⟨prs, hpp, hpq⟩ => ?_⟩
      have e05 := (e03.trans e4).trans e5
      have hpl := pair_len hpq
      refine q_asgL (el_lst (ea_cons (ev_is (ev_len (ev_var rfl) (sq_of hpp)) (by rw [List.length_map, hpl])) ea_nil) (by show 1 ≤ 100000; decide)) fun fl H6 hfl e6 h6 => ?_
      have e06 := e05.trans e6
      refine q_forL (ev_var rfl) (sq_of (e6.at hpp)) (fun n σ' H' => ∃ (v5 v6 v7 : Option V) (fl : Addr), σ' = [some (.ref a), some (.int r), some (.int q), some (.ref pp), some (.ref fl), v5, v6, v7] ∧ Ex H5 H' ∧ H fl = none ∧ H' fl = some (.lst ((((ps.length : Nat) : Int) :: (ps.take n).flatMap rowP).map V.int)))
        (fun H7 e7 => ⟨none, none, none, fl, rfl, e6.trans e7, fresh_back e05 hfl, e7.at h6⟩) (fun n σ' H' hn ⟨_, _, _, _, _, e, _⟩ => sq_of (e.at hpp)) ?_ ?_
      · rintro n x σ' H7 hx ⟨v5, v6, v7, fl, rfl, e7, hfl0, h7⟩
        obtain ⟨tp, htp, rfl⟩ := ref_at hx
        obtain ⟨p, hpn, fa, ta2, hp1, hp2, hp3⟩ := paired_get hpq htp
        refine ⟨tp, _, rfl, st_of (e7.at hp1), rfl, _, _, rfl, _, _, rfl, _, _, rfl, rfl, ?_⟩
        have hnl : n < ps.length := (List.getElem?_eq_some_iff.mp hpn).1
        have hlt : ((ps.take n).flatMap rowP).length ≤ 5 * n := by
          have go : ∀ l : List Piece, (l.flatMap rowP).length = 5 * l.length := by
            intro l
            induction l with
            | nil => rfl
            | cons c l ih =>
              rw [List.flatMap_cons, List.length_append, ih, List.length_cons]
              have : (rowP c).length = 5 := rfl
              omega
          rw [go, List.length_take]
          omega
        refine s_asgL (el_catR (ys := (rowP p).map V.int) (ev_var rfl) (el_lst (ea_cons (ev_var rfl) (ea_cons (ev_op (ev_var rfl) ev_c (rv_ixT (st_of (e7.at hp2)) (atI_nat (j := 0) rfl))) (ea_cons (ev_op (ev_var rfl) ev_c (rv_ixT (st_of (e7.at hp2)) (atI_nat (j := 1) rfl))) (ea_cons (ev_op (ev_var rfl) ev_c (rv_ixT (st_of (e7.at hp3)) (atI_nat (j := 0) rfl))) (ea_cons (ev_op (ev_var rfl) ev_c (rv_ixT (st_of (e7.at hp3)) (atI_nat (j := 1) rfl))) ea_nil))))) (by show 5 ≤ 100000; decide)) h7 ?_)
          fun fl2 H8 hfl2 e8 h8 => ⟨_, _, _, fl2, rfl, e7.trans e8, fresh_back (e05.trans e7) hfl2, ?_⟩
        · rw [List.length_map, List.length_map, List.length_cons]
          have : (rowP p).length = 5 := rfl
          omega
        · rw [h8, take_next hpn, List.flatMap_append, ← List.map_append]
          have : [p].flatMap rowP = rowP p := by
            rw [List.flatMap_cons]
            show rowP p ++ [] = rowP p
            rw [List.append_nil]
          rw [this]
          rfl
      · rintro σ' H7 ⟨v5, v6, v7, fl, rfl, e7, hfl0, h7⟩
        rw [List.length_map, hpl, List.take_length] at h7
        exact s_ret (ev_var rfl) fun H8 e8 => k1 fl H8 hfl0 ((e05.trans e7).trans e8).offD (hD.mono ((e05.trans e7).trans e8)) (DOk.ex hD ((e05.trans e7).trans e8)) (e8.at h7)
end
end KW
end
section
/-! # days: a table is loaded; what a call answers -/
namespace KW
open PySem PySem.Spec PyProof.Rows L2 Evl
open VamvsBase (Answer one index faulty Bytes)
open Vamvse (Held)
theorem ChoiceAt.off {d : Ad} {H H' : Hp} {a b dx : Addr} {v : V} (hd : H a = some (.ins d.cDesk dx (fl_Desk v))) (k : Off a H H') {z : Held} (h : ChoiceAt d H b z) : ChoiceAt d H' b z := by
  have x := Other.one hd
  obtain ⟨dxc, ta, ca, sa, da, h1, h2, h3, h4, h5⟩ := h
  have nb : b ≠ a := fun y => by
    rw [y, hd] at h1
    injection h1 with h1
    injection h1 with _ _ h1
    cases h1
  exact ⟨dxc, ta, ca, sa, da, k _ _ h1 nb, h2.off x k, k _ _ h3 (Other.ne h3 (x.lst _)), k _ _ h4 (Other.ne h4 (x.lst _)), h5.off x k⟩
theorem DeskAt.obj {d : Ad} {H : Hp} {a dx : Addr} {o : Vamvse.Obj} (h : DeskAt d H a dx o) : ∃ v, H a = some (.ins d.cDesk dx (fl_Desk v)) ∧ (v = .non ↔ o = none) := by
  cases o with
  | none => exact ⟨.non, h, fun _ => rfl, fun _ => rfl⟩
  | some z =>
    obtain ⟨ha, h1, _⟩ := h
    exact ⟨.ref ha, h1, fun y => (nomatch y), fun y => (nomatch y)⟩
theorem Both.mono {d : Ad} {E : XK} {Q : VK} {H H1 : Hp} {a dx : Addr} {o : Vamvse.Obj} {r : Vamvse.Obj × Answer} (hD : DeskAt d H a dx o) (e : Ex H H1) (h : Both d E Q H a dx o r) : Both d E Q H1 a dx o r :=
  ⟨fun p H2 hp o2 h2 k2 h3 => h.1 p H2 (fresh_back e hp) (e.offD.trans o2) h2 (fun N hN p => k2 N (fun b hb => hN b (fresh_back e hb)) (DOk.ex hD e N hN p)) h3, fun why hw => (h.2 why hw).mono e⟩
theorem step_load (o : Vamvse.Obj) (b : Bytes) : Vamvse.step o (.load b) = match Vamvsa.read b with
    | .ok t => (some ⟨t, [], []⟩, ⟨1, Vamvse.nats [Vamvsa.width t, t.rows.length, t.asks.length]⟩)
    | .error f => (o, faulty f) := by
  cases o <;> rfl
section
variable (d : Ad)
def sp_Desk_load : Sp := fun vs H Q _ => ∃ (a dx ta : Addr) (o : Vamvse.Obj) (b : Bytes), vs = [.ref a, .ref ta] ∧ DeskAt d H a dx o ∧ H ta = some (.lst (b.map byV)) ∧
  ∀ p H2, H p = none → OffD d a H H2 → DeskAt d H2 a dx (Vamvse.step o (.load b)).1 → DOk d a H H2 → H2 p = some (.lst ((VamvseNeutral.encode (Vamvse.step o (.load b)).2).map V.int)) → Q (.ref p) H2
def sp_call_told : Sp := fun vs H Q E => ∃ (a dx na ra : Addr) (o : Vamvse.Obj) (k : Vamvse.Call), vs = [.ref a, .int (KA.enc k).1, .ref na, .ref ra] ∧ DeskAt d H a dx o ∧ H na = some (.lst ((KA.enc k).2.1.map V.int)) ∧ H ra = some (.lst ((KA.enc k).2.2.map V.int)) ∧ (KA.enc k).2.2.length ≤ 8192 ∧
  Both d E Q H a dx o (Vamvse.step o k)
def sp_answer_of : Sp := fun vs H Q _ => ∃ (a dx na ra : Addr) (o : Vamvse.Obj) (k : Vamvse.Call), vs = [.ref a, .int (KA.enc k).1, .ref na, .ref ra] ∧ DeskAt d H a dx o ∧ H na = some (.lst ((KA.enc k).2.1.map V.int)) ∧ H ra = some (.lst ((KA.enc k).2.2.map V.int)) ∧ (KA.enc k).2.2.length ≤ 8192 ∧
  ∀ p H2, H p = none → OffD d a H H2 → DeskAt d H2 a dx (Vamvse.step o k).1 → DOk d a H H2 → H2 p = some (.lst ((KA.ans o k).map V.int)) → Q (.ref p) H2
/-- return [0, e.kind, e.place] -/
def t_suiteF : Addr → Value → Option Addr → TS := fun a cls dd => tRet (tLst (tCons (tC (.int 0)) (tCons (tXf a cls dd d.cFault "kind" (tVar 3)) (tCons (tXf a cls dd d.cFault "place" (tVar 3)) tNil))))
def t_suiteR : Addr → Value → Option Addr → TS := fun a cls dd => tRet (tLst (tCons (tXf a cls dd d.cRefused "why" (tVar 4)) tNil))
end
def t_Desk_load (K : PySem.W.Frag) (d : Ad) : TS :=
  tSeq (fun D σ H => tAsg (tCallS (sp_table_of d K) (WE (wAs K (.ref d.cFault) 3 (t_suiteF d) (fun _ _ _ _ => False) D)) (tCons (tVar 1) tNil)) (gName 2) D σ H)
    (tSeq (sFld K (tVar 0) (tMake d.cChoice (sp_Choice_init d) [] E0 (tCons (tVar 2) tNil)) "held")
    (tRet (tLst (tCons (tC (.int 1)) (tCons (tCB (Evl.rLenS K) (tCons (tFld K (tVar 2) "columns") tNil)) (tCons (tCB (Evl.rLenS K) (tCons (tFld K (tVar 2) "rows") tNil)) (tCons (tCB (Evl.rLenS K) (tCons (tFld K (tVar 2) "questions") tNil)) tNil)))))))
def t_answer_of (K : PySem.W.Frag) (d : Ad) : TS := fun D σ H => tRet (tCallS (sp_call_told d) (WE (wAs K (.ref d.cRefused) 4 (t_suiteR d) (fun _ _ _ _ => False) D)) (tCons (tVar 0) (tCons (tVar 1) (tCons (tVar 2) (tCons (tVar 3) tNil))))) D σ H
section
variable {P : Program} {w : World} {K : PySem.W.Frag} {mg : Str → Option Value} {base : Heap} {d : Ad}
theorem dv_Desk_load (T : Txt K mg d) {cdv : Value} {A : Around} {outer : List Env} {s : Shared} {H : Hp} {E : XK} (hr : Room 7 (A.deeper (envOfC "Desk.load" (defScope s_Desk_load) s.heap.objs.size d.f_Desk_load cdv))) :
    PSs (cxOf CX0 P w K mg base N_Desk_load "Desk.load" (defScope s_Desk_load) d.f_Desk_load cdv A outer s H E).nox (defBody s_Desk_load) (t_Desk_load K d) :=
  pss_cons (ps_try_as (i := 3) (tb := fun W => tAsg (tCallS (sp_table_of d K) (WE W) (tCons (tVar 1) tNil)) (gName 2)) (ts := t_suiteF d) (Wout := fun _ _ _ _ => False) rfl rfl sc_Desk_load.nd rfl rfl ⟨rfl, by decide, Or.inl T.G.g_Fault⟩ takes0
      (fun W pn xe tk _ => pss_one (ps_set (i := 2) sc_Desk_load.nd rfl (by first | exact Or.inl rfl | exact Or.inr rfl) (by exact (pe_callS (ok_table_of T) (hr.mono (by decide)) rfl T.G.g_table_of T.F.F_table_of.kp (bd_table_of T) (fun σ => passAt tk σ) (by exact (pa_cons (pv 1) pa_nil))))))
      (fun a oe cls dd pn hz hf => pss_one (ps_ret (pe_lst (pa_cons pe_int (pa_cons (pe_xf T.E.xf_Fault T.E.n_Fault_kind hz hf (pv 3)) (pa_cons (pe_xf T.E.xf_Fault T.E.n_Fault_place hz hf (pv 3)) pa_nil)))))))
    (pss_cons (ps_fld (pv 0) (pe_make T.C.mk_Choice (ok_Choice_init T) (hr.mono (by decide)) (by rfl) T.G.g_Choice (bd_Choice_init T) .nil pass0 (by exact pa_cons (pv 2) pa_nil)) rfl)
    (pss_one (ps_ret (pe_lst (pa_cons pe_int (pa_cons (pe_callB call_len_seq (by rfl) T.G.b_len PySem.boot_len (pa_cons (pe_fld (pv 2) rfl) pa_nil)) (pa_cons (pe_callB call_len_seq (by rfl) T.G.b_len PySem.boot_len (pa_cons (pe_fld (pv 2) rfl) pa_nil)) (pa_cons (pe_callB call_len_seq (by rfl) T.G.b_len PySem.boot_len (pa_cons (pe_fld (pv 2) rfl) pa_nil)) pa_nil))))))))
theorem ev_xf {σ : L2.St} {H : Hp} {te : TE} {a C dd : Addr} {fs : List (Str × V)} {f : Str} {v : V} (h : Ev te σ H (.ref a)) (hd : H dd = some (.xd fs)) (hl : fs.lookup f = some v) : Ev (tXf a (.ref C) (some dd) C f te) σ H v := fun H1 e Q q =>
  h H1 e _ fun H2 e2 => ⟨rfl, rfl, dd, fs, v, rfl, (e.trans e2).at hd, hl, q H2 e2⟩
theorem er_choice {σ : L2.St} {H : Hp} {ta : TA} {p : Addr} {t : Vamvsa.Table} (h : EvA ta σ H [.ref p]) (hT : TableAt d H p t.cols (t.rows.map (·.vs)) t.asks) : EvR (tMake d.cChoice (sp_Choice_init d) [] E0 ta) σ H (fun q H2 => ChoiceAt d H2 q ⟨t, [], []⟩ ∧ ∀ N : Addr → Prop, (∀ b, H b = none → N b) → TParts d H p N → Parts d H2 q N) := fun H1 e Q q =>
  h H1 e _ fun H2 e2 => fun x dx nx nd ne => by
    have e3 : Ex H (upd (upd H2 dx (.own x)) x (.ins d.cChoice dx [])) := e.trans (e2.trans fun b o hb => by
      rw [upd_ne (ne_of_none hb nx), upd_ne (ne_of_none hb nd)]
      exact hb)
    exact ⟨x, dx, p, t, rfl, upd_same, hT.mono e3, fun H' off hl hp => ⟨rfl, q x H' (fresh_back e2 nx) (e2.trans (made_ex nx nd off)) ⟨hl, fun N hN pt => hp N (fun b hb => hN b (fresh_back e3 hb)) (pt.keep hT fun b o h _ => e3.at h)⟩⟩⟩
theorem TParts.imp {H : Hp} {p : Addr} {N N' : Addr → Prop} (h : TParts d H p N) (i : ∀ b, N b → N' b) : TParts d H p N' := fun a b c e h1 => by
  obtain ⟨n1, n2, n3, n4⟩ := h a b c e h1
  exact ⟨i _ n1, i _ n2, i _ n3, fun rs hrs r hr => i _ (n4 rs hrs r hr)⟩
theorem ok_Desk_load (T : Txt K mg d) : FnOk P w K mg base CX0 8 d.f_Desk_load d.fd_Desk_load P_Desk_load (sp_Desk_load d) := by
  refine T.F.F_Desk_load.ok sc_Desk_load (fun vs H Q E h => ?_) (fun cdv A outer s H vs Q E hr h => ⟨t_Desk_load K d, dv_Desk_load T hr, ?_⟩)
  · obtain ⟨a, dx, ta, o, b, rfl, _⟩ := h
    rfl
  · obtain ⟨a, dx, ta, o, b, rfl, hD, hta, k⟩ := h
    rw [step_load] at k
    refine ⟨_, rfl, ta, b, rfl, sq_of hta, fun f ef dd H2 e2 h2 => ⟨true, T.E.ex_Fault, fun _ a0 _ => ?_, fun q => Bool.noConfusion q⟩, fun tb etb p H1 e1 hT hTP => ?_⟩
    · rw [ef] at k
      refine s_retL (el_lst (ea_cons ev_c (ea_cons (x := nV f.code) (ev_xf (ev_var rfl) h2 ((lk_past (by decide +kernel)).trans lk_here)) (ea_cons (x := nV f.place) (ev_xf (ev_var rfl) h2 lk_here) ea_nil))) (by show 3 ≤ 100000; decide)) fun p H3 hp e3 h3 => k p H3 (fresh_back e2 hp) (e2.trans e3).offD (hD.mono (e2.trans e3)) (DOk.ex hD (e2.trans e3)) h3
    · rw [etb] at k
      obtain ⟨v, hI, _⟩ := hD.obj
      show tSeq (sFld K (tVar 0) (tMake d.cChoice (sp_Choice_init d) [] E0 (tCons (tVar 2) tNil)) "held") _ { nx := fun _ H' => Q .non H', rt := Q } ([some (.ref a), some (.ref ta), some (.ref p), none]) H1
      refine q_fld_of ?_
      refine er_choice (d := d) (ea_cons (ev_var (i := 2) rfl) ea_nil) hT H1 (Ex.refl H1) _ fun q H2 hq e2 ⟨hC, hCP⟩ => ?_
      have hI2 := (e1.trans e2).at hI
      refine ⟨_, rfl, a, d.cDesk, dx, _, rfl, hI2, T.C.cl_Desk, T.C.n_Desk_held, (by show 1 < 1000; decide), ?_⟩
      rw [pt_Desk_held]
      have off : Off a H2 (upd H2 a (.ins d.cDesk dx (fl_Desk (.ref q)))) := Off.upd
      obtain ⟨dxt, ca, ra, qa, hTI, hcol, ⟨rr, hrr, hrp⟩, ⟨qq, hqq, hqp⟩⟩ := (hT.mono e2).off (Other.one hI2) off
      have h1 := pair_len hrp
      have h2 := pair_len hqp
      rw [List.length_map] at h1
      have hok := KA.read_ok etb
      refine s_retL (el_lst (ea_cons ev_c (ea_cons (ev_len (ev_Table_columns T (ev_var rfl) hTI) (sq_of hcol)) (ea_cons (ev_len (ev_Table_rows T (ev_var rfl) hTI) (sq_of hrr)) (ea_cons (ev_len (ev_Table_questions T (ev_var rfl) hTI) (sq_of hqq)) ea_nil)))) (by show 4 ≤ 100000; decide)) fun p2 H3 hp e3 h3 => k p2 H3 ?_ (((e1.trans e2).offD.trans off.desk).ex e3) ⟨q, e3.at upd_same, (hC.off hI2 off).mono e3, ⟨hok.cols, hok.rows, hok.many, hok.asks, hok.asked, Nat.zero_le _, List.nodup_nil, fun c hc => (List.not_mem_nil hc).elim, Nat.zero_le _, fun c hc => (List.not_mem_nil hc).elim⟩⟩ (fun N hN pp dx' ha' e' => ?_) ?_
      · have npa : p2 ≠ a := fun y => by
          rw [y, upd_same] at hp
          cases hp
        exact fresh_back (e1.trans e2) (off.fresh npa hp)
      · have eh := desk_inj (e3.at upd_same) e'
        injection eh with eh
        subst eh
        refine Parts.keep (hC.off hI2 off) (fun b o h _ => e3.at h) (Parts.keep hC (fun b o h hk => off b o h fun y => ?_) (hCP N (fun b hb => hN b (fresh_back e1 hb)) (hTP.imp hN)))
        rw [y, hI2] at h
        injection h with h
        subst h
        rcases hk with ⟨_, h⟩ | ⟨_, _, _, _, h⟩ | ⟨_, _, _, _, _, h⟩
        · cases h
        · injection h with _ _ h
          cases h
        · injection h with _ _ h
          cases h
      · rw [h3, List.length_map, List.length_map, List.length_map, h1, h2]
        rfl
/-! ### which call -/
section
variable {σ : L2.St} {H : Hp} {D : Ends} {tz tu : TS} {c n : Int}
theorem q_skip (hv : σ[1]? = some (some (.int c))) (hne : c ≠ n) (k : ∀ H1, Ex H H1 → tz D σ H1) : tSeq (tIfS (tTest (tOp rEq (tVar 1) (tC (.int n)))) tu tNext) tz D σ H :=
  q_when (et_test (ev_op (ev_var hv) ev_c (rv_eq rfl))) (fun hb => absurd (of_decide_eq_true hb) fun y => hne (by injection y)) (fun _ H1 e1 => k H1 e1)
theorem q_take (hv : σ[1]? = some (some (.int n))) (k : ∀ H1, Ex H H1 → tu { D with nx := tz D } σ H1) : tSeq (tIfS (tTest (tOp rEq (tVar 1) (tC (.int n)))) tu tNext) tz D σ H :=
  q_when (et_test (ev_op (ev_var hv) ev_c (rv_eq rfl))) (fun _ H1 e1 => k H1 e1) (fun hb => absurd rfl (of_decide_eq_false hb))
theorem s_retMeth {te : TE} {tr : TA} {E : XK} {C a dx : Addr} {fs : List (Str × V)} {m : Str} {sp : Sp} {vs : List V} (h : Ev te σ H (.ref a)) (ho : H a = some (.ins C dx fs)) (hl : fs.lookup m = none) (hr : EvA tr σ H vs)
    (k : ∀ H1, Ex H H1 → sp (.ref a :: (vs ++ [])) H1 D.rt E) : tRet (tMeth C m sp [] E te tr) D σ H := h H (Ex.refl H) _ fun H1 e1 => ⟨a, dx, fs, rfl, e1.at ho, hl, hr H1 e1 _ fun H2 e2 => k H2 (e1.trans e2)⟩
end
theorem ok_call_told (T : Txt K mg d) : FnOk P w K mg base (L2.CX P w) 9 d.f_call_told d.fd_call_told P_call_told (sp_call_told d) := by
  refine T.F.F_call_told.okX sc_call_told (fun vs H Q E h => ?_) (fun cdv A outer s H vs Q E hr h => ⟨t_call_told K d E (sp_Desk_load d) (sp_refuse_if d) (sp_cands d) (sp_Desk_put_days d) (sp_Desk_best d) (sp_Desk_always d) (sp_Desk_check d) (sp_Desk_day d) (sp_Desk_go d) (sp_Desk_ends d),
    dv_call_told T (ok_Desk_load T) (ok_refuse_if T) (ok_cands T) (ok_Desk_put_days T) (ok_Desk_best T) (ok_Desk_always T) (ok_Desk_check T) (ok_Desk_day T) (ok_Desk_go T) (ok_Desk_ends T) hr, ?_⟩)
  · obtain ⟨a, dx, na, ra, o, k, rfl, _⟩ := h
    rfl
  · obtain ⟨a, dx, na, ra, o, k, rfl, hD, hna, hra, hl, hB⟩ := h
    obtain ⟨v, hI, hv⟩ := hD.obj
    have num0 : ∀ {σ : L2.St} {H' : Hp} {x : Int} {xs : List Int}, σ[2]? = some (some (.ref na)) → (KA.enc k).2.1 = x :: xs → Ex H H' → Ev (tOp (rIxL K) (tVar 2) (tC (.int 0))) σ H' (.int x) := fun {σ H' x xs} hs hx e => ev_op (ev_var hs) ev_c (rv_ixL (sq_of (e.at hna)) (atI_nat (j := 0) (by rw [hx]; rfl)))
    have num1 : ∀ {σ : L2.St} {H' : Hp} {x y : Int} {xs : List Int}, σ[2]? = some (some (.ref na)) → (KA.enc k).2.1 = x :: y :: xs → Ex H H' → Ev (tOp (rIxL K) (tVar 2) (tC (.int 1))) σ H' (.int y) := fun {σ H' x y xs} hs hx e => ev_op (ev_var hs) ev_c (rv_ixL (sq_of (e.at hna)) (atI_nat (j := 1) (by rw [hx]; rfl)))
    -- a call but load: a table is held
    have some' : ∀ {tz : TS} {σ : L2.St} {H1 : Hp} {D : Ends}, σ[0]? = some (some (.ref a)) → Ex H H1 → (o = none → RefW d E H (-1)) → (∀ z, o = some z → ∀ H2, Ex H1 H2 → tz D σ H2) → tSeq (tDrop (tCall (sp_refuse_if d) [] E (tCons (tOp rIsNn (tFld K (tVar 0) "held") (tC .non)) (tCons (tUn kNeg (tC (.int 1))) tNil)))) tz D σ H1 := by
      intro tz σ H1 D h0 e1 hn hs
      refine q_refuse (why := -1) (ev_op (ev_Desk_held T (ev_var h0) (e1.at hI)) ev_c rv_isN) (ev_un ev_c ru_neg') (fun hb => (hn (hv.mp (of_decide_eq_true hb))).mono e1) (fun hb H2 e2 => ?_)
      cases o with
      | none => exact absurd (hv.mpr rfl) (of_decide_eq_false hb)
      | some z => exact hs z rfl H2 e2
    cases k with
    | load b =>
      refine q_take rfl fun H1 e1 => ?_
      refine s_retMeth (vs := [.ref ra]) (ev_var rfl) (e1.at hI) (no_Desk_load ..) (ea_cons (ev_var rfl) ea_nil) fun H2 e2 => ⟨a, dx, ra, o, b, rfl, hD.mono (e1.trans e2), (e1.trans e2).at (hra.trans ?_), (hB.mono hD (e1.trans e2)).1⟩
      show some (HO.lst ((b.map fun x => ((x.toNat : Nat) : Int)).map V.int)) = _
      rw [List.map_map]
      rfl
    | cands l =>
      refine q_skip (c := 1) rfl (by decide) fun H1 e1 => some' rfl e1 (fun y => hB.2 (-1) (by rw [y]; rfl)) fun z ez H2 e2 => ?_
      subst ez
      refine q_take rfl fun H3 e3 => ?_
      have e03 := (e1.trans e2).trans e3
      exact s_retMeth (vs := [.ref ra]) (ev_var rfl) (e03.at hI) (no_Desk_cands ..) (ea_cons (ev_var rfl) ea_nil) fun H4 e4 => ⟨a, dx, ra, z, l, rfl, hD.mono (e03.trans e4), (e03.trans e4).at hra, hl, hB.mono hD (e03.trans e4)⟩
    | days l =>
      refine q_skip (c := 2) rfl (by decide) fun H1 e1 => some' rfl e1 (fun y => hB.2 (-1) (by rw [y]; rfl)) fun z ez H2 e2 => ?_
      subst ez
      refine q_skip (c := 2) rfl (by decide) fun H3 e3 => q_take rfl fun H4 e4 => ?_
      have e04 := ((e1.trans e2).trans e3).trans e4
      exact s_retMeth (vs := [.ref ra]) (ev_var rfl) (e04.at hI) (no_Desk_put_days ..) (ea_cons (ev_var rfl) ea_nil) fun H5 e5 => ⟨a, dx, ra, z, l, rfl, hD.mono (e04.trans e5), (e04.trans e5).at hra, hl, hB.mono hD (e04.trans e5)⟩
    | best r =>
      refine q_skip (c := 3) rfl (by decide) fun H1 e1 => some' rfl e1 (fun y => hB.2 (-1) (by rw [y]; rfl)) fun z ez H2 e2 => ?_
      subst ez
      refine q_skip (c := 3) rfl (by decide) fun H3 e3 => q_skip (c := 3) rfl (by decide) fun H4 e4 => q_take rfl fun H5 e5 => ?_
      have e05 := (((e1.trans e2).trans e3).trans e4).trans e5
      exact s_retMeth (vs := [.int r]) (ev_var rfl) (e05.at hI) (no_Desk_best ..) (ea_cons (num0 rfl rfl e05) ea_nil) fun H6 e6 => ⟨a, dx, z, r, rfl, hD.mono (e05.trans e6), hB.mono hD (e05.trans e6)⟩
    | always r =>
      refine q_skip (c := 4) rfl (by decide) fun H1 e1 => some' rfl e1 (fun y => hB.2 (-1) (by rw [y]; rfl)) fun z ez H2 e2 => ?_
      subst ez
      refine q_skip (c := 4) rfl (by decide) fun H3 e3 => q_skip (c := 4) rfl (by decide) fun H4 e4 => q_skip (c := 4) rfl (by decide) fun H5 e5 => q_take rfl fun H6 e6 => ?_
      have e06 := ((((e1.trans e2).trans e3).trans e4).trans e5).trans e6
      exact s_retMeth (vs := [.int r]) (ev_var rfl) (e06.at hI) (no_Desk_always ..) (ea_cons (num0 rfl rfl e06) ea_nil) fun H7 e7 => ⟨a, dx, z, r, rfl, hD.mono (e06.trans e7), hB.mono hD (e06.trans e7)⟩
    | check r l =>
      refine q_skip (c := 5) rfl (by decide) fun H1 e1 => some' rfl e1 (fun y => hB.2 (-1) (by rw [y]; rfl)) fun z ez H2 e2 => ?_
      subst ez
      refine q_skip (c := 5) rfl (by decide) fun H3 e3 => q_skip (c := 5) rfl (by decide) fun H4 e4 => q_skip (c := 5) rfl (by decide) fun H5 e5 => q_skip (c := 5) rfl (by decide) fun H6 e6 => q_take rfl fun H7 e7 => ?_
      have e07 := (((((e1.trans e2).trans e3).trans e4).trans e5).trans e6).trans e7
      exact s_retMeth (vs := [.int r, .ref ra]) (ev_var rfl) (e07.at hI) (no_Desk_check ..) (ea_cons (num0 rfl rfl e07) (ea_cons (ev_var rfl) ea_nil)) fun H8 e8 => ⟨a, dx, ra, z, r, l, rfl, hD.mono (e07.trans e8), (e07.trans e8).at hra, hl, hB.mono hD (e07.trans e8)⟩
    | day n s =>
      refine q_skip (c := 6) rfl (by decide) fun H1 e1 => some' rfl e1 (fun y => hB.2 (-1) (by rw [y]; rfl)) fun z ez H2 e2 => ?_
      subst ez
      refine q_skip (c := 6) rfl (by decide) fun H3 e3 => q_skip (c := 6) rfl (by decide) fun H4 e4 => q_skip (c := 6) rfl (by decide) fun H5 e5 => q_skip (c := 6) rfl (by decide) fun H6 e6 => q_skip (c := 6) rfl (by decide) fun H7 e7 => q_take rfl fun H8 e8 => ?_
      have e08 := ((((((e1.trans e2).trans e3).trans e4).trans e5).trans e6).trans e7).trans e8
      exact s_retMeth (vs := [.int n, .int s]) (ev_var rfl) (e08.at hI) (no_Desk_day ..) (ea_cons (num0 rfl rfl e08) (ea_cons (num1 rfl rfl e08) ea_nil)) fun H9 e9 => ⟨a, dx, z, n, s, rfl, hD.mono (e08.trans e9), hB.mono hD (e08.trans e9)⟩
    | go x y =>
      refine q_skip (c := 7) rfl (by decide) fun H1 e1 => some' rfl e1 (fun y => hB.2 (-1) (by rw [y]; rfl)) fun z ez H2 e2 => ?_
      subst ez
      refine q_skip (c := 7) rfl (by decide) fun H3 e3 => q_skip (c := 7) rfl (by decide) fun H4 e4 => q_skip (c := 7) rfl (by decide) fun H5 e5 => q_skip (c := 7) rfl (by decide) fun H6 e6 => q_skip (c := 7) rfl (by decide) fun H7 e7 => q_skip (c := 7) rfl (by decide) fun H8 e8 => q_take rfl fun H9 e9 => ?_
      have e09 := (((((((e1.trans e2).trans e3).trans e4).trans e5).trans e6).trans e7).trans e8).trans e9
      exact s_retMeth (vs := [.int x, .int y]) (ev_var rfl) (e09.at hI) (no_Desk_go ..) (ea_cons (num0 rfl rfl e09) (ea_cons (num1 rfl rfl e09) ea_nil)) fun Ha ea => ⟨a, dx, z, x, y, rfl, hD.mono (e09.trans ea), hB.mono hD (e09.trans ea)⟩
    | ends r q =>
      refine q_skip (c := 8) rfl (by decide) fun H1 e1 => some' rfl e1 (fun y => hB.2 (-1) (by rw [y]; rfl)) fun z ez H2 e2 => ?_
      subst ez
      refine q_skip (c := 8) rfl (by decide) fun H3 e3 => q_skip (c := 8) rfl (by decide) fun H4 e4 => q_skip (c := 8) rfl (by decide) fun H5 e5 => q_skip (c := 8) rfl (by decide) fun H6 e6 => q_skip (c := 8) rfl (by decide) fun H7 e7 => q_skip (c := 8) rfl (by decide) fun H8 e8 => q_skip (c := 8) rfl (by decide) fun H9 e9 => ?_
      have e09 := (((((((e1.trans e2).trans e3).trans e4).trans e5).trans e6).trans e7).trans e8).trans e9
      exact s_retMeth (vs := [.int r, .int q]) (ev_var rfl) (e09.at hI) (no_Desk_ends ..) (ea_cons (num0 rfl rfl e09) (ea_cons (num1 rfl rfl e09) ea_nil)) fun Ha ea => ⟨a, dx, z, r, q, rfl, hD.mono (e09.trans ea), hB.mono hD (e09.trans ea)⟩
theorem dv_answer_of (T : Txt K mg d) {cdv : Value} {A : Around} {outer : List Env} {s : Shared} {H : Hp} {E : XK} (hr : Room 9 (A.deeper (envOfC "answer_of" (defScope s_answer_of) s.heap.objs.size d.f_answer_of cdv))) :
    PSs (cxOf CX0 P w K mg base N_answer_of "answer_of" (defScope s_answer_of) d.f_answer_of cdv A outer s H E).nox (defBody s_answer_of) (t_answer_of K d) :=
  pss_one (ps_try_as (i := 4) (tb := fun W => tRet (tCallS (sp_call_told d) (WE W) (tCons (tVar 0) (tCons (tVar 1) (tCons (tVar 2) (tCons (tVar 3) tNil)))))) (ts := t_suiteR d) (Wout := fun _ _ _ _ => False) rfl rfl sc_answer_of.nd rfl rfl ⟨rfl, by decide, Or.inl T.G.g_Refused⟩ takes0
      (fun W pn xe tk _ => pss_one (ps_ret (by exact (pe_callS (ok_call_told T) (hr.mono (by decide)) rfl T.G.g_call_told T.F.F_call_told.kp (bd_call_told T) (fun σ => passAt tk σ) (by exact (pa_cons (pv 0) (pa_cons (pv 1) (pa_cons (pv 2) (pa_cons (pv 3) pa_nil)))))))))
      (fun a oe cls dd pn hz hf => pss_one (ps_ret (pe_lst (pa_cons (pe_xf T.E.xf_Refused T.E.n_Refused_why hz hf (pv 4)) pa_nil)))))
theorem ok_answer_of (T : Txt K mg d) : FnOk P w K mg base CX0 10 d.f_answer_of d.fd_answer_of P_answer_of (sp_answer_of d) := by
  refine T.F.F_answer_of.ok sc_answer_of (fun vs H Q E h => ?_) (fun cdv A outer s H vs Q E hr h => ⟨t_answer_of K d, dv_answer_of T hr, ?_⟩)
  · obtain ⟨a, dx, na, ra, o, k, rfl, _⟩ := h
    rfl
  · obtain ⟨a, dx, na, ra, o, k, rfl, hD, hna, hra, hl, kk⟩ := h
    refine ⟨_, rfl, _, rfl, _, rfl, _, rfl, a, dx, na, ra, o, k, rfl, hD, hna, hra, hl, fun p H2 hp o2 hD2 hk2 h2 => kk p H2 hp o2 hD2 hk2 h2, fun why hw dd H2 e2 h2 => ⟨true, T.E.ex_Refused, fun _ a0 _ => ?_, fun q => Bool.noConfusion q⟩⟩
    refine s_retL (el_lst (ea_cons (x := .int why) (ev_xf (ev_var rfl) h2 lk_here) ea_nil) (by show 1 ≤ 100000; decide)) fun p H3 hp e3 h3 => kk p H3 (fresh_back e2 hp) (e2.trans e3).offD ?_ (DOk.ex hD (e2.trans e3)) ?_
    · rw [hw]
      exact hD.mono (e2.trans e3)
    · rw [h3]
      unfold KA.ans
      rw [hw]
      rfl
end
end KW
end
section
/-! # days: all calls -/
namespace KW
open PySem PySem.Spec PyProof.Rows L2 Evl
open Vamvse (Held)
theorem SqL.keep {K : PySem.W.Frag} {H H' : Hp} {c : Addr} {xs : List V} (h : SqL K H c xs) (k : ∀ o, H c = some o → (∀ C dx fs, o ≠ .ins C dx fs) → H' c = some o) : SqL K H' c xs := by
  rcases h with (h | ⟨o, h⟩) | h
  · exact .inl (.inl (k _ h (fun _ _ _ y => by cases y)))
  · exact .inl (.inr ⟨o, k _ h (fun _ _ _ y => by cases y)⟩)
  · exact .inr h
theorem SqL.off {K : PySem.W.Frag} {H H' : Hp} {a c C dx : Addr} {fs : List (Str × V)} {xs : List V} (ha : H a = some (.ins C dx fs)) (o : Off a H H') (h : SqL K H c xs) : SqL K H' c xs := SqL.keep h fun u hu hn => o c u hu fun y => by
  rw [y, ha] at hu
  injection hu with hu
  exact hn _ _ _ hu.symm
theorem SqL.offD {K : PySem.W.Frag} {H H' : Hp} {d : Ad} {a c C dx : Addr} {fs : List (Str × V)} {xs : List V} (ha : H a = some (.ins C dx fs)) (o : OffD d a H H') (h : SqL K H c xs) : SqL K H' c xs := SqL.keep h fun u hu hn => o c u hu (fun y => by
  rw [y, ha] at hu
  injection hu with hu
  exact hn _ _ _ hu.symm) fun _ _ _ _ _ => hn _ _ _
/-- the call reader at its place -/
def CrAt (d : Ad) (H : Hp) (r rx ca : Addr) (n : Nat) : Prop := H r = some (.ins d.cCallReader rx (fl_CallReader (.ref ca) (nV n)))
theorem DeskAt.offR {d : Ad} {H H' : Hp} {a dx r rx ca : Addr} {n : Nat} {o : Vamvse.Obj} (hr : CrAt d H r rx ca n) (k : Off r H H') (h : DeskAt d H a dx o) : DeskAt d H' a dx o := by
  have x := Other.reader hr
  cases o with
  | none =>
    refine k _ _ h fun y => ?_
    have h' : H a = _ := h
    rw [y, hr] at h'
    injection h' with h'
    injection h' with _ _ h'
    cases h'
  | some z =>
    obtain ⟨ha, h1, ⟨dxc, ta, ca', sa, da, g1, g2, g3, g4, g5⟩, hz⟩ := h
    refine ⟨ha, k _ _ h1 fun y => ?_, ⟨dxc, ta, ca', sa, da, k _ _ g1 fun y => ?_, g2.off x k, k _ _ g3 (Other.ne g3 (x.lst _)), k _ _ g4 (Other.ne g4 (x.lst _)), g5.off x k⟩, hz⟩
    · rw [y, hr] at h1
      injection h1 with h1
      injection h1 with _ _ h1
      cases h1
    · rw [y, hr] at g1
      injection g1 with g1
      injection g1 with _ _ g1
      cases g1
theorem DeskAt.lst {d : Ad} {H : Hp} {a dx : Addr} {o : Vamvse.Obj} (h : DeskAt d H a dx o) {b : Addr} {xs : List V} (hb : H b = some (.lst xs)) : b ≠ a := fun y => by
  obtain ⟨v, hI, _⟩ := h.obj
  rw [y, hI] at hb
  cases hb
theorem Parts.offR {d : Ad} {H H' : Hp} {a dx r rx ca : Addr} {n : Nat} {o : Vamvse.Obj} {N : Addr → Prop} (hr : CrAt d H r rx ca n) (k : Off r H H') (hD : DeskAt d H a dx o) (p : DParts d H a N) : DParts d H' a N := by
  have x := Other.reader hr
  obtain ⟨v, hI, _⟩ := hD.obj
  have na : a ≠ r := fun y => by
    rw [y, hr] at hI
    injection hI with hI
    injection hI with _ _ hI
    cases hI
  intro dx' ha' e'
  have ev := desk_inj (k _ _ hI na) e'
  subst ev
  cases o with
  | none => exact nomatch desk_inj hI hD
  | some z =>
    obtain ⟨ha, h1, hC, _⟩ := hD
    have eh := desk_inj h1 hI
    injection eh with eh
    subst eh
    refine Parts.keep hC (fun b o h hk => k b o h fun y => ?_) (p _ _ h1)
    rw [y, hr] at h
    injection h with h
    subst h
    rcases hk with ⟨_, h⟩ | ⟨_, _, _, _, h⟩ | ⟨_, _, _, _, _, h⟩
    · cases h
    · injection h with _ _ h
      cases h
    · injection h with _ _ h
      cases h
theorem pair_mem {α β : Type} {F G : α → β → Prop} {xs : List α} {ys : List β} (h : Paired F xs ys) (k : ∀ a b, a ∈ xs → F a b → G a b) : Paired G xs ys :=
  pair_of (pair_len h) fun i a b ha hb => by
    obtain ⟨b', hb', g⟩ := paired_get h ha
    rw [hb] at hb'
    injection hb' with hb'
    subst hb'
    exact k a b (List.mem_of_getElem? ha) g
/-- a list that is none of the Choice's may change -/
theorem ChoiceAt.list {d : Ad} {H : Hp} {b fl : Addr} {z : Held} {xs : List V} {u : HO} (hf : H fl = some (.lst xs)) (h : ChoiceAt d H b z) (p : Parts d H b (fun c => c ≠ fl)) : ChoiceAt d (upd H fl u) b z ∧ Parts d (upd H fl u) b (fun c => c ≠ fl) := by
  obtain ⟨dx, ta, ca, sa, da, h1, ⟨dxt, cola, ra, qa, t1, t2, ⟨rs, t3, t4⟩, ⟨qs, t5, t6⟩⟩, h3, h4, ⟨ds, h5, h6⟩⟩ := h
  obtain ⟨pt, n1, n2, n3, n4⟩ := p _ _ _ _ _ h1
  obtain ⟨m1, m2, m3, m4⟩ := pt _ _ _ _ t1
  have ins : ∀ {c C dx : Addr} {fs : List (Str × V)}, H c = some (.ins C dx fs) → (upd H fl u) c = some (.ins C dx fs) := fun {c C dx fs} h => by
    rw [upd_ne fun y => by rw [y, hf] at h; cases h]
    exact h
  have hrs := m4 rs t3
  have hds := n4 ds h5
  refine ⟨⟨dx, ta, ca, sa, da, ins h1, ⟨dxt, cola, ra, qa, ins t1, (upd_ne m1).trans t2, ⟨rs, (upd_ne m2).trans t3, pair_mem t4 fun a b ha g => (upd_ne (hrs a ha)).trans g⟩, ⟨qs, (upd_ne m3).trans t5, pair_imp t6 fun a b ⟨dq, g⟩ => ⟨dq, ins g⟩⟩⟩, (upd_ne n1).trans h3, (upd_ne n2).trans h4, ⟨ds, (upd_ne n3).trans h5, pair_mem h6 fun a b ha g => (upd_ne (hds a ha)).trans g⟩⟩, ?_⟩
  intro dx' ta' ca' sa' da' e
  obtain ⟨rfl, rfl, rfl, rfl⟩ := choice_inj (ins h1) e
  refine ⟨fun dxt' ca2 ra2 qa2 e2 => ?_, n1, n2, n3, fun rs' e' r hr => ?_⟩
  · rw [upd_ne fun y => by rw [y, hf] at t1; cases t1] at e2
    obtain ⟨k1, k2, k3, k4⟩ := pt _ _ _ _ e2
    refine ⟨k1, k2, k3, fun rs' e' r hr => ?_⟩
    rw [upd_ne k2] at e'
    exact k4 rs' e' r hr
  · rw [upd_ne n3] at e'
    exact n4 rs' e' r hr
theorem DeskAt.list {d : Ad} {H : Hp} {a dx fl : Addr} {o : Vamvse.Obj} {xs : List V} {u : HO} (hf : H fl = some (.lst xs)) (h : DeskAt d H a dx o) (p : DParts d H a (fun c => c ≠ fl)) : DeskAt d (upd H fl u) a dx o ∧ DParts d (upd H fl u) a (fun c => c ≠ fl) := by
  obtain ⟨v, hI, _⟩ := h.obj
  have na : a ≠ fl := fun y => by
    rw [y, hf] at hI
    cases hI
  have hI2 : (upd H fl u) a = some (.ins d.cDesk dx (fl_Desk v)) := (upd_ne na).trans hI
  cases o with
  | none =>
    have ev := desk_inj hI h
    subst ev
    exact ⟨hI2, fun dx' ha' e' => nomatch desk_inj hI2 e'⟩
  | some z =>
    obtain ⟨ha, h1, hC, hz⟩ := h
    have ev := desk_inj hI h1
    subst ev
    obtain ⟨c1, c2⟩ := ChoiceAt.list (u := u) hf hC (p _ _ h1)
    refine ⟨⟨ha, hI2, c1, hz⟩, fun dx' ha' e' => ?_⟩
    have eh := desk_inj hI2 e'
    injection eh with eh
    subst eh
    exact c2
section
variable (d : Ad)
def sp_CallReader_init : Sp := fun vs H Q _ => ∃ a dx ca : Addr, vs = [.ref a, .ref ca] ∧ H a = some (.ins d.cCallReader dx []) ∧ ∀ H', Off a H H' → CrAt d H' a dx ca 0 → Q .non H'
def sp_is_done (K : PySem.W.Frag) : Sp := fun vs H Q _ => ∃ (a dx ca : Addr) (n : Nat) (l : List Int), vs = [.ref a] ∧ CrAt d H a dx ca n ∧ SqL K H ca (l.map V.int) ∧ RetV (.bl (decide (l.length ≤ n))) H Q
def sp_next_some (K : PySem.W.Frag) : Sp := fun vs H Q _ => ∃ (a dx ca : Addr) (n m : Nat) (l : List Int), vs = [.ref a, nV m] ∧ CrAt d H a dx ca n ∧ SqL K H ca (l.map V.int) ∧ n + m ≤ l.length ∧
  ∀ p H', H p = none → Off a H H' → CrAt d H' a dx ca (n + m) → H' p = some (.lst (((l.drop n).take m).map V.int)) → Q (.ref p) H'
def sp_answers (K : PySem.W.Frag) : Sp := fun vs H Q _ => ∃ (ca : Addr) (ks : List Vamvse.Call), vs = [.ref ca] ∧ SqL K H ca ((ks.flatMap KA.flat).map V.int) ∧ (∀ k ∈ ks, (KA.enc k).2.2.length ≤ 8192) ∧ (KA.outM none ks).length ≤ 10000000 ∧
  ∀ p H', H' p = some (.lst ((KA.outM none ks).map V.int)) → Q (.ref p) H'
end
section
variable {P : Program} {w : World} {K : PySem.W.Frag} {mg : Str → Option Value} {base : Heap} {d : Ad}
theorem ok_CallReader_init (T : Txt K mg d) : FnOk P w K mg base CX0 1 d.f_CallReader_init d.fd_CallReader_init P_CallReader_init (sp_CallReader_init d) := by
  refine T.F.F_CallReader_init.ok sc_CallReader_init (fun vs H Q E h => ?_) (fun cdv A outer s H vs Q E hr h => ⟨t_CallReader_init K d, dv_CallReader_init T hr, ?_⟩)
  · obtain ⟨a, dx, ca, rfl, _⟩ := h
    rfl
  · obtain ⟨a, dx, ca, rfl, hI, k⟩ := h
    refine ⟨_, rfl, _, rfl, a, d.cCallReader, dx, _, rfl, hI, T.C.cl_CallReader, T.C.n_CallReader_calls, (by show 0 < 1000; decide), ?_⟩
    refine ⟨_, rfl, a, d.cCallReader, dx, _, rfl, upd_same, T.C.cl_CallReader, T.C.n_CallReader_at, (by show 1 < 1000; decide), ?_⟩
    rw [upd_upd, nw_CallReader]
    exact k _ Off.upd upd_same
theorem ok_is_done (T : Txt K mg d) : FnOk P w K mg base CX0 1 d.f_CallReader_is_done d.fd_CallReader_is_done P_CallReader_is_done (sp_is_done d K) := by
  refine T.F.F_CallReader_is_done.ok sc_CallReader_is_done (fun vs H Q E h => ?_) (fun cdv A outer s H vs Q E hr h => ⟨t_CallReader_is_done K d, dv_CallReader_is_done T hr, ?_⟩)
  · obtain ⟨a, dx, ca, n, l, rfl, _⟩ := h
    rfl
  · obtain ⟨a, dx, ca, n, l, rfl, hI, hs, k⟩ := h
    refine s_ret (ev_is (ev_op (ev_CallReader_at T (ev_var rfl) hI) (ev_len (ev_CallReader_calls T (ev_var rfl) hI) hs) rv_ge) ?_) k
    congr 1
    exact decide_eq_decide.mpr (by rw [List.length_map]; omega)
theorem ok_next_some (T : Txt K mg d) : FnOk P w K mg base CX0 1 d.f_CallReader_next_some d.fd_CallReader_next_some P_CallReader_next_some (sp_next_some d K) := by
  refine T.F.F_CallReader_next_some.ok sc_CallReader_next_some (fun vs H Q E h => ?_) (fun cdv A outer s H vs Q E hr h => ⟨t_CallReader_next_some K d, dv_CallReader_next_some T hr, ?_⟩)
  · obtain ⟨a, dx, ca, n, m, l, rfl, _⟩ := h
    rfl
  · obtain ⟨a, dx, ca, n, m, l, rfl, hI, hs, hle, k⟩ := h
    refine ⟨_, rfl, a, d.cCallReader, dx, _, _, rfl, hI, T.C.cl_CallReader, T.C.n_CallReader_at, lk_CallReader_at .., _, rfl, (n : Int), (m : Int), rfl, rfl, dx, _, hI, (by show 2 < 1000; decide), ?_⟩
    rw [pt_CallReader_at]
    have e : ((n : Int) + (m : Int)) = ((n + m : Nat) : Int) := by omega
    rw [e]
    have off : Off a H (upd H a (.ins d.cCallReader dx (fl_CallReader (.ref ca) (nV (n + m))))) := Off.upd
    have hI2 : (upd H a (.ins d.cCallReader dx (fl_CallReader (.ref ca) (nV (n + m))))) a = some (.ins d.cCallReader dx (fl_CallReader (.ref ca) (nV (n + m)))) := upd_same
    refine s_retL (el_is (el_sl (xs := l.map V.int) (lo := some (n : Int)) (hi := some ((n + m : Nat) : Int)) (ev_CallReader_calls T (ev_var rfl) hI2) (eo_some (ev_is (ev_op (ev_CallReader_at T (ev_var rfl) hI2) (ev_var rfl) rv_sub) ?_)) (eo_some (ev_CallReader_at T (ev_var rfl) hI2)) (SqL.off hI off hs)) (cut_nat (by rw [List.length_map]; omega) (by rw [List.length_map]; exact hle))) fun p H2 hp e2 h2 => k p H2 ?_ (off.ex e2) (e2.at hI2) ?_
    · show V.int _ = V.int _
      congr 1
      omega
    · refine off.fresh (fun y => ?_) hp
      rw [y, hI2] at hp
      cases hp
    · rw [h2, ← List.map_drop, ← List.map_take, Nat.add_sub_cancel_left]
theorem er_reader {σ : L2.St} {H : Hp} {ta : TA} {ca : Addr} (h : EvA ta σ H [.ref ca]) : EvR (tMake d.cCallReader (sp_CallReader_init d) [] E0 ta) σ H (fun q H2 => ∃ dx, CrAt d H2 q dx ca 0) := fun H1 e Q q =>
  h H1 e _ fun H2 e2 => fun x dx nx nd ne => ⟨x, dx, ca, rfl, upd_same, fun H' off hl => ⟨rfl, q x H' (fresh_back e2 nx) (e2.trans (made_ex nx nd off)) ⟨dx, hl⟩⟩⟩
theorem er_desk {σ : L2.St} {H : Hp} : EvR (tMake d.cDesk (sp_Desk_init d) [] E0 tNil) σ H (fun q H2 => ∃ dx, DeskAt d H2 q dx none) := fun H1 e Q q =>
  fun x dx nx nd ne => ⟨x, dx, rfl, upd_same, fun H' off hl => ⟨rfl, q x H' nx (made_ex nx nd off) ⟨dx, hl⟩⟩⟩
theorem te_next {σ : L2.St} {H : Hp} {ta : TA} {r rx ca : Addr} {n m : Nat} {l : List Int} {Q : VK} (hv : σ[2]? = some (some (.ref r))) (hr : CrAt d H r rx ca n) (hs : SqL K H ca (l.map V.int)) (hle : n + m ≤ l.length) (h : EvA ta σ H [nV m])
    (k : ∀ p H', H p = none → Off r H H' → CrAt d H' r rx ca (n + m) → SqL K H' ca (l.map V.int) → H' p = some (.lst (((l.drop n).take m).map V.int)) → Q (.ref p) H') : tMeth d.cCallReader "next_some" (sp_next_some d K) [] E0 (tVar 2) ta σ H Q :=
  ⟨_, hv, r, rx, _, rfl, hr, no_CallReader_next_some .., h H (Ex.refl H) _ fun H1 e1 => ⟨r, rx, ca, n, m, l, rfl, e1.at hr, ex_l e1 hs, hle, fun p H' hp o hr' hp' => k p H' (fresh_back e1 hp) (e1.off.trans o) hr' (SqL.off (e1.at hr) o (ex_l e1 hs)) hp'⟩⟩
/-- next_some(1)[0] -/
theorem te_one {σ : L2.St} {H : Hp} {r rx ca : Addr} {n : Nat} {l : List Int} {x : Int} {Q : VK} (hv : σ[2]? = some (some (.ref r))) (hr : CrAt d H r rx ca n) (hs : SqL K H ca (l.map V.int)) (hx : l[n]? = some x)
    (k : ∀ H', Off r H H' → CrAt d H' r rx ca (n + 1) → SqL K H' ca (l.map V.int) → Q (.int x) H') : tOp (rIxL K) (tMeth d.cCallReader "next_some" (sp_next_some d K) [] E0 (tVar 2) (tCons (tC (.int 1)) tNil)) (tC (.int 0)) σ H Q :=
  te_next (m := 1) hv hr hs (List.getElem?_eq_some_iff.mp hx).1 (ea_cons ev_c ea_nil) fun p H' hp o hr' hs' hp' => ⟨p, _, 0, .int x, rfl, rfl, sq_of hp', atI_nat (j := 0) (by
    rw [List.getElem?_map, List.getElem?_take]
    rw [if_pos (by decide), List.getElem?_drop, Nat.add_zero, hx]
    rfl), k H' o hr' hs'⟩
theorem q_of {te : TE} {i : Nat} {tz : TS} {D : Ends} {σ : L2.St} {H : Hp} (h : te σ H fun v H1 => tz D (σ.set i (some v)) H1) : tSeq (tAsg te (gName i)) tz D σ H := h
theorem enc_num (k : Vamvse.Call) : atI ([.int 0, .int 0, .int 0, .int 1, .int 1, .int 1, .int 2, .int 2, .int 2] : List V) (KA.enc k).1 = some (nV (KA.enc k).2.1.length) := by
  cases k <;> rfl
theorem enc_row (k : Vamvse.Call) : atI ([.int 1, .int 1, .int 1, .int 0, .int 0, .int 1, .int 0, .int 0, .int 0] : List V) (KA.enc k).1 = some (.int (if KA.hasRow k = true then 1 else 0)) := by
  cases k <;> rfl
theorem enc_none (k : Vamvse.Call) (h : ¬ KA.hasRow k = true) : (KA.enc k).2.2 = [] := by
  cases k with
  | load b => exact absurd rfl h
  | cands b => exact absurd rfl h
  | days b => exact absurd rfl h
  | check r b => exact absurd rfl h
  | best r => rfl
  | always r => rfl
  | day r s => rfl
  | go r s => rfl
  | ends r s => rfl
theorem ok_answers (T : Txt K mg d) : FnOk P w K mg base CX0 11 d.f_answers d.fd_answers P_answers (sp_answers K) := by
  refine T.F.F_answers.ok sc_answers (fun vs H Q E h => ?_) (fun cdv A outer s H vs Q E hr h => ⟨t_answers K d (sp_Desk_init d) (sp_CallReader_init d) (sp_is_done d K) (sp_next_some d K) (sp_answer_of d), dv_answers T (ok_Desk_init T) (ok_CallReader_init T) (ok_is_done T) (ok_next_some T) (ok_answer_of T) hr, ?_⟩)
  · obtain ⟨ca, ks, rfl, _⟩ := h
    rfl
  · obtain ⟨ca, ks, rfl, hs, hrow, hbig, kk⟩ := h
    refine q_asgR er_desk fun a H1 ha0 e1 ⟨dx, hD1⟩ => ?_
    refine q_asgR (er_reader (ea_cons (ev_var rfl) ea_nil)) fun r H2 hr0 e2 ⟨rx, hR2⟩ => ?_
    refine q_asgL (el_lst ea_nil (by decide)) fun fl H3 hf0 e3 hf3 => ?_
    have hcf : ca ≠ fl ∨ ∀ H', SqL K H' ca ((ks.flatMap KA.flat).map V.int) := by
      rcases hs with (h | ⟨o, h⟩) | h
      · exact .inl (ne_of_none ((e1.trans e2).at h) hf0)
      · exact .inl (ne_of_none ((e1.trans e2).at h) hf0)
      · exact .inr fun _ => .inr h
    have hD3 := hD1.mono (e2.trans e3)
    refine q_while (fun m σ' H' => ∃ (dn rest : List Vamvse.Call) (v4 v5 v6 v7 : Option V), σ' = [some (.ref ca), some (.ref a), some (.ref r), some (.ref fl), v4, v5, v6, v7] ∧ ks = dn ++ rest ∧ rest.length = m ∧ SqL K H' ca ((ks.flatMap KA.flat).map V.int) ∧ DeskAt d H' a dx (KA.st none dn) ∧ DParts d H' a (fun c => c ≠ fl) ∧
      CrAt d H' r rx ca (dn.flatMap KA.flat).length ∧ H' fl = some (.lst ((KA.outM none dn).map V.int))) ks.length
      ⟨[], ks, none, none, none, none, rfl, rfl, rfl, ex_l ((e1.trans e2).trans e3) hs, hD3, fun dx' ha' e' => (nomatch desk_inj hD3 e'), e3.at hR2, hf3⟩ ?_
    rintro m σ' H4 ⟨dn, rest, v4, v5, v6, v7, rfl, hks, hm, hs4, hD4, hP4, hR4, hf4⟩
    have hlen : (ks.flatMap KA.flat).length = (dn.flatMap KA.flat).length + (rest.flatMap KA.flat).length := by rw [hks, List.flatMap_append, List.length_append]
    refine ⟨!decide ((ks.flatMap KA.flat).length ≤ (dn.flatMap KA.flat).length), et_not (et_B (ev_methG (ev_var rfl) hR4 (no_CallReader_is_done ..) ea_nil (fun H5 e5 Q' q' E' => ⟨r, rx, ca, _, _, rfl, e5.at hR4, ex_l e5 hs4, q'⟩))), fun hb H5 e5 => ⟨_, fun σ2 H2 h => h, ?_⟩, fun hb H5 e5 => ?_⟩
    · have hpos := of_not hb
      cases rest with
      | nil =>
        rw [hlen] at hpos
        exact absurd (Nat.le_refl _) hpos
      | cons k rest =>
      have hk : k ∈ ks := by rw [hks]; exact List.mem_append_right _ (List.mem_cons_self ..)
      generalize hn0 : (dn.flatMap KA.flat).length = n0 at *
      have hdrop : (ks.flatMap KA.flat).drop n0 = (KA.enc k).1 :: ((KA.enc k).2.1 ++ ((if KA.hasRow k = true then ((KA.enc k).2.2.length : Int) :: (KA.enc k).2.2 else []) ++ rest.flatMap KA.flat)) := by
        rw [hks, List.flatMap_append, ← hn0, List.drop_left, List.flatMap_cons]
        show ((KA.enc k).1 :: ((KA.enc k).2.1 ++ _)) ++ _ = _
        rw [List.cons_append, List.append_assoc]
      have hdrop1 : (ks.flatMap KA.flat).drop (n0 + 1) = (KA.enc k).2.1 ++ ((if KA.hasRow k = true then ((KA.enc k).2.2.length : Int) :: (KA.enc k).2.2 else []) ++ rest.flatMap KA.flat) := by
        rw [← List.drop_drop, hdrop]
        rfl
      have hdrop2 : (ks.flatMap KA.flat).drop (n0 + 1 + (KA.enc k).2.1.length) = (if KA.hasRow k = true then ((KA.enc k).2.2.length : Int) :: (KA.enc k).2.2 else []) ++ rest.flatMap KA.flat := by
        rw [← List.drop_drop, hdrop1, List.drop_left]
      have hcall : (ks.flatMap KA.flat)[n0]? = some (KA.enc k).1 := by
        have : ((ks.flatMap KA.flat).drop n0)[0]? = some (KA.enc k).1 := by rw [hdrop]; rfl
        rw [List.getElem?_drop] at this
        simpa using this
      have hflat : (KA.flat k).length = 1 + (KA.enc k).2.1.length + (if KA.hasRow k = true then 1 + (KA.enc k).2.2.length else 0) := by
        unfold KA.flat
        rw [List.length_cons, List.length_append]
        split
        · rw [List.length_cons]
          omega
        · rw [List.length_nil]
          omega
      have hlen2 : (ks.flatMap KA.flat).length = n0 + (KA.flat k).length + (rest.flatMap KA.flat).length := by
        rw [hlen, List.flatMap_cons, List.length_append]
        omega
      have hD5 := hD4.mono e5
      have notfl : ∀ {H' : Hp} {xs : List V}, H' fl = some (.lst xs) → ∀ b, H' b = none → b ≠ fl := fun {H' xs} h b hb => Ne.symm (ne_of_none h hb)
      have hP5 := DOk.ex hD4 e5 _ (notfl hf4) hP4
      -- the call's number
      refine q_of (te_one rfl (e5.at hR4) (ex_l e5 hs4) hcall fun H6 o6 hR6 hs6 => ?_)
      have hD6 := hD5.offR (e5.at hR4) o6
      have hP6 := Parts.offR (e5.at hR4) o6 hD5 hP5
      have nfr : ∀ {H' : Hp} {n : Nat} {b : Addr} {xs : List V}, CrAt d H' r rx ca n → H' b = some (.lst xs) → b ≠ r := fun {H' n b xs} h1 h2 y => by
        have h1' : H' r = _ := h1
        rw [← y, h2] at h1'
        cases h1'
      have hf6 := o6 fl _ (e5.at hf4) (nfr (e5.at hR4) (e5.at hf4))
      -- its numbers
      refine q_of (te_next (m := (KA.enc k).2.1.length) rfl hR6 hs6 (by rw [hlen2, hflat]; omega) (ea_cons (ev_op ev_c (ev_var rfl) (rv_ixT (T.KT.t_NUMBERS H6) (enc_num k))) ea_nil) fun na H7 hna0 o7 hR7 hs7 hna7 => ?_)
      have hD7 := hD6.offR hR6 o7
      have hP7 := Parts.offR hR6 o7 hD6 hP6
      have hf7 := o7 fl _ hf6 (nfr hR6 hf6)
      rw [hdrop1, List.take_left] at hna7
      refine q_asgL (el_lst ea_nil (by decide)) fun rw0 H8 hrw0 e8 hrw8 => ?_
      -- the turn's end
      have fin : ∀ (D : Ends) (ra : Addr) (H' : Hp), (∀ σ2 H2, (∃ m', m' < m ∧ ∃ (dn rest : List Vamvse.Call) (v4 v5 v6 v7 : Option V), σ2 = [some (.ref ca), some (.ref a), some (.ref r), some (.ref fl), v4, v5, v6, v7] ∧ ks = dn ++ rest ∧ rest.length = m' ∧ SqL K H2 ca ((ks.flatMap KA.flat).map V.int) ∧ DeskAt d H2 a dx (KA.st none dn) ∧ DParts d H2 a (fun c => c ≠ fl) ∧
            CrAt d H2 r rx ca (dn.flatMap KA.flat).length ∧ H2 fl = some (.lst ((KA.outM none dn).map V.int))) → D.nx σ2 H2) →
          SqL K H' ca ((ks.flatMap KA.flat).map V.int) → DeskAt d H' a dx (KA.st none dn) → DParts d H' a (fun c => c ≠ fl) → CrAt d H' r rx ca (n0 + (KA.flat k).length) → H' fl = some (.lst ((KA.outM none dn).map V.int)) → H' na = some (.lst ((KA.enc k).2.1.map V.int)) → H' ra = some (.lst ((KA.enc k).2.2.map V.int)) →
          tSeq (tAsg (tCall (sp_answer_of d) [] E0 (tCons (tVar 1) (tCons (tVar 4) (tCons (tVar 5) (tCons (tVar 6) tNil))))) (gName 7)) (tSeq (tDrop (tBM K "list" rAppend (tVar 3) (tCons (tCB (Evl.rLenS K) (tCons (tVar 7) tNil)) tNil))) (tDrop (tBM K "list" rExtend (tVar 3) (tCons (tVar 7) tNil))))
          D [some (.ref ca), some (.ref a), some (.ref r), some (.ref fl), some (.int (KA.enc k).1), some (.ref na), some (.ref ra), v7] H' := by
        intro D ra H' nxD hs' hD' hP' hR' hf' hna' hra'
        obtain ⟨vd, hI', _⟩ := hD'.obj
        refine ⟨_, rfl, _, rfl, _, rfl, _, rfl, a, dx, na, ra, KA.st none dn, k, rfl, hD', hna', hra', hrow k hk, fun p H9 hp o9 hD9 hk9 hp9 => ?_⟩
        have hs9 := SqL.offD hI' o9 hs'
        have hP9 := hk9 _ (notfl hf') hP'
        have hR9 : CrAt d H9 r rx ca (n0 + (KA.flat k).length) := o9 _ _ hR' (fun y => by
          have h : H' r = _ := hR'
          rw [y, hI'] at h
          injection h with h
          injection h with _ _ h
          cases h) (fun _ _ _ _ _ y => by
          injection y with _ _ y
          cases y)
        have hf9 := o9 _ _ hf' (hD'.lst hf') (fun _ _ _ _ _ y => by cases y)
        have npf : p ≠ fl := Ne.symm (ne_of_none hf' hp)
        have hsnoc : KA.outM none (dn ++ [k]) = KA.outM none dn ++ (((KA.ans (KA.st none dn) k).length : Int) :: KA.ans (KA.st none dn) k) := KA.out_snoc dn none k
        have hsz : (KA.outM none dn).length + 1 + (KA.ans (KA.st none dn) k).length ≤ 10000000 := by
          have h : KA.outM none ks = KA.outM none (dn ++ [k]) ++ KA.outM (KA.st none (dn ++ [k])) rest := by
            rw [← KA.out_app, hks, List.append_assoc]
            rfl
          rw [h, hsnoc, List.length_append, List.length_append, List.length_cons] at hbig
          omega
        have hsl : (10000000 : Nat) < sizeLine := by decide
        -- found.append(len(answer))
        refine ⟨_, rfl, Or.inl ⟨rfl, _, sq_of hf9⟩, _, rfl, p, _, rfl, .inl (sq_of hp9), fl, _, _, rfl, rfl, hf9, by rw [List.length_map]; omega, ?_⟩
        have hpa : (upd H9 fl (.lst ((KA.outM none dn).map V.int ++ [V.int (((KA.ans (KA.st none dn) k).map V.int).length : Nat)]))) p = some (.lst ((KA.ans (KA.st none dn) k).map V.int)) := by
          rw [upd_ne npf]
          exact hp9
        refine ⟨_, rfl, Or.inl ⟨rfl, _, sq_of upd_same⟩, _, rfl, fl, p, _, _, rfl, rfl, upd_same, hpa, by
          rw [List.length_append, List.length_map, List.length_map, List.length_singleton]
          omega, ?_⟩
        rw [upd_upd]
        obtain ⟨hD10, hP10⟩ := DeskAt.list (u := .lst ((KA.outM none dn).map V.int ++ [V.int (((KA.ans (KA.st none dn) k).map V.int).length : Nat)] ++ (KA.ans (KA.st none dn) k).map V.int)) hf9 hD9 hP9
        refine nxD _ _ ⟨rest.length, by rw [← hm]; exact Nat.lt_succ_self _, dn ++ [k], rest, _, _, _, _, rfl, by rw [hks, List.append_assoc]; rfl, rfl, ?_, ?_, hP10, ?_, ?_⟩
        · rcases hcf with h | h
          · exact SqL.keep hs9 fun o ho _ => (upd_ne h).trans ho
          · exact h _
        · rw [KA.st_snoc]
          exact hD10
        · have e : ((dn ++ [k]).flatMap KA.flat).length = n0 + (KA.flat k).length := by
            rw [List.flatMap_append, List.length_append, hn0, List.flatMap_cons]
            show n0 + (KA.flat k ++ []).length = _
            rw [List.append_nil]
          rw [e]
          have h9 : H9 r = _ := hR9
          exact (upd_ne fun y => by rw [y, hf9] at h9; cases h9).trans hR9
        · rw [upd_same, hsnoc, List.map_append, List.map_cons, List.length_map, List.append_assoc]
          rfl
      have hR8 : CrAt d H8 r rx ca (n0 + 1 + (KA.enc k).2.1.length) := e8.at hR7
      have hs8 := ex_l e8 hs7
      have hD8 := hD7.mono e8
      have hP8 := DOk.ex hD7 e8 _ (notfl hf7) hP7
      refine q_if (et_test (ev_op (ev_op ev_c (ev_var rfl) (rv_ixT (T.KT.t_ROWS H8) (enc_row k))) ev_c rv_gt)) (fun hbr H9 e9 => ?_) (fun hbr H9 e9 => ?_)
      · have hrw : KA.hasRow k = true := by
          refine Decidable.byContradiction fun y => ?_
          rw [if_neg y] at hbr
          cases hbr
        rw [if_pos hrw] at hdrop2 hflat
        have hcnt : (ks.flatMap KA.flat)[n0 + 1 + (KA.enc k).2.1.length]? = some ((KA.enc k).2.2.length : Int) := by
          have : ((ks.flatMap KA.flat).drop (n0 + 1 + (KA.enc k).2.1.length))[0]? = some ((KA.enc k).2.2.length : Int) := by rw [hdrop2]; rfl
          rw [List.getElem?_drop] at this
          simpa using this
        refine ⟨_, rfl, r, rx, _, rfl, e9.at hR8, no_CallReader_next_some .., te_one rfl (e9.at hR8) (ex_l e9 hs8) hcnt fun Ha oa hRa hsa => ⟨r, rx, ca, _, (KA.enc k).2.2.length, _, rfl, hRa, hsa, by omega, fun p Hb hp ob hRb hpb => ?_⟩⟩
        have hDa := (hD8.mono e9).offR (e9.at hR8) oa
        have hPa := Parts.offR (e9.at hR8) oa (hD8.mono e9) (DOk.ex hD8 e9 _ (notfl (e8.at hf7)) hP8)
        have hfa := oa fl _ (e9.at (e8.at hf7)) (nfr (e9.at hR8) (e9.at (e8.at hf7)))
        have hnaa := oa na _ (e9.at (e8.at hna7)) (nfr (e9.at hR8) (e9.at (e8.at hna7)))
        have hdrop3 : (ks.flatMap KA.flat).drop (n0 + 1 + (KA.enc k).2.1.length + 1) = (KA.enc k).2.2 ++ rest.flatMap KA.flat := by
          rw [← List.drop_drop, hdrop2]
          rfl
        rw [hdrop3, List.take_left] at hpb
        refine fin _ p Hb (fun σ2 H2 h => h) (SqL.off hRa ob hsa) (hDa.offR hRa ob) (Parts.offR hRa ob hDa hPa) ?_ (ob fl _ hfa (nfr hRa hfa)) (ob na _ hnaa (nfr hRa hnaa)) hpb
        have e : n0 + (KA.flat k).length = n0 + 1 + (KA.enc k).2.1.length + 1 + (KA.enc k).2.2.length := by omega
        rw [e]
        exact hRb
      · have hrw : ¬ KA.hasRow k = true := fun y => by
          rw [if_pos y] at hbr
          cases hbr
        rw [if_neg hrw] at hflat
        refine fin _ rw0 H9 (fun σ2 H2 h => h) (ex_l e9 hs8) (hD8.mono e9) (DOk.ex hD8 e9 _ (notfl (e8.at hf7)) hP8) ?_ (e9.at (e8.at hf7)) (e9.at (e8.at hna7)) ?_
        · have e : n0 + (KA.flat k).length = n0 + 1 + (KA.enc k).2.1.length := by omega
          rw [e]
          exact e9.at hR8
        · rw [enc_none k hrw]
          exact e9.at hrw8
    · have hdone := of_yes hb
      have hrest : rest = [] := by
        cases rest with
        | nil => rfl
        | cons k rest =>
          have h1 : 0 < (KA.flat k).length := Nat.succ_pos _
          rw [hlen, List.flatMap_cons, List.length_append] at hdone
          omega
      subst hrest
      rw [List.append_nil] at hks
      subst hks
      exact s_ret (ev_var rfl) fun H6 e6 => kk fl H6 ((e5.trans e6).at hf4)
end
end KW
end
section
/-! # Printed by gen_all.py: what the top has written -/
namespace KW
open PySem PySem.Spec PyProof.Rows L2
/-- an error of the class at S is what «except S» names -/
theorem exm_self {K : PySem.W.Frag} {S : Addr} (h1 : PySem.W.subIn K (.ref S) (.type "BaseException") = some true) (h2 : PySem.W.isClsIn K S = true) (h3 : PySem.W.typeIn K (.ref S) = some (.type "type")) (h4 : PySem.W.subIn K (.ref S) (.ref S) = some true) : PySem.W.exmOne K (.ref S) (.ref S) = some true := by
  have e1 : (PySem.W.subIn K (.ref S) (.type "BaseException") == some true) = true := by rw [h1] <;> rfl
  have e2 : ((PySem.W.clsIn K S).isSome && PySem.W.typeIn K (.ref S) == some (.type "type")) = true := by
    have h2' : (PySem.W.clsIn K S).isSome = true := h2
    rw [h2', h3] <;> rfl
  show (if (PySem.W.subIn K (.ref S) (.type "BaseException") == some true) = true then (if ((PySem.W.clsIn K S).isSome && PySem.W.typeIn K (.ref S) == some (.type "type")) = true then PySem.W.subIn K (.ref S) (.ref S) else none) else none) = some true
  rw [if_pos e1, if_pos e2]
  exact h4
theorem all_mk {P : Program} {w : World} {K : PySem.W.Frag} {h : Heap} {mg : Str → Option Value} {fa : Addr} (X : K.In h) (G : h.Ns mainGlobals mg) (hfa : mg "answers" = some (.ref fa))
    {cChoice cLine cFault cToken cQuestion cTable cReader cRefused cDesk cCallReader k_BLANKS k_WORDS k_NUMBERS k_ROWS f_Choice_init f_Choice_put_candidates f_Choice_put_days f_Choice_count_sets f_Choice_room f_Choice_fitting f_Choice_cost f_Choice_going f_Choice_day_cost f_Choice_plan_cost f_Choice_rests f_Choice_best f_Choice_same_always f_greatest_divisor f_fraction f_Line_init f_Line_key_at f_lines_of f_meeting f_is_less f_piece_end f_pieces_of f_Fault_init f_Token_init f_is_letter f_is_digit f_text_of f_word_token f_number_token f_sign_token f_remark_end f_word_end f_number_end f_tokens_of f_Question_init f_Table_init f_Table_size f_Reader_init f_Reader_here f_Reader_fail_if f_Reader_is_next f_Reader_look_for f_Reader_want f_Reader_read_number f_Reader_read_column f_Reader_read_columns f_Reader_read_row f_Reader_read_name f_Reader_read_question f_Reader_read f_table_of f_Refused_init f_refuse_if f_Desk_init f_Desk_load f_Desk_look_at_room f_Desk_look_at_set f_Desk_cands f_Desk_put_days f_Desk_best f_Desk_always f_Desk_check f_Desk_day f_Desk_go f_Desk_ends f_call_told f_answer_of f_CallReader_init f_CallReader_is_done f_CallReader_next_some f_answers : Addr}
    {t_TIMES_END : Tok}
    {t_BAD_TOKEN : Tok}
    {t_MOST_NAME : Tok}
    {t_MOST_NUMBER : Tok}
    {t_REMARK : Tok}
    {t_ROW_END : Tok}
    {t_SIGNS : Tok}
    {t_CAPITALS : Tok}
    {t_SMALLS : Tok}
    {t_DIGITS : Tok}
    {t_TOO_LONG : Tok}
    {t_NOT_HERE : Tok}
    {t_TOO_MANY : Tok}
    {t_COLUMN_TWICE : Tok}
    {t_NAME_TWICE : Tok}
    {t_OUT_OF_RANGE : Tok}
    {t_NO_COLUMN : Tok}
    {t_MOST_BYTES : Tok}
    {t_MOST_COLUMNS : Tok}
    {t_MOST_ROWS : Tok}
    {t_MOST_QUESTIONS : Tok}
    {t_MOST_VALUE : Tok}
    {t_MOST_SUMMED : Tok}
    {t_MOST_TIMES : Tok}
    {t_LOAD : Tok}
    {t_CANDS : Tok}
    {t_DAYS : Tok}
    {t_BEST : Tok}
    {t_ALWAYS : Tok}
    {t_CHECK : Tok}
    {t_DAY : Tok}
    {t_GO : Tok}
    {t_MOST_CANDIDATES : Tok}
    {t_MOST_DAYS : Tok}
    {t_MOST_OFTEN : Tok}
    {t_MOST_ROOM : Tok}
    {u_k_BLANKS_0 u_k_BLANKS_1 u_k_BLANKS_2 : Tok}
    {n_k_BLANKS : Nat} {dd_k_BLANKS : Option Addr} {s_k_BLANKS : Array (Option Value)}
    {u_k_WORDS_0 u_k_WORDS_1 u_k_WORDS_2 u_k_WORDS_3 : Tok}
    {n_k_WORDS : Nat} {dd_k_WORDS : Option Addr} {s_k_WORDS : Array (Option Value)}
    {u_k_NUMBERS_0 u_k_NUMBERS_1 u_k_NUMBERS_2 u_k_NUMBERS_3 u_k_NUMBERS_4 u_k_NUMBERS_5 u_k_NUMBERS_6 u_k_NUMBERS_7 u_k_NUMBERS_8 : Tok}
    {n_k_NUMBERS : Nat} {dd_k_NUMBERS : Option Addr} {s_k_NUMBERS : Array (Option Value)}
    {u_k_ROWS_0 u_k_ROWS_1 u_k_ROWS_2 u_k_ROWS_3 u_k_ROWS_4 u_k_ROWS_5 u_k_ROWS_6 u_k_ROWS_7 u_k_ROWS_8 : Tok}
    {n_k_ROWS : Nat} {dd_k_ROWS : Option Addr} {s_k_ROWS : Array (Option Value)}
    {nm_Fault qq_Fault : Str} {N_Fault : Addr} {bs_Fault : List Value} {sn_Fault : List Str} {sub_Fault : List Value} {ab_Fault : Bool} {col_Fault : Option Bool} {dd_Fault : Option Addr} {m0_Fault m1_Fault m2_Fault m3_Fault m5_Fault : Option Value}
    {nm_Refused qq_Refused : Str} {N_Refused : Addr} {bs_Refused : List Value} {sn_Refused : List Str} {sub_Refused : List Value} {ab_Refused : Bool} {col_Refused : Option Bool} {dd_Refused : Option Addr} {m0_Refused m1_Refused m2_Refused m3_Refused m5_Refused : Option Value}
    {od_Choice_init an_Choice_init : Option Addr} {sl_Choice_init : Array (Option Value)} {oc_Choice_init kV_Choice_init dc_Choice_init pm_Choice_init cd_Choice_init ct_Choice_init : Value}
    {od_Choice_put_candidates an_Choice_put_candidates : Option Addr} {sl_Choice_put_candidates : Array (Option Value)} {oc_Choice_put_candidates kV_Choice_put_candidates dc_Choice_put_candidates pm_Choice_put_candidates cd_Choice_put_candidates ct_Choice_put_candidates : Value}
    {od_Choice_put_days an_Choice_put_days : Option Addr} {sl_Choice_put_days : Array (Option Value)} {oc_Choice_put_days kV_Choice_put_days dc_Choice_put_days pm_Choice_put_days cd_Choice_put_days ct_Choice_put_days : Value}
    {od_Choice_count_sets an_Choice_count_sets : Option Addr} {sl_Choice_count_sets : Array (Option Value)} {oc_Choice_count_sets kV_Choice_count_sets dc_Choice_count_sets pm_Choice_count_sets cd_Choice_count_sets ct_Choice_count_sets : Value}
    {od_Choice_room an_Choice_room : Option Addr} {sl_Choice_room : Array (Option Value)} {oc_Choice_room kV_Choice_room dc_Choice_room pm_Choice_room cd_Choice_room ct_Choice_room : Value}
    {od_Choice_fitting an_Choice_fitting : Option Addr} {sl_Choice_fitting : Array (Option Value)} {oc_Choice_fitting kV_Choice_fitting dc_Choice_fitting pm_Choice_fitting cd_Choice_fitting ct_Choice_fitting : Value}
    {od_Choice_cost an_Choice_cost : Option Addr} {sl_Choice_cost : Array (Option Value)} {oc_Choice_cost kV_Choice_cost dc_Choice_cost pm_Choice_cost cd_Choice_cost ct_Choice_cost : Value}
    {od_Choice_going an_Choice_going : Option Addr} {sl_Choice_going : Array (Option Value)} {oc_Choice_going kV_Choice_going dc_Choice_going pm_Choice_going cd_Choice_going ct_Choice_going : Value}
    {od_Choice_day_cost an_Choice_day_cost : Option Addr} {sl_Choice_day_cost : Array (Option Value)} {oc_Choice_day_cost kV_Choice_day_cost dc_Choice_day_cost pm_Choice_day_cost cd_Choice_day_cost ct_Choice_day_cost : Value}
    {od_Choice_plan_cost an_Choice_plan_cost : Option Addr} {sl_Choice_plan_cost : Array (Option Value)} {oc_Choice_plan_cost kV_Choice_plan_cost dc_Choice_plan_cost pm_Choice_plan_cost cd_Choice_plan_cost ct_Choice_plan_cost : Value}
    {od_Choice_rests an_Choice_rests : Option Addr} {sl_Choice_rests : Array (Option Value)} {oc_Choice_rests kV_Choice_rests dc_Choice_rests pm_Choice_rests cd_Choice_rests ct_Choice_rests : Value}
    {od_Choice_best an_Choice_best : Option Addr} {sl_Choice_best : Array (Option Value)} {oc_Choice_best kV_Choice_best dc_Choice_best pm_Choice_best cd_Choice_best ct_Choice_best : Value}
    {od_Choice_same_always an_Choice_same_always : Option Addr} {sl_Choice_same_always : Array (Option Value)} {oc_Choice_same_always kV_Choice_same_always dc_Choice_same_always pm_Choice_same_always cd_Choice_same_always ct_Choice_same_always : Value}
    {od_greatest_divisor an_greatest_divisor : Option Addr} {sl_greatest_divisor : Array (Option Value)} {oc_greatest_divisor kV_greatest_divisor dc_greatest_divisor pm_greatest_divisor cd_greatest_divisor ct_greatest_divisor : Value}
    {od_fraction an_fraction : Option Addr} {sl_fraction : Array (Option Value)} {oc_fraction kV_fraction dc_fraction pm_fraction cd_fraction ct_fraction : Value}
    {od_Line_init an_Line_init : Option Addr} {sl_Line_init : Array (Option Value)} {oc_Line_init kV_Line_init dc_Line_init pm_Line_init cd_Line_init ct_Line_init : Value}
    {od_Line_key_at an_Line_key_at : Option Addr} {sl_Line_key_at : Array (Option Value)} {oc_Line_key_at kV_Line_key_at dc_Line_key_at pm_Line_key_at cd_Line_key_at ct_Line_key_at : Value}
    {od_lines_of an_lines_of : Option Addr} {sl_lines_of : Array (Option Value)} {oc_lines_of kV_lines_of dc_lines_of pm_lines_of cd_lines_of ct_lines_of : Value}
    {od_meeting an_meeting : Option Addr} {sl_meeting : Array (Option Value)} {oc_meeting kV_meeting dc_meeting pm_meeting cd_meeting ct_meeting : Value}
    {od_is_less an_is_less : Option Addr} {sl_is_less : Array (Option Value)} {oc_is_less kV_is_less dc_is_less pm_is_less cd_is_less ct_is_less : Value}
    {od_piece_end an_piece_end : Option Addr} {sl_piece_end : Array (Option Value)} {oc_piece_end kV_piece_end dc_piece_end pm_piece_end cd_piece_end ct_piece_end : Value}
    {od_pieces_of an_pieces_of : Option Addr} {sl_pieces_of : Array (Option Value)} {oc_pieces_of kV_pieces_of dc_pieces_of pm_pieces_of cd_pieces_of ct_pieces_of : Value}
    {od_Fault_init an_Fault_init : Option Addr} {sl_Fault_init : Array (Option Value)} {oc_Fault_init kV_Fault_init dc_Fault_init pm_Fault_init cd_Fault_init ct_Fault_init : Value}
    {od_Token_init an_Token_init : Option Addr} {sl_Token_init : Array (Option Value)} {oc_Token_init kV_Token_init dc_Token_init pm_Token_init cd_Token_init ct_Token_init : Value}
    {od_is_letter an_is_letter : Option Addr} {sl_is_letter : Array (Option Value)} {oc_is_letter kV_is_letter dc_is_letter pm_is_letter cd_is_letter ct_is_letter : Value}
    {od_is_digit an_is_digit : Option Addr} {sl_is_digit : Array (Option Value)} {oc_is_digit kV_is_digit dc_is_digit pm_is_digit cd_is_digit ct_is_digit : Value}
    {od_text_of an_text_of : Option Addr} {sl_text_of : Array (Option Value)} {oc_text_of kV_text_of dc_text_of pm_text_of cd_text_of ct_text_of : Value}
    {od_word_token an_word_token : Option Addr} {sl_word_token : Array (Option Value)} {oc_word_token kV_word_token dc_word_token pm_word_token cd_word_token ct_word_token : Value}
    {od_number_token an_number_token : Option Addr} {sl_number_token : Array (Option Value)} {oc_number_token kV_number_token dc_number_token pm_number_token cd_number_token ct_number_token : Value}
    {od_sign_token an_sign_token : Option Addr} {sl_sign_token : Array (Option Value)} {oc_sign_token kV_sign_token dc_sign_token pm_sign_token cd_sign_token ct_sign_token : Value}
    {od_remark_end an_remark_end : Option Addr} {sl_remark_end : Array (Option Value)} {oc_remark_end kV_remark_end dc_remark_end pm_remark_end cd_remark_end ct_remark_end : Value}
    {od_word_end an_word_end : Option Addr} {sl_word_end : Array (Option Value)} {oc_word_end kV_word_end dc_word_end pm_word_end cd_word_end ct_word_end : Value}
    {od_number_end an_number_end : Option Addr} {sl_number_end : Array (Option Value)} {oc_number_end kV_number_end dc_number_end pm_number_end cd_number_end ct_number_end : Value}
    {od_tokens_of an_tokens_of : Option Addr} {sl_tokens_of : Array (Option Value)} {oc_tokens_of kV_tokens_of dc_tokens_of pm_tokens_of cd_tokens_of ct_tokens_of : Value}
    {od_Question_init an_Question_init : Option Addr} {sl_Question_init : Array (Option Value)} {oc_Question_init kV_Question_init dc_Question_init pm_Question_init cd_Question_init ct_Question_init : Value}
    {od_Table_init an_Table_init : Option Addr} {sl_Table_init : Array (Option Value)} {oc_Table_init kV_Table_init dc_Table_init pm_Table_init cd_Table_init ct_Table_init : Value}
    {od_Table_size an_Table_size : Option Addr} {sl_Table_size : Array (Option Value)} {oc_Table_size kV_Table_size dc_Table_size pm_Table_size cd_Table_size ct_Table_size : Value}
    {od_Reader_init an_Reader_init : Option Addr} {sl_Reader_init : Array (Option Value)} {oc_Reader_init kV_Reader_init dc_Reader_init pm_Reader_init cd_Reader_init ct_Reader_init : Value}
    {od_Reader_here an_Reader_here : Option Addr} {sl_Reader_here : Array (Option Value)} {oc_Reader_here kV_Reader_here dc_Reader_here pm_Reader_here cd_Reader_here ct_Reader_here : Value}
    {od_Reader_fail_if an_Reader_fail_if : Option Addr} {sl_Reader_fail_if : Array (Option Value)} {oc_Reader_fail_if kV_Reader_fail_if dc_Reader_fail_if pm_Reader_fail_if cd_Reader_fail_if ct_Reader_fail_if : Value}
    {od_Reader_is_next an_Reader_is_next : Option Addr} {sl_Reader_is_next : Array (Option Value)} {oc_Reader_is_next kV_Reader_is_next dc_Reader_is_next pm_Reader_is_next cd_Reader_is_next ct_Reader_is_next : Value}
    {od_Reader_look_for an_Reader_look_for : Option Addr} {sl_Reader_look_for : Array (Option Value)} {oc_Reader_look_for kV_Reader_look_for dc_Reader_look_for pm_Reader_look_for cd_Reader_look_for ct_Reader_look_for : Value}
    {od_Reader_want an_Reader_want : Option Addr} {sl_Reader_want : Array (Option Value)} {oc_Reader_want kV_Reader_want dc_Reader_want pm_Reader_want cd_Reader_want ct_Reader_want : Value}
    {od_Reader_read_number an_Reader_read_number : Option Addr} {sl_Reader_read_number : Array (Option Value)} {oc_Reader_read_number kV_Reader_read_number dc_Reader_read_number pm_Reader_read_number cd_Reader_read_number ct_Reader_read_number : Value}
    {od_Reader_read_column an_Reader_read_column : Option Addr} {sl_Reader_read_column : Array (Option Value)} {oc_Reader_read_column kV_Reader_read_column dc_Reader_read_column pm_Reader_read_column cd_Reader_read_column ct_Reader_read_column : Value}
    {od_Reader_read_columns an_Reader_read_columns : Option Addr} {sl_Reader_read_columns : Array (Option Value)} {oc_Reader_read_columns kV_Reader_read_columns dc_Reader_read_columns pm_Reader_read_columns cd_Reader_read_columns ct_Reader_read_columns : Value}
    {od_Reader_read_row an_Reader_read_row : Option Addr} {sl_Reader_read_row : Array (Option Value)} {oc_Reader_read_row kV_Reader_read_row dc_Reader_read_row pm_Reader_read_row cd_Reader_read_row ct_Reader_read_row : Value}
    {od_Reader_read_name an_Reader_read_name : Option Addr} {sl_Reader_read_name : Array (Option Value)} {oc_Reader_read_name kV_Reader_read_name dc_Reader_read_name pm_Reader_read_name cd_Reader_read_name ct_Reader_read_name : Value}
    {od_Reader_read_question an_Reader_read_question : Option Addr} {sl_Reader_read_question : Array (Option Value)} {oc_Reader_read_question kV_Reader_read_question dc_Reader_read_question pm_Reader_read_question cd_Reader_read_question ct_Reader_read_question : Value}
    {od_Reader_read an_Reader_read : Option Addr} {sl_Reader_read : Array (Option Value)} {oc_Reader_read kV_Reader_read dc_Reader_read pm_Reader_read cd_Reader_read ct_Reader_read : Value}
    {od_table_of an_table_of : Option Addr} {sl_table_of : Array (Option Value)} {oc_table_of kV_table_of dc_table_of pm_table_of cd_table_of ct_table_of : Value}
    {od_Refused_init an_Refused_init : Option Addr} {sl_Refused_init : Array (Option Value)} {oc_Refused_init kV_Refused_init dc_Refused_init pm_Refused_init cd_Refused_init ct_Refused_init : Value}
    {od_refuse_if an_refuse_if : Option Addr} {sl_refuse_if : Array (Option Value)} {oc_refuse_if kV_refuse_if dc_refuse_if pm_refuse_if cd_refuse_if ct_refuse_if : Value}
    {od_Desk_init an_Desk_init : Option Addr} {sl_Desk_init : Array (Option Value)} {oc_Desk_init kV_Desk_init dc_Desk_init pm_Desk_init cd_Desk_init ct_Desk_init : Value}
    {od_Desk_load an_Desk_load : Option Addr} {sl_Desk_load : Array (Option Value)} {oc_Desk_load kV_Desk_load dc_Desk_load pm_Desk_load cd_Desk_load ct_Desk_load : Value}
    {od_Desk_look_at_room an_Desk_look_at_room : Option Addr} {sl_Desk_look_at_room : Array (Option Value)} {oc_Desk_look_at_room kV_Desk_look_at_room dc_Desk_look_at_room pm_Desk_look_at_room cd_Desk_look_at_room ct_Desk_look_at_room : Value}
    {od_Desk_look_at_set an_Desk_look_at_set : Option Addr} {sl_Desk_look_at_set : Array (Option Value)} {oc_Desk_look_at_set kV_Desk_look_at_set dc_Desk_look_at_set pm_Desk_look_at_set cd_Desk_look_at_set ct_Desk_look_at_set : Value}
    {od_Desk_cands an_Desk_cands : Option Addr} {sl_Desk_cands : Array (Option Value)} {oc_Desk_cands kV_Desk_cands dc_Desk_cands pm_Desk_cands cd_Desk_cands ct_Desk_cands : Value}
    {od_Desk_put_days an_Desk_put_days : Option Addr} {sl_Desk_put_days : Array (Option Value)} {oc_Desk_put_days kV_Desk_put_days dc_Desk_put_days pm_Desk_put_days cd_Desk_put_days ct_Desk_put_days : Value}
    {od_Desk_best an_Desk_best : Option Addr} {sl_Desk_best : Array (Option Value)} {oc_Desk_best kV_Desk_best dc_Desk_best pm_Desk_best cd_Desk_best ct_Desk_best : Value}
    {od_Desk_always an_Desk_always : Option Addr} {sl_Desk_always : Array (Option Value)} {oc_Desk_always kV_Desk_always dc_Desk_always pm_Desk_always cd_Desk_always ct_Desk_always : Value}
    {od_Desk_check an_Desk_check : Option Addr} {sl_Desk_check : Array (Option Value)} {oc_Desk_check kV_Desk_check dc_Desk_check pm_Desk_check cd_Desk_check ct_Desk_check : Value}
    {od_Desk_day an_Desk_day : Option Addr} {sl_Desk_day : Array (Option Value)} {oc_Desk_day kV_Desk_day dc_Desk_day pm_Desk_day cd_Desk_day ct_Desk_day : Value}
    {od_Desk_go an_Desk_go : Option Addr} {sl_Desk_go : Array (Option Value)} {oc_Desk_go kV_Desk_go dc_Desk_go pm_Desk_go cd_Desk_go ct_Desk_go : Value}
    {od_Desk_ends an_Desk_ends : Option Addr} {sl_Desk_ends : Array (Option Value)} {oc_Desk_ends kV_Desk_ends dc_Desk_ends pm_Desk_ends cd_Desk_ends ct_Desk_ends : Value}
    {od_call_told an_call_told : Option Addr} {sl_call_told : Array (Option Value)} {oc_call_told kV_call_told dc_call_told pm_call_told cd_call_told ct_call_told : Value}
    {od_answer_of an_answer_of : Option Addr} {sl_answer_of : Array (Option Value)} {oc_answer_of kV_answer_of dc_answer_of pm_answer_of cd_answer_of ct_answer_of : Value}
    {od_CallReader_init an_CallReader_init : Option Addr} {sl_CallReader_init : Array (Option Value)} {oc_CallReader_init kV_CallReader_init dc_CallReader_init pm_CallReader_init cd_CallReader_init ct_CallReader_init : Value}
    {od_CallReader_is_done an_CallReader_is_done : Option Addr} {sl_CallReader_is_done : Array (Option Value)} {oc_CallReader_is_done kV_CallReader_is_done dc_CallReader_is_done pm_CallReader_is_done cd_CallReader_is_done ct_CallReader_is_done : Value}
    {od_CallReader_next_some an_CallReader_next_some : Option Addr} {sl_CallReader_next_some : Array (Option Value)} {oc_CallReader_next_some kV_CallReader_next_some dc_CallReader_next_some pm_CallReader_next_some cd_CallReader_next_some ct_CallReader_next_some : Value}
    {od_answers an_answers : Option Addr} {sl_answers : Array (Option Value)} {oc_answers kV_answers dc_answers pm_answers cd_answers ct_answers : Value}
    (gm_BLANKS : PySem.W.nsIn K mainGlobals "BLANKS" = some (some (.ref k_BLANKS)))
    (gm_WORDS : PySem.W.nsIn K mainGlobals "WORDS" = some (some (.ref k_WORDS)))
    (gm_NUMBERS : PySem.W.nsIn K mainGlobals "NUMBERS" = some (some (.ref k_NUMBERS)))
    (gm_ROWS : PySem.W.nsIn K mainGlobals "ROWS" = some (some (.ref k_ROWS)))
    (gg_Choice : PySem.W.nsIn K mainGlobals "Choice" = some (some (.ref cChoice)))
    (gg_Line : PySem.W.nsIn K mainGlobals "Line" = some (some (.ref cLine)))
    (gg_Fault : PySem.W.nsIn K mainGlobals "Fault" = some (some (.ref cFault)))
    (gg_Token : PySem.W.nsIn K mainGlobals "Token" = some (some (.ref cToken)))
    (gg_Question : PySem.W.nsIn K mainGlobals "Question" = some (some (.ref cQuestion)))
    (gg_Table : PySem.W.nsIn K mainGlobals "Table" = some (some (.ref cTable)))
    (gg_Reader : PySem.W.nsIn K mainGlobals "Reader" = some (some (.ref cReader)))
    (gg_Refused : PySem.W.nsIn K mainGlobals "Refused" = some (some (.ref cRefused)))
    (gg_Desk : PySem.W.nsIn K mainGlobals "Desk" = some (some (.ref cDesk)))
    (gg_CallReader : PySem.W.nsIn K mainGlobals "CallReader" = some (some (.ref cCallReader)))
    (gg_greatest_divisor : PySem.W.nsIn K mainGlobals "greatest_divisor" = some (some (.ref f_greatest_divisor)))
    (gg_fraction : PySem.W.nsIn K mainGlobals "fraction" = some (some (.ref f_fraction)))
    (gg_lines_of : PySem.W.nsIn K mainGlobals "lines_of" = some (some (.ref f_lines_of)))
    (gg_meeting : PySem.W.nsIn K mainGlobals "meeting" = some (some (.ref f_meeting)))
    (gg_is_less : PySem.W.nsIn K mainGlobals "is_less" = some (some (.ref f_is_less)))
    (gg_piece_end : PySem.W.nsIn K mainGlobals "piece_end" = some (some (.ref f_piece_end)))
    (gg_pieces_of : PySem.W.nsIn K mainGlobals "pieces_of" = some (some (.ref f_pieces_of)))
    (gg_is_letter : PySem.W.nsIn K mainGlobals "is_letter" = some (some (.ref f_is_letter)))
    (gg_is_digit : PySem.W.nsIn K mainGlobals "is_digit" = some (some (.ref f_is_digit)))
    (gg_text_of : PySem.W.nsIn K mainGlobals "text_of" = some (some (.ref f_text_of)))
    (gg_word_token : PySem.W.nsIn K mainGlobals "word_token" = some (some (.ref f_word_token)))
    (gg_number_token : PySem.W.nsIn K mainGlobals "number_token" = some (some (.ref f_number_token)))
    (gg_sign_token : PySem.W.nsIn K mainGlobals "sign_token" = some (some (.ref f_sign_token)))
    (gg_remark_end : PySem.W.nsIn K mainGlobals "remark_end" = some (some (.ref f_remark_end)))
    (gg_word_end : PySem.W.nsIn K mainGlobals "word_end" = some (some (.ref f_word_end)))
    (gg_number_end : PySem.W.nsIn K mainGlobals "number_end" = some (some (.ref f_number_end)))
    (gg_tokens_of : PySem.W.nsIn K mainGlobals "tokens_of" = some (some (.ref f_tokens_of)))
    (gg_table_of : PySem.W.nsIn K mainGlobals "table_of" = some (some (.ref f_table_of)))
    (gg_refuse_if : PySem.W.nsIn K mainGlobals "refuse_if" = some (some (.ref f_refuse_if)))
    (gg_call_told : PySem.W.nsIn K mainGlobals "call_told" = some (some (.ref f_call_told)))
    (gg_answer_of : PySem.W.nsIn K mainGlobals "answer_of" = some (some (.ref f_answer_of)))
    (gg_answers : PySem.W.nsIn K mainGlobals "answers" = some (some (.ref f_answers)))
    (in_Choice : PySem.W.findIn K (.ref cChoice) "__init__" = some (some (.ref f_Choice_init)))
    (at_f_Choice_put_candidates : PySem.W.findIn K (.ref cChoice) "put_candidates" = some (some (.ref f_Choice_put_candidates)))
    (at_f_Choice_put_days : PySem.W.findIn K (.ref cChoice) "put_days" = some (some (.ref f_Choice_put_days)))
    (at_f_Choice_count_sets : PySem.W.findIn K (.ref cChoice) "count_sets" = some (some (.ref f_Choice_count_sets)))
    (at_f_Choice_room : PySem.W.findIn K (.ref cChoice) "room" = some (some (.ref f_Choice_room)))
    (at_f_Choice_fitting : PySem.W.findIn K (.ref cChoice) "fitting" = some (some (.ref f_Choice_fitting)))
    (at_f_Choice_cost : PySem.W.findIn K (.ref cChoice) "cost" = some (some (.ref f_Choice_cost)))
    (at_f_Choice_going : PySem.W.findIn K (.ref cChoice) "going" = some (some (.ref f_Choice_going)))
    (at_f_Choice_day_cost : PySem.W.findIn K (.ref cChoice) "day_cost" = some (some (.ref f_Choice_day_cost)))
    (at_f_Choice_plan_cost : PySem.W.findIn K (.ref cChoice) "plan_cost" = some (some (.ref f_Choice_plan_cost)))
    (at_f_Choice_rests : PySem.W.findIn K (.ref cChoice) "rests" = some (some (.ref f_Choice_rests)))
    (at_f_Choice_best : PySem.W.findIn K (.ref cChoice) "best" = some (some (.ref f_Choice_best)))
    (at_f_Choice_same_always : PySem.W.findIn K (.ref cChoice) "same_always" = some (some (.ref f_Choice_same_always)))
    (in_Line : PySem.W.findIn K (.ref cLine) "__init__" = some (some (.ref f_Line_init)))
    (at_f_Line_key_at : PySem.W.findIn K (.ref cLine) "key_at" = some (some (.ref f_Line_key_at)))
    (in_Token : PySem.W.findIn K (.ref cToken) "__init__" = some (some (.ref f_Token_init)))
    (in_Question : PySem.W.findIn K (.ref cQuestion) "__init__" = some (some (.ref f_Question_init)))
    (in_Table : PySem.W.findIn K (.ref cTable) "__init__" = some (some (.ref f_Table_init)))
    (at_f_Table_size : PySem.W.findIn K (.ref cTable) "size" = some (some (.ref f_Table_size)))
    (in_Reader : PySem.W.findIn K (.ref cReader) "__init__" = some (some (.ref f_Reader_init)))
    (at_f_Reader_here : PySem.W.findIn K (.ref cReader) "here" = some (some (.ref f_Reader_here)))
    (at_f_Reader_fail_if : PySem.W.findIn K (.ref cReader) "fail_if" = some (some (.ref f_Reader_fail_if)))
    (at_f_Reader_is_next : PySem.W.findIn K (.ref cReader) "is_next" = some (some (.ref f_Reader_is_next)))
    (at_f_Reader_look_for : PySem.W.findIn K (.ref cReader) "look_for" = some (some (.ref f_Reader_look_for)))
    (at_f_Reader_want : PySem.W.findIn K (.ref cReader) "want" = some (some (.ref f_Reader_want)))
    (at_f_Reader_read_number : PySem.W.findIn K (.ref cReader) "read_number" = some (some (.ref f_Reader_read_number)))
    (at_f_Reader_read_column : PySem.W.findIn K (.ref cReader) "read_column" = some (some (.ref f_Reader_read_column)))
    (at_f_Reader_read_columns : PySem.W.findIn K (.ref cReader) "read_columns" = some (some (.ref f_Reader_read_columns)))
    (at_f_Reader_read_row : PySem.W.findIn K (.ref cReader) "read_row" = some (some (.ref f_Reader_read_row)))
    (at_f_Reader_read_name : PySem.W.findIn K (.ref cReader) "read_name" = some (some (.ref f_Reader_read_name)))
    (at_f_Reader_read_question : PySem.W.findIn K (.ref cReader) "read_question" = some (some (.ref f_Reader_read_question)))
    (at_f_Reader_read : PySem.W.findIn K (.ref cReader) "read" = some (some (.ref f_Reader_read)))
    (in_Desk : PySem.W.findIn K (.ref cDesk) "__init__" = some (some (.ref f_Desk_init)))
    (at_f_Desk_load : PySem.W.findIn K (.ref cDesk) "load" = some (some (.ref f_Desk_load)))
    (at_f_Desk_look_at_room : PySem.W.findIn K (.ref cDesk) "look_at_room" = some (some (.ref f_Desk_look_at_room)))
    (at_f_Desk_look_at_set : PySem.W.findIn K (.ref cDesk) "look_at_set" = some (some (.ref f_Desk_look_at_set)))
    (at_f_Desk_cands : PySem.W.findIn K (.ref cDesk) "cands" = some (some (.ref f_Desk_cands)))
    (at_f_Desk_put_days : PySem.W.findIn K (.ref cDesk) "put_days" = some (some (.ref f_Desk_put_days)))
    (at_f_Desk_best : PySem.W.findIn K (.ref cDesk) "best" = some (some (.ref f_Desk_best)))
    (at_f_Desk_always : PySem.W.findIn K (.ref cDesk) "always" = some (some (.ref f_Desk_always)))
    (at_f_Desk_check : PySem.W.findIn K (.ref cDesk) "check" = some (some (.ref f_Desk_check)))
    (at_f_Desk_day : PySem.W.findIn K (.ref cDesk) "day" = some (some (.ref f_Desk_day)))
    (at_f_Desk_go : PySem.W.findIn K (.ref cDesk) "go" = some (some (.ref f_Desk_go)))
    (at_f_Desk_ends : PySem.W.findIn K (.ref cDesk) "ends" = some (some (.ref f_Desk_ends)))
    (in_CallReader : PySem.W.findIn K (.ref cCallReader) "__init__" = some (some (.ref f_CallReader_init)))
    (at_f_CallReader_is_done : PySem.W.findIn K (.ref cCallReader) "is_done" = some (some (.ref f_CallReader_is_done)))
    (at_f_CallReader_next_some : PySem.W.findIn K (.ref cCallReader) "next_some" = some (some (.ref f_CallReader_next_some)))
    (ei_Fault : PySem.W.findIn K (.ref cFault) "__init__" = some (some (.ref f_Fault_init)))
    (ei_Refused : PySem.W.findIn K (.ref cRefused) "__init__" = some (some (.ref f_Refused_init)))
    (lk_k_BLANKS : K.lookup k_BLANKS = some ⟨.type "tuple", dd_k_BLANKS, .seq #[.int 9 u_k_BLANKS_0, .int 10 u_k_BLANKS_1, .int 32 u_k_BLANKS_2] n_k_BLANKS, s_k_BLANKS⟩)
    (lk_k_WORDS : K.lookup k_WORDS = some ⟨.type "tuple", dd_k_WORDS, .seq #[.str "columns" u_k_WORDS_0, .str "row" u_k_WORDS_1, .str "ask" u_k_WORDS_2, .str "times" u_k_WORDS_3] n_k_WORDS, s_k_WORDS⟩)
    (lk_k_NUMBERS : K.lookup k_NUMBERS = some ⟨.type "tuple", dd_k_NUMBERS, .seq #[.int 0 u_k_NUMBERS_0, .int 0 u_k_NUMBERS_1, .int 0 u_k_NUMBERS_2, .int 1 u_k_NUMBERS_3, .int 1 u_k_NUMBERS_4, .int 1 u_k_NUMBERS_5, .int 2 u_k_NUMBERS_6, .int 2 u_k_NUMBERS_7, .int 2 u_k_NUMBERS_8] n_k_NUMBERS, s_k_NUMBERS⟩)
    (lk_k_ROWS : K.lookup k_ROWS = some ⟨.type "tuple", dd_k_ROWS, .seq #[.int 1 u_k_ROWS_0, .int 1 u_k_ROWS_1, .int 1 u_k_ROWS_2, .int 0 u_k_ROWS_3, .int 0 u_k_ROWS_4, .int 1 u_k_ROWS_5, .int 0 u_k_ROWS_6, .int 0 u_k_ROWS_7, .int 0 u_k_ROWS_8] n_k_ROWS, s_k_ROWS⟩)
    (xL_Fault : K.lookup cFault = some (excClassObj nm_Fault qq_Fault cFault N_Fault bs_Fault [.type "ValueError", .type "Exception", .type "BaseException", .type "object"] true sn_Fault sub_Fault ab_Fault col_Fault dd_Fault m0_Fault m1_Fault m2_Fault m3_Fault m5_Fault "ValueError.__new__"))
    (xL_Refused : K.lookup cRefused = some (excClassObj nm_Refused qq_Refused cRefused N_Refused bs_Refused [.type "ValueError", .type "Exception", .type "BaseException", .type "object"] true sn_Refused sub_Refused ab_Refused col_Refused dd_Refused m0_Refused m1_Refused m2_Refused m3_Refused m5_Refused "ValueError.__new__"))
    (l_Choice_init : K.lookup f_Choice_init = some ⟨oc_Choice_init, od_Choice_init, .func (PySem.W.fnOf "__init__" "Choice.__init__" (defArgs s_Choice_init) (defBody s_Choice_init) (defScope s_Choice_init) .none kV_Choice_init dc_Choice_init pm_Choice_init an_Choice_init cd_Choice_init ct_Choice_init), sl_Choice_init⟩)
    (l_Choice_put_candidates : K.lookup f_Choice_put_candidates = some ⟨oc_Choice_put_candidates, od_Choice_put_candidates, .func (PySem.W.fnOf "put_candidates" "Choice.put_candidates" (defArgs s_Choice_put_candidates) (defBody s_Choice_put_candidates) (defScope s_Choice_put_candidates) .none kV_Choice_put_candidates dc_Choice_put_candidates pm_Choice_put_candidates an_Choice_put_candidates cd_Choice_put_candidates ct_Choice_put_candidates), sl_Choice_put_candidates⟩)
    (l_Choice_put_days : K.lookup f_Choice_put_days = some ⟨oc_Choice_put_days, od_Choice_put_days, .func (PySem.W.fnOf "put_days" "Choice.put_days" (defArgs s_Choice_put_days) (defBody s_Choice_put_days) (defScope s_Choice_put_days) .none kV_Choice_put_days dc_Choice_put_days pm_Choice_put_days an_Choice_put_days cd_Choice_put_days ct_Choice_put_days), sl_Choice_put_days⟩)
    (l_Choice_count_sets : K.lookup f_Choice_count_sets = some ⟨oc_Choice_count_sets, od_Choice_count_sets, .func (PySem.W.fnOf "count_sets" "Choice.count_sets" (defArgs s_Choice_count_sets) (defBody s_Choice_count_sets) (defScope s_Choice_count_sets) .none kV_Choice_count_sets dc_Choice_count_sets pm_Choice_count_sets an_Choice_count_sets cd_Choice_count_sets ct_Choice_count_sets), sl_Choice_count_sets⟩)
    (l_Choice_room : K.lookup f_Choice_room = some ⟨oc_Choice_room, od_Choice_room, .func (PySem.W.fnOf "room" "Choice.room" (defArgs s_Choice_room) (defBody s_Choice_room) (defScope s_Choice_room) .none kV_Choice_room dc_Choice_room pm_Choice_room an_Choice_room cd_Choice_room ct_Choice_room), sl_Choice_room⟩)
    (l_Choice_fitting : K.lookup f_Choice_fitting = some ⟨oc_Choice_fitting, od_Choice_fitting, .func (PySem.W.fnOf "fitting" "Choice.fitting" (defArgs s_Choice_fitting) (defBody s_Choice_fitting) (defScope s_Choice_fitting) .none kV_Choice_fitting dc_Choice_fitting pm_Choice_fitting an_Choice_fitting cd_Choice_fitting ct_Choice_fitting), sl_Choice_fitting⟩)
    (l_Choice_cost : K.lookup f_Choice_cost = some ⟨oc_Choice_cost, od_Choice_cost, .func (PySem.W.fnOf "cost" "Choice.cost" (defArgs s_Choice_cost) (defBody s_Choice_cost) (defScope s_Choice_cost) .none kV_Choice_cost dc_Choice_cost pm_Choice_cost an_Choice_cost cd_Choice_cost ct_Choice_cost), sl_Choice_cost⟩)
    (l_Choice_going : K.lookup f_Choice_going = some ⟨oc_Choice_going, od_Choice_going, .func (PySem.W.fnOf "going" "Choice.going" (defArgs s_Choice_going) (defBody s_Choice_going) (defScope s_Choice_going) .none kV_Choice_going dc_Choice_going pm_Choice_going an_Choice_going cd_Choice_going ct_Choice_going), sl_Choice_going⟩)
    (l_Choice_day_cost : K.lookup f_Choice_day_cost = some ⟨oc_Choice_day_cost, od_Choice_day_cost, .func (PySem.W.fnOf "day_cost" "Choice.day_cost" (defArgs s_Choice_day_cost) (defBody s_Choice_day_cost) (defScope s_Choice_day_cost) .none kV_Choice_day_cost dc_Choice_day_cost pm_Choice_day_cost an_Choice_day_cost cd_Choice_day_cost ct_Choice_day_cost), sl_Choice_day_cost⟩)
    (l_Choice_plan_cost : K.lookup f_Choice_plan_cost = some ⟨oc_Choice_plan_cost, od_Choice_plan_cost, .func (PySem.W.fnOf "plan_cost" "Choice.plan_cost" (defArgs s_Choice_plan_cost) (defBody s_Choice_plan_cost) (defScope s_Choice_plan_cost) .none kV_Choice_plan_cost dc_Choice_plan_cost pm_Choice_plan_cost an_Choice_plan_cost cd_Choice_plan_cost ct_Choice_plan_cost), sl_Choice_plan_cost⟩)
    (l_Choice_rests : K.lookup f_Choice_rests = some ⟨oc_Choice_rests, od_Choice_rests, .func (PySem.W.fnOf "rests" "Choice.rests" (defArgs s_Choice_rests) (defBody s_Choice_rests) (defScope s_Choice_rests) .none kV_Choice_rests dc_Choice_rests pm_Choice_rests an_Choice_rests cd_Choice_rests ct_Choice_rests), sl_Choice_rests⟩)
    (l_Choice_best : K.lookup f_Choice_best = some ⟨oc_Choice_best, od_Choice_best, .func (PySem.W.fnOf "best" "Choice.best" (defArgs s_Choice_best) (defBody s_Choice_best) (defScope s_Choice_best) .none kV_Choice_best dc_Choice_best pm_Choice_best an_Choice_best cd_Choice_best ct_Choice_best), sl_Choice_best⟩)
    (l_Choice_same_always : K.lookup f_Choice_same_always = some ⟨oc_Choice_same_always, od_Choice_same_always, .func (PySem.W.fnOf "same_always" "Choice.same_always" (defArgs s_Choice_same_always) (defBody s_Choice_same_always) (defScope s_Choice_same_always) .none kV_Choice_same_always dc_Choice_same_always pm_Choice_same_always an_Choice_same_always cd_Choice_same_always ct_Choice_same_always), sl_Choice_same_always⟩)
    (l_greatest_divisor : K.lookup f_greatest_divisor = some ⟨oc_greatest_divisor, od_greatest_divisor, .func (PySem.W.fnOf "greatest_divisor" "greatest_divisor" (defArgs s_greatest_divisor) (defBody s_greatest_divisor) (defScope s_greatest_divisor) .none kV_greatest_divisor dc_greatest_divisor pm_greatest_divisor an_greatest_divisor cd_greatest_divisor ct_greatest_divisor), sl_greatest_divisor⟩)
    (l_fraction : K.lookup f_fraction = some ⟨oc_fraction, od_fraction, .func (PySem.W.fnOf "fraction" "fraction" (defArgs s_fraction) (defBody s_fraction) (defScope s_fraction) .none kV_fraction dc_fraction pm_fraction an_fraction cd_fraction ct_fraction), sl_fraction⟩)
    (l_Line_init : K.lookup f_Line_init = some ⟨oc_Line_init, od_Line_init, .func (PySem.W.fnOf "__init__" "Line.__init__" (defArgs s_Line_init) (defBody s_Line_init) (defScope s_Line_init) .none kV_Line_init dc_Line_init pm_Line_init an_Line_init cd_Line_init ct_Line_init), sl_Line_init⟩)
    (l_Line_key_at : K.lookup f_Line_key_at = some ⟨oc_Line_key_at, od_Line_key_at, .func (PySem.W.fnOf "key_at" "Line.key_at" (defArgs s_Line_key_at) (defBody s_Line_key_at) (defScope s_Line_key_at) .none kV_Line_key_at dc_Line_key_at pm_Line_key_at an_Line_key_at cd_Line_key_at ct_Line_key_at), sl_Line_key_at⟩)
    (l_lines_of : K.lookup f_lines_of = some ⟨oc_lines_of, od_lines_of, .func (PySem.W.fnOf "lines_of" "lines_of" (defArgs s_lines_of) (defBody s_lines_of) (defScope s_lines_of) .none kV_lines_of dc_lines_of pm_lines_of an_lines_of cd_lines_of ct_lines_of), sl_lines_of⟩)
    (l_meeting : K.lookup f_meeting = some ⟨oc_meeting, od_meeting, .func (PySem.W.fnOf "meeting" "meeting" (defArgs s_meeting) (defBody s_meeting) (defScope s_meeting) .none kV_meeting dc_meeting pm_meeting an_meeting cd_meeting ct_meeting), sl_meeting⟩)
    (l_is_less : K.lookup f_is_less = some ⟨oc_is_less, od_is_less, .func (PySem.W.fnOf "is_less" "is_less" (defArgs s_is_less) (defBody s_is_less) (defScope s_is_less) .none kV_is_less dc_is_less pm_is_less an_is_less cd_is_less ct_is_less), sl_is_less⟩)
    (l_piece_end : K.lookup f_piece_end = some ⟨oc_piece_end, od_piece_end, .func (PySem.W.fnOf "piece_end" "piece_end" (defArgs s_piece_end) (defBody s_piece_end) (defScope s_piece_end) .none kV_piece_end dc_piece_end pm_piece_end an_piece_end cd_piece_end ct_piece_end), sl_piece_end⟩)
    (l_pieces_of : K.lookup f_pieces_of = some ⟨oc_pieces_of, od_pieces_of, .func (PySem.W.fnOf "pieces_of" "pieces_of" (defArgs s_pieces_of) (defBody s_pieces_of) (defScope s_pieces_of) .none kV_pieces_of dc_pieces_of pm_pieces_of an_pieces_of cd_pieces_of ct_pieces_of), sl_pieces_of⟩)
    (l_Fault_init : K.lookup f_Fault_init = some ⟨oc_Fault_init, od_Fault_init, .func (PySem.W.fnOf "__init__" "Fault.__init__" (defArgs s_Fault_init) (defBody s_Fault_init) (defScope s_Fault_init) .none kV_Fault_init dc_Fault_init pm_Fault_init an_Fault_init cd_Fault_init ct_Fault_init), sl_Fault_init⟩)
    (l_Token_init : K.lookup f_Token_init = some ⟨oc_Token_init, od_Token_init, .func (PySem.W.fnOf "__init__" "Token.__init__" (defArgs s_Token_init) (defBody s_Token_init) (defScope s_Token_init) .none kV_Token_init dc_Token_init pm_Token_init an_Token_init cd_Token_init ct_Token_init), sl_Token_init⟩)
    (l_is_letter : K.lookup f_is_letter = some ⟨oc_is_letter, od_is_letter, .func (PySem.W.fnOf "is_letter" "is_letter" (defArgs s_is_letter) (defBody s_is_letter) (defScope s_is_letter) .none kV_is_letter dc_is_letter pm_is_letter an_is_letter cd_is_letter ct_is_letter), sl_is_letter⟩)
    (l_is_digit : K.lookup f_is_digit = some ⟨oc_is_digit, od_is_digit, .func (PySem.W.fnOf "is_digit" "is_digit" (defArgs s_is_digit) (defBody s_is_digit) (defScope s_is_digit) .none kV_is_digit dc_is_digit pm_is_digit an_is_digit cd_is_digit ct_is_digit), sl_is_digit⟩)
    (l_text_of : K.lookup f_text_of = some ⟨oc_text_of, od_text_of, .func (PySem.W.fnOf "text_of" "text_of" (defArgs s_text_of) (defBody s_text_of) (defScope s_text_of) .none kV_text_of dc_text_of pm_text_of an_text_of cd_text_of ct_text_of), sl_text_of⟩)
    (l_word_token : K.lookup f_word_token = some ⟨oc_word_token, od_word_token, .func (PySem.W.fnOf "word_token" "word_token" (defArgs s_word_token) (defBody s_word_token) (defScope s_word_token) .none kV_word_token dc_word_token pm_word_token an_word_token cd_word_token ct_word_token), sl_word_token⟩)
    (l_number_token : K.lookup f_number_token = some ⟨oc_number_token, od_number_token, .func (PySem.W.fnOf "number_token" "number_token" (defArgs s_number_token) (defBody s_number_token) (defScope s_number_token) .none kV_number_token dc_number_token pm_number_token an_number_token cd_number_token ct_number_token), sl_number_token⟩)
    (l_sign_token : K.lookup f_sign_token = some ⟨oc_sign_token, od_sign_token, .func (PySem.W.fnOf "sign_token" "sign_token" (defArgs s_sign_token) (defBody s_sign_token) (defScope s_sign_token) .none kV_sign_token dc_sign_token pm_sign_token an_sign_token cd_sign_token ct_sign_token), sl_sign_token⟩)
    (l_remark_end : K.lookup f_remark_end = some ⟨oc_remark_end, od_remark_end, .func (PySem.W.fnOf "remark_end" "remark_end" (defArgs s_remark_end) (defBody s_remark_end) (defScope s_remark_end) .none kV_remark_end dc_remark_end pm_remark_end an_remark_end cd_remark_end ct_remark_end), sl_remark_end⟩)
    (l_word_end : K.lookup f_word_end = some ⟨oc_word_end, od_word_end, .func (PySem.W.fnOf "word_end" "word_end" (defArgs s_word_end) (defBody s_word_end) (defScope s_word_end) .none kV_word_end dc_word_end pm_word_end an_word_end cd_word_end ct_word_end), sl_word_end⟩)
    (l_number_end : K.lookup f_number_end = some ⟨oc_number_end, od_number_end, .func (PySem.W.fnOf "number_end" "number_end" (defArgs s_number_end) (defBody s_number_end) (defScope s_number_end) .none kV_number_end dc_number_end pm_number_end an_number_end cd_number_end ct_number_end), sl_number_end⟩)
    (l_tokens_of : K.lookup f_tokens_of = some ⟨oc_tokens_of, od_tokens_of, .func (PySem.W.fnOf "tokens_of" "tokens_of" (defArgs s_tokens_of) (defBody s_tokens_of) (defScope s_tokens_of) .none kV_tokens_of dc_tokens_of pm_tokens_of an_tokens_of cd_tokens_of ct_tokens_of), sl_tokens_of⟩)
    (l_Question_init : K.lookup f_Question_init = some ⟨oc_Question_init, od_Question_init, .func (PySem.W.fnOf "__init__" "Question.__init__" (defArgs s_Question_init) (defBody s_Question_init) (defScope s_Question_init) .none kV_Question_init dc_Question_init pm_Question_init an_Question_init cd_Question_init ct_Question_init), sl_Question_init⟩)
    (l_Table_init : K.lookup f_Table_init = some ⟨oc_Table_init, od_Table_init, .func (PySem.W.fnOf "__init__" "Table.__init__" (defArgs s_Table_init) (defBody s_Table_init) (defScope s_Table_init) .none kV_Table_init dc_Table_init pm_Table_init an_Table_init cd_Table_init ct_Table_init), sl_Table_init⟩)
    (l_Table_size : K.lookup f_Table_size = some ⟨oc_Table_size, od_Table_size, .func (PySem.W.fnOf "size" "Table.size" (defArgs s_Table_size) (defBody s_Table_size) (defScope s_Table_size) .none kV_Table_size dc_Table_size pm_Table_size an_Table_size cd_Table_size ct_Table_size), sl_Table_size⟩)
    (l_Reader_init : K.lookup f_Reader_init = some ⟨oc_Reader_init, od_Reader_init, .func (PySem.W.fnOf "__init__" "Reader.__init__" (defArgs s_Reader_init) (defBody s_Reader_init) (defScope s_Reader_init) .none kV_Reader_init dc_Reader_init pm_Reader_init an_Reader_init cd_Reader_init ct_Reader_init), sl_Reader_init⟩)
    (l_Reader_here : K.lookup f_Reader_here = some ⟨oc_Reader_here, od_Reader_here, .func (PySem.W.fnOf "here" "Reader.here" (defArgs s_Reader_here) (defBody s_Reader_here) (defScope s_Reader_here) .none kV_Reader_here dc_Reader_here pm_Reader_here an_Reader_here cd_Reader_here ct_Reader_here), sl_Reader_here⟩)
    (l_Reader_fail_if : K.lookup f_Reader_fail_if = some ⟨oc_Reader_fail_if, od_Reader_fail_if, .func (PySem.W.fnOf "fail_if" "Reader.fail_if" (defArgs s_Reader_fail_if) (defBody s_Reader_fail_if) (defScope s_Reader_fail_if) .none kV_Reader_fail_if dc_Reader_fail_if pm_Reader_fail_if an_Reader_fail_if cd_Reader_fail_if ct_Reader_fail_if), sl_Reader_fail_if⟩)
    (l_Reader_is_next : K.lookup f_Reader_is_next = some ⟨oc_Reader_is_next, od_Reader_is_next, .func (PySem.W.fnOf "is_next" "Reader.is_next" (defArgs s_Reader_is_next) (defBody s_Reader_is_next) (defScope s_Reader_is_next) .none kV_Reader_is_next dc_Reader_is_next pm_Reader_is_next an_Reader_is_next cd_Reader_is_next ct_Reader_is_next), sl_Reader_is_next⟩)
    (l_Reader_look_for : K.lookup f_Reader_look_for = some ⟨oc_Reader_look_for, od_Reader_look_for, .func (PySem.W.fnOf "look_for" "Reader.look_for" (defArgs s_Reader_look_for) (defBody s_Reader_look_for) (defScope s_Reader_look_for) .none kV_Reader_look_for dc_Reader_look_for pm_Reader_look_for an_Reader_look_for cd_Reader_look_for ct_Reader_look_for), sl_Reader_look_for⟩)
    (l_Reader_want : K.lookup f_Reader_want = some ⟨oc_Reader_want, od_Reader_want, .func (PySem.W.fnOf "want" "Reader.want" (defArgs s_Reader_want) (defBody s_Reader_want) (defScope s_Reader_want) .none kV_Reader_want dc_Reader_want pm_Reader_want an_Reader_want cd_Reader_want ct_Reader_want), sl_Reader_want⟩)
    (l_Reader_read_number : K.lookup f_Reader_read_number = some ⟨oc_Reader_read_number, od_Reader_read_number, .func (PySem.W.fnOf "read_number" "Reader.read_number" (defArgs s_Reader_read_number) (defBody s_Reader_read_number) (defScope s_Reader_read_number) .none kV_Reader_read_number dc_Reader_read_number pm_Reader_read_number an_Reader_read_number cd_Reader_read_number ct_Reader_read_number), sl_Reader_read_number⟩)
    (l_Reader_read_column : K.lookup f_Reader_read_column = some ⟨oc_Reader_read_column, od_Reader_read_column, .func (PySem.W.fnOf "read_column" "Reader.read_column" (defArgs s_Reader_read_column) (defBody s_Reader_read_column) (defScope s_Reader_read_column) .none kV_Reader_read_column dc_Reader_read_column pm_Reader_read_column an_Reader_read_column cd_Reader_read_column ct_Reader_read_column), sl_Reader_read_column⟩)
    (l_Reader_read_columns : K.lookup f_Reader_read_columns = some ⟨oc_Reader_read_columns, od_Reader_read_columns, .func (PySem.W.fnOf "read_columns" "Reader.read_columns" (defArgs s_Reader_read_columns) (defBody s_Reader_read_columns) (defScope s_Reader_read_columns) .none kV_Reader_read_columns dc_Reader_read_columns pm_Reader_read_columns an_Reader_read_columns cd_Reader_read_columns ct_Reader_read_columns), sl_Reader_read_columns⟩)
    (l_Reader_read_row : K.lookup f_Reader_read_row = some ⟨oc_Reader_read_row, od_Reader_read_row, .func (PySem.W.fnOf "read_row" "Reader.read_row" (defArgs s_Reader_read_row) (defBody s_Reader_read_row) (defScope s_Reader_read_row) .none kV_Reader_read_row dc_Reader_read_row pm_Reader_read_row an_Reader_read_row cd_Reader_read_row ct_Reader_read_row), sl_Reader_read_row⟩)
    (l_Reader_read_name : K.lookup f_Reader_read_name = some ⟨oc_Reader_read_name, od_Reader_read_name, .func (PySem.W.fnOf "read_name" "Reader.read_name" (defArgs s_Reader_read_name) (defBody s_Reader_read_name) (defScope s_Reader_read_name) .none kV_Reader_read_name dc_Reader_read_name pm_Reader_read_name an_Reader_read_name cd_Reader_read_name ct_Reader_read_name), sl_Reader_read_name⟩)
    (l_Reader_read_question : K.lookup f_Reader_read_question = some ⟨oc_Reader_read_question, od_Reader_read_question, .func (PySem.W.fnOf "read_question" "Reader.read_question" (defArgs s_Reader_read_question) (defBody s_Reader_read_question) (defScope s_Reader_read_question) .none kV_Reader_read_question dc_Reader_read_question pm_Reader_read_question an_Reader_read_question cd_Reader_read_question ct_Reader_read_question), sl_Reader_read_question⟩)
    (l_Reader_read : K.lookup f_Reader_read = some ⟨oc_Reader_read, od_Reader_read, .func (PySem.W.fnOf "read" "Reader.read" (defArgs s_Reader_read) (defBody s_Reader_read) (defScope s_Reader_read) .none kV_Reader_read dc_Reader_read pm_Reader_read an_Reader_read cd_Reader_read ct_Reader_read), sl_Reader_read⟩)
    (l_table_of : K.lookup f_table_of = some ⟨oc_table_of, od_table_of, .func (PySem.W.fnOf "table_of" "table_of" (defArgs s_table_of) (defBody s_table_of) (defScope s_table_of) .none kV_table_of dc_table_of pm_table_of an_table_of cd_table_of ct_table_of), sl_table_of⟩)
    (l_Refused_init : K.lookup f_Refused_init = some ⟨oc_Refused_init, od_Refused_init, .func (PySem.W.fnOf "__init__" "Refused.__init__" (defArgs s_Refused_init) (defBody s_Refused_init) (defScope s_Refused_init) .none kV_Refused_init dc_Refused_init pm_Refused_init an_Refused_init cd_Refused_init ct_Refused_init), sl_Refused_init⟩)
    (l_refuse_if : K.lookup f_refuse_if = some ⟨oc_refuse_if, od_refuse_if, .func (PySem.W.fnOf "refuse_if" "refuse_if" (defArgs s_refuse_if) (defBody s_refuse_if) (defScope s_refuse_if) .none kV_refuse_if dc_refuse_if pm_refuse_if an_refuse_if cd_refuse_if ct_refuse_if), sl_refuse_if⟩)
    (l_Desk_init : K.lookup f_Desk_init = some ⟨oc_Desk_init, od_Desk_init, .func (PySem.W.fnOf "__init__" "Desk.__init__" (defArgs s_Desk_init) (defBody s_Desk_init) (defScope s_Desk_init) .none kV_Desk_init dc_Desk_init pm_Desk_init an_Desk_init cd_Desk_init ct_Desk_init), sl_Desk_init⟩)
    (l_Desk_load : K.lookup f_Desk_load = some ⟨oc_Desk_load, od_Desk_load, .func (PySem.W.fnOf "load" "Desk.load" (defArgs s_Desk_load) (defBody s_Desk_load) (defScope s_Desk_load) .none kV_Desk_load dc_Desk_load pm_Desk_load an_Desk_load cd_Desk_load ct_Desk_load), sl_Desk_load⟩)
    (l_Desk_look_at_room : K.lookup f_Desk_look_at_room = some ⟨oc_Desk_look_at_room, od_Desk_look_at_room, .func (PySem.W.fnOf "look_at_room" "Desk.look_at_room" (defArgs s_Desk_look_at_room) (defBody s_Desk_look_at_room) (defScope s_Desk_look_at_room) .none kV_Desk_look_at_room dc_Desk_look_at_room pm_Desk_look_at_room an_Desk_look_at_room cd_Desk_look_at_room ct_Desk_look_at_room), sl_Desk_look_at_room⟩)
    (l_Desk_look_at_set : K.lookup f_Desk_look_at_set = some ⟨oc_Desk_look_at_set, od_Desk_look_at_set, .func (PySem.W.fnOf "look_at_set" "Desk.look_at_set" (defArgs s_Desk_look_at_set) (defBody s_Desk_look_at_set) (defScope s_Desk_look_at_set) .none kV_Desk_look_at_set dc_Desk_look_at_set pm_Desk_look_at_set an_Desk_look_at_set cd_Desk_look_at_set ct_Desk_look_at_set), sl_Desk_look_at_set⟩)
    (l_Desk_cands : K.lookup f_Desk_cands = some ⟨oc_Desk_cands, od_Desk_cands, .func (PySem.W.fnOf "cands" "Desk.cands" (defArgs s_Desk_cands) (defBody s_Desk_cands) (defScope s_Desk_cands) .none kV_Desk_cands dc_Desk_cands pm_Desk_cands an_Desk_cands cd_Desk_cands ct_Desk_cands), sl_Desk_cands⟩)
    (l_Desk_put_days : K.lookup f_Desk_put_days = some ⟨oc_Desk_put_days, od_Desk_put_days, .func (PySem.W.fnOf "put_days" "Desk.put_days" (defArgs s_Desk_put_days) (defBody s_Desk_put_days) (defScope s_Desk_put_days) .none kV_Desk_put_days dc_Desk_put_days pm_Desk_put_days an_Desk_put_days cd_Desk_put_days ct_Desk_put_days), sl_Desk_put_days⟩)
    (l_Desk_best : K.lookup f_Desk_best = some ⟨oc_Desk_best, od_Desk_best, .func (PySem.W.fnOf "best" "Desk.best" (defArgs s_Desk_best) (defBody s_Desk_best) (defScope s_Desk_best) .none kV_Desk_best dc_Desk_best pm_Desk_best an_Desk_best cd_Desk_best ct_Desk_best), sl_Desk_best⟩)
    (l_Desk_always : K.lookup f_Desk_always = some ⟨oc_Desk_always, od_Desk_always, .func (PySem.W.fnOf "always" "Desk.always" (defArgs s_Desk_always) (defBody s_Desk_always) (defScope s_Desk_always) .none kV_Desk_always dc_Desk_always pm_Desk_always an_Desk_always cd_Desk_always ct_Desk_always), sl_Desk_always⟩)
    (l_Desk_check : K.lookup f_Desk_check = some ⟨oc_Desk_check, od_Desk_check, .func (PySem.W.fnOf "check" "Desk.check" (defArgs s_Desk_check) (defBody s_Desk_check) (defScope s_Desk_check) .none kV_Desk_check dc_Desk_check pm_Desk_check an_Desk_check cd_Desk_check ct_Desk_check), sl_Desk_check⟩)
    (l_Desk_day : K.lookup f_Desk_day = some ⟨oc_Desk_day, od_Desk_day, .func (PySem.W.fnOf "day" "Desk.day" (defArgs s_Desk_day) (defBody s_Desk_day) (defScope s_Desk_day) .none kV_Desk_day dc_Desk_day pm_Desk_day an_Desk_day cd_Desk_day ct_Desk_day), sl_Desk_day⟩)
    (l_Desk_go : K.lookup f_Desk_go = some ⟨oc_Desk_go, od_Desk_go, .func (PySem.W.fnOf "go" "Desk.go" (defArgs s_Desk_go) (defBody s_Desk_go) (defScope s_Desk_go) .none kV_Desk_go dc_Desk_go pm_Desk_go an_Desk_go cd_Desk_go ct_Desk_go), sl_Desk_go⟩)
    (l_Desk_ends : K.lookup f_Desk_ends = some ⟨oc_Desk_ends, od_Desk_ends, .func (PySem.W.fnOf "ends" "Desk.ends" (defArgs s_Desk_ends) (defBody s_Desk_ends) (defScope s_Desk_ends) .none kV_Desk_ends dc_Desk_ends pm_Desk_ends an_Desk_ends cd_Desk_ends ct_Desk_ends), sl_Desk_ends⟩)
    (l_call_told : K.lookup f_call_told = some ⟨oc_call_told, od_call_told, .func (PySem.W.fnOf "call_told" "call_told" (defArgs s_call_told) (defBody s_call_told) (defScope s_call_told) .none kV_call_told dc_call_told pm_call_told an_call_told cd_call_told ct_call_told), sl_call_told⟩)
    (l_answer_of : K.lookup f_answer_of = some ⟨oc_answer_of, od_answer_of, .func (PySem.W.fnOf "answer_of" "answer_of" (defArgs s_answer_of) (defBody s_answer_of) (defScope s_answer_of) .none kV_answer_of dc_answer_of pm_answer_of an_answer_of cd_answer_of ct_answer_of), sl_answer_of⟩)
    (l_CallReader_init : K.lookup f_CallReader_init = some ⟨oc_CallReader_init, od_CallReader_init, .func (PySem.W.fnOf "__init__" "CallReader.__init__" (defArgs s_CallReader_init) (defBody s_CallReader_init) (defScope s_CallReader_init) .none kV_CallReader_init dc_CallReader_init pm_CallReader_init an_CallReader_init cd_CallReader_init ct_CallReader_init), sl_CallReader_init⟩)
    (l_CallReader_is_done : K.lookup f_CallReader_is_done = some ⟨oc_CallReader_is_done, od_CallReader_is_done, .func (PySem.W.fnOf "is_done" "CallReader.is_done" (defArgs s_CallReader_is_done) (defBody s_CallReader_is_done) (defScope s_CallReader_is_done) .none kV_CallReader_is_done dc_CallReader_is_done pm_CallReader_is_done an_CallReader_is_done cd_CallReader_is_done ct_CallReader_is_done), sl_CallReader_is_done⟩)
    (l_CallReader_next_some : K.lookup f_CallReader_next_some = some ⟨oc_CallReader_next_some, od_CallReader_next_some, .func (PySem.W.fnOf "next_some" "CallReader.next_some" (defArgs s_CallReader_next_some) (defBody s_CallReader_next_some) (defScope s_CallReader_next_some) .none kV_CallReader_next_some dc_CallReader_next_some pm_CallReader_next_some an_CallReader_next_some cd_CallReader_next_some ct_CallReader_next_some), sl_CallReader_next_some⟩)
    (l_answers : K.lookup f_answers = some ⟨oc_answers, od_answers, .func (PySem.W.fnOf "answers" "answers" (defArgs s_answers) (defBody s_answers) (defScope s_answers) .none kV_answers dc_answers pm_answers an_answers cd_answers ct_answers), sl_answers⟩)
    (gm_TIMES_END : PySem.W.nsIn K mainGlobals "TIMES_END" = some (some (.int 100 t_TIMES_END)))
    (gm_BAD_TOKEN : PySem.W.nsIn K mainGlobals "BAD_TOKEN" = some (some (.int 2 t_BAD_TOKEN)))
    (gm_MOST_NAME : PySem.W.nsIn K mainGlobals "MOST_NAME" = some (some (.int 16 t_MOST_NAME)))
    (gm_MOST_NUMBER : PySem.W.nsIn K mainGlobals "MOST_NUMBER" = some (some (.int 1000000000 t_MOST_NUMBER)))
    (gm_REMARK : PySem.W.nsIn K mainGlobals "REMARK" = some (some (.int 35 t_REMARK)))
    (gm_ROW_END : PySem.W.nsIn K mainGlobals "ROW_END" = some (some (.int 10 t_ROW_END)))
    (gm_SIGNS : PySem.W.nsIn K mainGlobals "SIGNS" = some (some (.str ",:;-" t_SIGNS)))
    (gm_CAPITALS : PySem.W.nsIn K mainGlobals "CAPITALS" = some (some (.str "ABCDEFGHIJKLMNOPQRSTUVWXYZ" t_CAPITALS)))
    (gm_SMALLS : PySem.W.nsIn K mainGlobals "SMALLS" = some (some (.str "abcdefghijklmnopqrstuvwxyz" t_SMALLS)))
    (gm_DIGITS : PySem.W.nsIn K mainGlobals "DIGITS" = some (some (.str "0123456789" t_DIGITS)))
    (gm_TOO_LONG : PySem.W.nsIn K mainGlobals "TOO_LONG" = some (some (.int 1 t_TOO_LONG)))
    (gm_NOT_HERE : PySem.W.nsIn K mainGlobals "NOT_HERE" = some (some (.int 3 t_NOT_HERE)))
    (gm_TOO_MANY : PySem.W.nsIn K mainGlobals "TOO_MANY" = some (some (.int 4 t_TOO_MANY)))
    (gm_COLUMN_TWICE : PySem.W.nsIn K mainGlobals "COLUMN_TWICE" = some (some (.int 5 t_COLUMN_TWICE)))
    (gm_NAME_TWICE : PySem.W.nsIn K mainGlobals "NAME_TWICE" = some (some (.int 6 t_NAME_TWICE)))
    (gm_OUT_OF_RANGE : PySem.W.nsIn K mainGlobals "OUT_OF_RANGE" = some (some (.int 7 t_OUT_OF_RANGE)))
    (gm_NO_COLUMN : PySem.W.nsIn K mainGlobals "NO_COLUMN" = some (some (.int 8 t_NO_COLUMN)))
    (gm_MOST_BYTES : PySem.W.nsIn K mainGlobals "MOST_BYTES" = some (some (.int 4096 t_MOST_BYTES)))
    (gm_MOST_COLUMNS : PySem.W.nsIn K mainGlobals "MOST_COLUMNS" = some (some (.int 4 t_MOST_COLUMNS)))
    (gm_MOST_ROWS : PySem.W.nsIn K mainGlobals "MOST_ROWS" = some (some (.int 16 t_MOST_ROWS)))
    (gm_MOST_QUESTIONS : PySem.W.nsIn K mainGlobals "MOST_QUESTIONS" = some (some (.int 8 t_MOST_QUESTIONS)))
    (gm_MOST_VALUE : PySem.W.nsIn K mainGlobals "MOST_VALUE" = some (some (.int 9 t_MOST_VALUE)))
    (gm_MOST_SUMMED : PySem.W.nsIn K mainGlobals "MOST_SUMMED" = some (some (.int 1000 t_MOST_SUMMED)))
    (gm_MOST_TIMES : PySem.W.nsIn K mainGlobals "MOST_TIMES" = some (some (.int 99 t_MOST_TIMES)))
    (gm_LOAD : PySem.W.nsIn K mainGlobals "LOAD" = some (some (.int 0 t_LOAD)))
    (gm_CANDS : PySem.W.nsIn K mainGlobals "CANDS" = some (some (.int 1 t_CANDS)))
    (gm_DAYS : PySem.W.nsIn K mainGlobals "DAYS" = some (some (.int 2 t_DAYS)))
    (gm_BEST : PySem.W.nsIn K mainGlobals "BEST" = some (some (.int 3 t_BEST)))
    (gm_ALWAYS : PySem.W.nsIn K mainGlobals "ALWAYS" = some (some (.int 4 t_ALWAYS)))
    (gm_CHECK : PySem.W.nsIn K mainGlobals "CHECK" = some (some (.int 5 t_CHECK)))
    (gm_DAY : PySem.W.nsIn K mainGlobals "DAY" = some (some (.int 6 t_DAY)))
    (gm_GO : PySem.W.nsIn K mainGlobals "GO" = some (some (.int 7 t_GO)))
    (gm_MOST_CANDIDATES : PySem.W.nsIn K mainGlobals "MOST_CANDIDATES" = some (some (.int 4 t_MOST_CANDIDATES)))
    (gm_MOST_DAYS : PySem.W.nsIn K mainGlobals "MOST_DAYS" = some (some (.int 8 t_MOST_DAYS)))
    (gm_MOST_OFTEN : PySem.W.nsIn K mainGlobals "MOST_OFTEN" = some (some (.int 99 t_MOST_OFTEN)))
    (gm_MOST_ROOM : PySem.W.nsIn K mainGlobals "MOST_ROOM" = some (some (.int 1000 t_MOST_ROOM)))
    (gb_len : PySem.W.nsIn K mainGlobals "len" = some none)
    (gb_sum : PySem.W.nsIn K mainGlobals "sum" = some none)
    (gb_min : PySem.W.nsIn K mainGlobals "min" = some none)
    (gb_dict : PySem.W.nsIn K mainGlobals "dict" = some none)
    (gb_list : PySem.W.nsIn K mainGlobals "list" = some none)
    (gb_ord : PySem.W.nsIn K mainGlobals "ord" = some none)
    (gb_enumerate : PySem.W.nsIn K mainGlobals "enumerate" = some none)
    (gb_zip : PySem.W.nsIn K mainGlobals "zip" = some none)
    (gb_range : PySem.W.nsIn K mainGlobals "range" = some none)
    (gb_set : PySem.W.nsIn K mainGlobals "set" = some none)
    (pg_Choice : PySem.W.plainGet K cChoice Str.empty = true)
    (hd_Choice : PySem.W.hasDictIn K cChoice = true)
    (po_Choice : PySem.W.plainOver K cChoice = true)
    (sa_Choice : PySem.W.findIn K (.ref cChoice) "__setattr__" = some (some (.builtin "object.__setattr__")))
    (mkk_Choice : PySem.W.makesIn K cChoice = true)
    (fni_Choice : PySem.W.isFn K (.ref f_Choice_init) = true)
    (kc_Choice : PySem.W.keepIn K (.ref cChoice) = true)
    (nn_Choice_table : PySem.W.findIn K (.ref cChoice) "table" = some none)
    (nn_Choice_candidates : PySem.W.findIn K (.ref cChoice) "candidates" = some none)
    (nn_Choice_sizes : PySem.W.findIn K (.ref cChoice) "sizes" = some none)
    (nn_Choice_days : PySem.W.findIn K (.ref cChoice) "days" = some none)
    (fn_f_Choice_put_candidates : PySem.W.isFn K (.ref f_Choice_put_candidates) = true)
    (fn_f_Choice_put_days : PySem.W.isFn K (.ref f_Choice_put_days) = true)
    (fn_f_Choice_count_sets : PySem.W.isFn K (.ref f_Choice_count_sets) = true)
    (fn_f_Choice_room : PySem.W.isFn K (.ref f_Choice_room) = true)
    (fn_f_Choice_fitting : PySem.W.isFn K (.ref f_Choice_fitting) = true)
    (fn_f_Choice_cost : PySem.W.isFn K (.ref f_Choice_cost) = true)
    (fn_f_Choice_going : PySem.W.isFn K (.ref f_Choice_going) = true)
    (fn_f_Choice_day_cost : PySem.W.isFn K (.ref f_Choice_day_cost) = true)
    (fn_f_Choice_plan_cost : PySem.W.isFn K (.ref f_Choice_plan_cost) = true)
    (fn_f_Choice_rests : PySem.W.isFn K (.ref f_Choice_rests) = true)
    (fn_f_Choice_best : PySem.W.isFn K (.ref f_Choice_best) = true)
    (fn_f_Choice_same_always : PySem.W.isFn K (.ref f_Choice_same_always) = true)
    (pg_Line : PySem.W.plainGet K cLine Str.empty = true)
    (hd_Line : PySem.W.hasDictIn K cLine = true)
    (po_Line : PySem.W.plainOver K cLine = true)
    (sa_Line : PySem.W.findIn K (.ref cLine) "__setattr__" = some (some (.builtin "object.__setattr__")))
    (mkk_Line : PySem.W.makesIn K cLine = true)
    (fni_Line : PySem.W.isFn K (.ref f_Line_init) = true)
    (kc_Line : PySem.W.keepIn K (.ref cLine) = true)
    (nn_Line_number : PySem.W.findIn K (.ref cLine) "number" = some none)
    (nn_Line_begin : PySem.W.findIn K (.ref cLine) "begin" = some none)
    (nn_Line_slope : PySem.W.findIn K (.ref cLine) "slope" = some none)
    (fn_f_Line_key_at : PySem.W.isFn K (.ref f_Line_key_at) = true)
    (pg_Token : PySem.W.plainGet K cToken Str.empty = true)
    (hd_Token : PySem.W.hasDictIn K cToken = true)
    (po_Token : PySem.W.plainOver K cToken = true)
    (sa_Token : PySem.W.findIn K (.ref cToken) "__setattr__" = some (some (.builtin "object.__setattr__")))
    (mkk_Token : PySem.W.makesIn K cToken = true)
    (fni_Token : PySem.W.isFn K (.ref f_Token_init) = true)
    (kc_Token : PySem.W.keepIn K (.ref cToken) = true)
    (nn_Token_sort_told : PySem.W.findIn K (.ref cToken) "sort_told" = some none)
    (nn_Token_text : PySem.W.findIn K (.ref cToken) "text" = some none)
    (nn_Token_number : PySem.W.findIn K (.ref cToken) "number" = some none)
    (nn_Token_place : PySem.W.findIn K (.ref cToken) "place" = some none)
    (pg_Question : PySem.W.plainGet K cQuestion Str.empty = true)
    (hd_Question : PySem.W.hasDictIn K cQuestion = true)
    (po_Question : PySem.W.plainOver K cQuestion = true)
    (sa_Question : PySem.W.findIn K (.ref cQuestion) "__setattr__" = some (some (.builtin "object.__setattr__")))
    (mkk_Question : PySem.W.makesIn K cQuestion = true)
    (fni_Question : PySem.W.isFn K (.ref f_Question_init) = true)
    (kc_Question : PySem.W.keepIn K (.ref cQuestion) = true)
    (nn_Question_grouping : PySem.W.findIn K (.ref cQuestion) "grouping" = some none)
    (nn_Question_often : PySem.W.findIn K (.ref cQuestion) "often" = some none)
    (pg_Table : PySem.W.plainGet K cTable Str.empty = true)
    (hd_Table : PySem.W.hasDictIn K cTable = true)
    (po_Table : PySem.W.plainOver K cTable = true)
    (sa_Table : PySem.W.findIn K (.ref cTable) "__setattr__" = some (some (.builtin "object.__setattr__")))
    (mkk_Table : PySem.W.makesIn K cTable = true)
    (fni_Table : PySem.W.isFn K (.ref f_Table_init) = true)
    (kc_Table : PySem.W.keepIn K (.ref cTable) = true)
    (nn_Table_columns : PySem.W.findIn K (.ref cTable) "columns" = some none)
    (nn_Table_rows : PySem.W.findIn K (.ref cTable) "rows" = some none)
    (nn_Table_questions : PySem.W.findIn K (.ref cTable) "questions" = some none)
    (fn_f_Table_size : PySem.W.isFn K (.ref f_Table_size) = true)
    (pg_Reader : PySem.W.plainGet K cReader Str.empty = true)
    (hd_Reader : PySem.W.hasDictIn K cReader = true)
    (po_Reader : PySem.W.plainOver K cReader = true)
    (sa_Reader : PySem.W.findIn K (.ref cReader) "__setattr__" = some (some (.builtin "object.__setattr__")))
    (mkk_Reader : PySem.W.makesIn K cReader = true)
    (fni_Reader : PySem.W.isFn K (.ref f_Reader_init) = true)
    (kc_Reader : PySem.W.keepIn K (.ref cReader) = true)
    (nn_Reader_tokens : PySem.W.findIn K (.ref cReader) "tokens" = some none)
    (nn_Reader_at : PySem.W.findIn K (.ref cReader) "at" = some none)
    (nn_Reader_table : PySem.W.findIn K (.ref cReader) "table" = some none)
    (fn_f_Reader_here : PySem.W.isFn K (.ref f_Reader_here) = true)
    (fn_f_Reader_fail_if : PySem.W.isFn K (.ref f_Reader_fail_if) = true)
    (fn_f_Reader_is_next : PySem.W.isFn K (.ref f_Reader_is_next) = true)
    (fn_f_Reader_look_for : PySem.W.isFn K (.ref f_Reader_look_for) = true)
    (fn_f_Reader_want : PySem.W.isFn K (.ref f_Reader_want) = true)
    (fn_f_Reader_read_number : PySem.W.isFn K (.ref f_Reader_read_number) = true)
    (fn_f_Reader_read_column : PySem.W.isFn K (.ref f_Reader_read_column) = true)
    (fn_f_Reader_read_columns : PySem.W.isFn K (.ref f_Reader_read_columns) = true)
    (fn_f_Reader_read_row : PySem.W.isFn K (.ref f_Reader_read_row) = true)
    (fn_f_Reader_read_name : PySem.W.isFn K (.ref f_Reader_read_name) = true)
    (fn_f_Reader_read_question : PySem.W.isFn K (.ref f_Reader_read_question) = true)
    (fn_f_Reader_read : PySem.W.isFn K (.ref f_Reader_read) = true)
    (pg_Desk : PySem.W.plainGet K cDesk Str.empty = true)
    (hd_Desk : PySem.W.hasDictIn K cDesk = true)
    (po_Desk : PySem.W.plainOver K cDesk = true)
    (sa_Desk : PySem.W.findIn K (.ref cDesk) "__setattr__" = some (some (.builtin "object.__setattr__")))
    (mkk_Desk : PySem.W.makesIn K cDesk = true)
    (fni_Desk : PySem.W.isFn K (.ref f_Desk_init) = true)
    (kc_Desk : PySem.W.keepIn K (.ref cDesk) = true)
    (nn_Desk_held : PySem.W.findIn K (.ref cDesk) "held" = some none)
    (fn_f_Desk_load : PySem.W.isFn K (.ref f_Desk_load) = true)
    (fn_f_Desk_look_at_room : PySem.W.isFn K (.ref f_Desk_look_at_room) = true)
    (fn_f_Desk_look_at_set : PySem.W.isFn K (.ref f_Desk_look_at_set) = true)
    (fn_f_Desk_cands : PySem.W.isFn K (.ref f_Desk_cands) = true)
    (fn_f_Desk_put_days : PySem.W.isFn K (.ref f_Desk_put_days) = true)
    (fn_f_Desk_best : PySem.W.isFn K (.ref f_Desk_best) = true)
    (fn_f_Desk_always : PySem.W.isFn K (.ref f_Desk_always) = true)
    (fn_f_Desk_check : PySem.W.isFn K (.ref f_Desk_check) = true)
    (fn_f_Desk_day : PySem.W.isFn K (.ref f_Desk_day) = true)
    (fn_f_Desk_go : PySem.W.isFn K (.ref f_Desk_go) = true)
    (fn_f_Desk_ends : PySem.W.isFn K (.ref f_Desk_ends) = true)
    (pg_CallReader : PySem.W.plainGet K cCallReader Str.empty = true)
    (hd_CallReader : PySem.W.hasDictIn K cCallReader = true)
    (po_CallReader : PySem.W.plainOver K cCallReader = true)
    (sa_CallReader : PySem.W.findIn K (.ref cCallReader) "__setattr__" = some (some (.builtin "object.__setattr__")))
    (mkk_CallReader : PySem.W.makesIn K cCallReader = true)
    (fni_CallReader : PySem.W.isFn K (.ref f_CallReader_init) = true)
    (kc_CallReader : PySem.W.keepIn K (.ref cCallReader) = true)
    (nn_CallReader_calls : PySem.W.findIn K (.ref cCallReader) "calls" = some none)
    (nn_CallReader_at : PySem.W.findIn K (.ref cCallReader) "at" = some none)
    (fn_f_CallReader_is_done : PySem.W.isFn K (.ref f_CallReader_is_done) = true)
    (fn_f_CallReader_next_some : PySem.W.isFn K (.ref f_CallReader_next_some) = true)
    (esa_Fault : PySem.W.findIn K (.ref cFault) "__setattr__" = some (some (.builtin "object.__setattr__")))
    (eex_Fault : PySem.W.subIn K (.ref cFault) (.type "BaseException") = some true)
    (ety_Fault : PySem.W.typeIn K (.ref cFault) = some (.type "type"))
    (ek_Fault : PySem.W.keepIn K (.ref cFault) = true)
    (eti_Fault : PySem.W.typeIn K (.ref f_Fault_init) = some (.type "function"))
    (ega_Fault : PySem.W.findIn K (.ref cFault) "__getattribute__" = some (some (.builtin "BaseException.__getattribute__")))
    (egg_Fault : PySem.W.findIn K (.ref cFault) "__getattr__" = some none)
    (ehd_Fault : PySem.W.hasDictIn K cFault = true)
    (eic_Fault : PySem.W.isClsIn K cFault = true)
    (ess_Fault : PySem.W.subIn K (.ref cFault) (.ref cFault) = some true)
    (esa_Refused : PySem.W.findIn K (.ref cRefused) "__setattr__" = some (some (.builtin "object.__setattr__")))
    (eex_Refused : PySem.W.subIn K (.ref cRefused) (.type "BaseException") = some true)
    (ety_Refused : PySem.W.typeIn K (.ref cRefused) = some (.type "type"))
    (ek_Refused : PySem.W.keepIn K (.ref cRefused) = true)
    (eti_Refused : PySem.W.typeIn K (.ref f_Refused_init) = some (.type "function"))
    (ega_Refused : PySem.W.findIn K (.ref cRefused) "__getattribute__" = some (some (.builtin "BaseException.__getattribute__")))
    (egg_Refused : PySem.W.findIn K (.ref cRefused) "__getattr__" = some none)
    (ehd_Refused : PySem.W.hasDictIn K cRefused = true)
    (eic_Refused : PySem.W.isClsIn K cRefused = true)
    (ess_Refused : PySem.W.subIn K (.ref cRefused) (.ref cRefused) = some true)
    (nn_Fault_kind : PySem.W.findIn K (.ref cFault) "kind" = some none)
    (nn_Fault_place : PySem.W.findIn K (.ref cFault) "place" = some none)
    (nn_Refused_why : PySem.W.findIn K (.ref cRefused) "why" = some none)
    (c_Choice_init : PySem.W.codeIn K cd_Choice_init "Choice.__init__" = true)
    (k_Choice_init : PySem.W.keepIn K (.ref f_Choice_init) = true)
    (c_Choice_put_candidates : PySem.W.codeIn K cd_Choice_put_candidates "Choice.put_candidates" = true)
    (k_Choice_put_candidates : PySem.W.keepIn K (.ref f_Choice_put_candidates) = true)
    (c_Choice_put_days : PySem.W.codeIn K cd_Choice_put_days "Choice.put_days" = true)
    (k_Choice_put_days : PySem.W.keepIn K (.ref f_Choice_put_days) = true)
    (c_Choice_count_sets : PySem.W.codeIn K cd_Choice_count_sets "Choice.count_sets" = true)
    (k_Choice_count_sets : PySem.W.keepIn K (.ref f_Choice_count_sets) = true)
    (c_Choice_room : PySem.W.codeIn K cd_Choice_room "Choice.room" = true)
    (k_Choice_room : PySem.W.keepIn K (.ref f_Choice_room) = true)
    (c_Choice_fitting : PySem.W.codeIn K cd_Choice_fitting "Choice.fitting" = true)
    (k_Choice_fitting : PySem.W.keepIn K (.ref f_Choice_fitting) = true)
    (c_Choice_cost : PySem.W.codeIn K cd_Choice_cost "Choice.cost" = true)
    (k_Choice_cost : PySem.W.keepIn K (.ref f_Choice_cost) = true)
    (c_Choice_going : PySem.W.codeIn K cd_Choice_going "Choice.going" = true)
    (k_Choice_going : PySem.W.keepIn K (.ref f_Choice_going) = true)
    (c_Choice_day_cost : PySem.W.codeIn K cd_Choice_day_cost "Choice.day_cost" = true)
    (k_Choice_day_cost : PySem.W.keepIn K (.ref f_Choice_day_cost) = true)
    (c_Choice_plan_cost : PySem.W.codeIn K cd_Choice_plan_cost "Choice.plan_cost" = true)
    (k_Choice_plan_cost : PySem.W.keepIn K (.ref f_Choice_plan_cost) = true)
    (c_Choice_rests : PySem.W.codeIn K cd_Choice_rests "Choice.rests" = true)
    (k_Choice_rests : PySem.W.keepIn K (.ref f_Choice_rests) = true)
    (c_Choice_best : PySem.W.codeIn K cd_Choice_best "Choice.best" = true)
    (k_Choice_best : PySem.W.keepIn K (.ref f_Choice_best) = true)
    (c_Choice_same_always : PySem.W.codeIn K cd_Choice_same_always "Choice.same_always" = true)
    (k_Choice_same_always : PySem.W.keepIn K (.ref f_Choice_same_always) = true)
    (c_greatest_divisor : PySem.W.codeIn K cd_greatest_divisor "greatest_divisor" = true)
    (k_greatest_divisor : PySem.W.keepIn K (.ref f_greatest_divisor) = true)
    (c_fraction : PySem.W.codeIn K cd_fraction "fraction" = true)
    (k_fraction : PySem.W.keepIn K (.ref f_fraction) = true)
    (c_Line_init : PySem.W.codeIn K cd_Line_init "Line.__init__" = true)
    (k_Line_init : PySem.W.keepIn K (.ref f_Line_init) = true)
    (c_Line_key_at : PySem.W.codeIn K cd_Line_key_at "Line.key_at" = true)
    (k_Line_key_at : PySem.W.keepIn K (.ref f_Line_key_at) = true)
    (c_lines_of : PySem.W.codeIn K cd_lines_of "lines_of" = true)
    (k_lines_of : PySem.W.keepIn K (.ref f_lines_of) = true)
    (c_meeting : PySem.W.codeIn K cd_meeting "meeting" = true)
    (k_meeting : PySem.W.keepIn K (.ref f_meeting) = true)
    (c_is_less : PySem.W.codeIn K cd_is_less "is_less" = true)
    (k_is_less : PySem.W.keepIn K (.ref f_is_less) = true)
    (c_piece_end : PySem.W.codeIn K cd_piece_end "piece_end" = true)
    (k_piece_end : PySem.W.keepIn K (.ref f_piece_end) = true)
    (c_pieces_of : PySem.W.codeIn K cd_pieces_of "pieces_of" = true)
    (k_pieces_of : PySem.W.keepIn K (.ref f_pieces_of) = true)
    (c_Fault_init : PySem.W.codeIn K cd_Fault_init "Fault.__init__" = true)
    (k_Fault_init : PySem.W.keepIn K (.ref f_Fault_init) = true)
    (c_Token_init : PySem.W.codeIn K cd_Token_init "Token.__init__" = true)
    (k_Token_init : PySem.W.keepIn K (.ref f_Token_init) = true)
    (c_is_letter : PySem.W.codeIn K cd_is_letter "is_letter" = true)
    (k_is_letter : PySem.W.keepIn K (.ref f_is_letter) = true)
    (c_is_digit : PySem.W.codeIn K cd_is_digit "is_digit" = true)
    (k_is_digit : PySem.W.keepIn K (.ref f_is_digit) = true)
    (c_text_of : PySem.W.codeIn K cd_text_of "text_of" = true)
    (k_text_of : PySem.W.keepIn K (.ref f_text_of) = true)
    (c_word_token : PySem.W.codeIn K cd_word_token "word_token" = true)
    (k_word_token : PySem.W.keepIn K (.ref f_word_token) = true)
    (c_number_token : PySem.W.codeIn K cd_number_token "number_token" = true)
    (k_number_token : PySem.W.keepIn K (.ref f_number_token) = true)
    (c_sign_token : PySem.W.codeIn K cd_sign_token "sign_token" = true)
    (k_sign_token : PySem.W.keepIn K (.ref f_sign_token) = true)
    (c_remark_end : PySem.W.codeIn K cd_remark_end "remark_end" = true)
    (k_remark_end : PySem.W.keepIn K (.ref f_remark_end) = true)
    (c_word_end : PySem.W.codeIn K cd_word_end "word_end" = true)
    (k_word_end : PySem.W.keepIn K (.ref f_word_end) = true)
    (c_number_end : PySem.W.codeIn K cd_number_end "number_end" = true)
    (k_number_end : PySem.W.keepIn K (.ref f_number_end) = true)
    (c_tokens_of : PySem.W.codeIn K cd_tokens_of "tokens_of" = true)
    (k_tokens_of : PySem.W.keepIn K (.ref f_tokens_of) = true)
    (c_Question_init : PySem.W.codeIn K cd_Question_init "Question.__init__" = true)
    (k_Question_init : PySem.W.keepIn K (.ref f_Question_init) = true)
    (c_Table_init : PySem.W.codeIn K cd_Table_init "Table.__init__" = true)
    (k_Table_init : PySem.W.keepIn K (.ref f_Table_init) = true)
    (c_Table_size : PySem.W.codeIn K cd_Table_size "Table.size" = true)
    (k_Table_size : PySem.W.keepIn K (.ref f_Table_size) = true)
    (c_Reader_init : PySem.W.codeIn K cd_Reader_init "Reader.__init__" = true)
    (k_Reader_init : PySem.W.keepIn K (.ref f_Reader_init) = true)
    (c_Reader_here : PySem.W.codeIn K cd_Reader_here "Reader.here" = true)
    (k_Reader_here : PySem.W.keepIn K (.ref f_Reader_here) = true)
    (c_Reader_fail_if : PySem.W.codeIn K cd_Reader_fail_if "Reader.fail_if" = true)
    (k_Reader_fail_if : PySem.W.keepIn K (.ref f_Reader_fail_if) = true)
    (c_Reader_is_next : PySem.W.codeIn K cd_Reader_is_next "Reader.is_next" = true)
    (k_Reader_is_next : PySem.W.keepIn K (.ref f_Reader_is_next) = true)
    (c_Reader_look_for : PySem.W.codeIn K cd_Reader_look_for "Reader.look_for" = true)
    (k_Reader_look_for : PySem.W.keepIn K (.ref f_Reader_look_for) = true)
    (c_Reader_want : PySem.W.codeIn K cd_Reader_want "Reader.want" = true)
    (k_Reader_want : PySem.W.keepIn K (.ref f_Reader_want) = true)
    (c_Reader_read_number : PySem.W.codeIn K cd_Reader_read_number "Reader.read_number" = true)
    (k_Reader_read_number : PySem.W.keepIn K (.ref f_Reader_read_number) = true)
    (c_Reader_read_column : PySem.W.codeIn K cd_Reader_read_column "Reader.read_column" = true)
    (k_Reader_read_column : PySem.W.keepIn K (.ref f_Reader_read_column) = true)
    (c_Reader_read_columns : PySem.W.codeIn K cd_Reader_read_columns "Reader.read_columns" = true)
    (k_Reader_read_columns : PySem.W.keepIn K (.ref f_Reader_read_columns) = true)
    (c_Reader_read_row : PySem.W.codeIn K cd_Reader_read_row "Reader.read_row" = true)
    (k_Reader_read_row : PySem.W.keepIn K (.ref f_Reader_read_row) = true)
    (c_Reader_read_name : PySem.W.codeIn K cd_Reader_read_name "Reader.read_name" = true)
    (k_Reader_read_name : PySem.W.keepIn K (.ref f_Reader_read_name) = true)
    (c_Reader_read_question : PySem.W.codeIn K cd_Reader_read_question "Reader.read_question" = true)
    (k_Reader_read_question : PySem.W.keepIn K (.ref f_Reader_read_question) = true)
    (c_Reader_read : PySem.W.codeIn K cd_Reader_read "Reader.read" = true)
    (k_Reader_read : PySem.W.keepIn K (.ref f_Reader_read) = true)
    (c_table_of : PySem.W.codeIn K cd_table_of "table_of" = true)
    (k_table_of : PySem.W.keepIn K (.ref f_table_of) = true)
    (c_Refused_init : PySem.W.codeIn K cd_Refused_init "Refused.__init__" = true)
    (k_Refused_init : PySem.W.keepIn K (.ref f_Refused_init) = true)
    (c_refuse_if : PySem.W.codeIn K cd_refuse_if "refuse_if" = true)
    (k_refuse_if : PySem.W.keepIn K (.ref f_refuse_if) = true)
    (c_Desk_init : PySem.W.codeIn K cd_Desk_init "Desk.__init__" = true)
    (k_Desk_init : PySem.W.keepIn K (.ref f_Desk_init) = true)
    (c_Desk_load : PySem.W.codeIn K cd_Desk_load "Desk.load" = true)
    (k_Desk_load : PySem.W.keepIn K (.ref f_Desk_load) = true)
    (c_Desk_look_at_room : PySem.W.codeIn K cd_Desk_look_at_room "Desk.look_at_room" = true)
    (k_Desk_look_at_room : PySem.W.keepIn K (.ref f_Desk_look_at_room) = true)
    (c_Desk_look_at_set : PySem.W.codeIn K cd_Desk_look_at_set "Desk.look_at_set" = true)
    (k_Desk_look_at_set : PySem.W.keepIn K (.ref f_Desk_look_at_set) = true)
    (c_Desk_cands : PySem.W.codeIn K cd_Desk_cands "Desk.cands" = true)
    (k_Desk_cands : PySem.W.keepIn K (.ref f_Desk_cands) = true)
    (c_Desk_put_days : PySem.W.codeIn K cd_Desk_put_days "Desk.put_days" = true)
    (k_Desk_put_days : PySem.W.keepIn K (.ref f_Desk_put_days) = true)
    (c_Desk_best : PySem.W.codeIn K cd_Desk_best "Desk.best" = true)
    (k_Desk_best : PySem.W.keepIn K (.ref f_Desk_best) = true)
    (c_Desk_always : PySem.W.codeIn K cd_Desk_always "Desk.always" = true)
    (k_Desk_always : PySem.W.keepIn K (.ref f_Desk_always) = true)
    (c_Desk_check : PySem.W.codeIn K cd_Desk_check "Desk.check" = true)
    (k_Desk_check : PySem.W.keepIn K (.ref f_Desk_check) = true)
    (c_Desk_day : PySem.W.codeIn K cd_Desk_day "Desk.day" = true)
    (k_Desk_day : PySem.W.keepIn K (.ref f_Desk_day) = true)
    (c_Desk_go : PySem.W.codeIn K cd_Desk_go "Desk.go" = true)
    (k_Desk_go : PySem.W.keepIn K (.ref f_Desk_go) = true)
    (c_Desk_ends : PySem.W.codeIn K cd_Desk_ends "Desk.ends" = true)
    (k_Desk_ends : PySem.W.keepIn K (.ref f_Desk_ends) = true)
    (c_call_told : PySem.W.codeIn K cd_call_told "call_told" = true)
    (k_call_told : PySem.W.keepIn K (.ref f_call_told) = true)
    (c_answer_of : PySem.W.codeIn K cd_answer_of "answer_of" = true)
    (k_answer_of : PySem.W.keepIn K (.ref f_answer_of) = true)
    (c_CallReader_init : PySem.W.codeIn K cd_CallReader_init "CallReader.__init__" = true)
    (k_CallReader_init : PySem.W.keepIn K (.ref f_CallReader_init) = true)
    (c_CallReader_is_done : PySem.W.codeIn K cd_CallReader_is_done "CallReader.is_done" = true)
    (k_CallReader_is_done : PySem.W.keepIn K (.ref f_CallReader_is_done) = true)
    (c_CallReader_next_some : PySem.W.codeIn K cd_CallReader_next_some "CallReader.next_some" = true)
    (k_CallReader_next_some : PySem.W.keepIn K (.ref f_CallReader_next_some) = true)
    (c_answers : PySem.W.codeIn K cd_answers "answers" = true)
    (k_answers : PySem.W.keepIn K (.ref f_answers) = true)
    : ∃ fd : FuncData, (∀ (s : Shared) (us : List Value), us.length = (["calls"] : List Str).length → BindsTo s fd ⟨us, []⟩ ((["calls"] : List Str).zip us)) ∧ ∀ base : Heap, K.In base → base.Ns mainGlobals mg → FnOk P w K mg base CX0 11 fa fd ["calls"] (sp_answers K) := by
  have e := hfa.symm.trans (PySem.W.mg_of X G gg_answers)
  cases e
  have T : Txt K mg { cChoice := cChoice, cLine := cLine, cFault := cFault, cToken := cToken, cQuestion := cQuestion, cTable := cTable, cReader := cReader, cRefused := cRefused, cDesk := cDesk, cCallReader := cCallReader, k_BLANKS := k_BLANKS, k_WORDS := k_WORDS, k_NUMBERS := k_NUMBERS, k_ROWS := k_ROWS, f_Choice_init := f_Choice_init, fd_Choice_init := (PySem.W.fnOf "__init__" "Choice.__init__" (defArgs s_Choice_init) (defBody s_Choice_init) (defScope s_Choice_init) .none kV_Choice_init dc_Choice_init pm_Choice_init an_Choice_init cd_Choice_init ct_Choice_init), f_Choice_put_candidates := f_Choice_put_candidates, fd_Choice_put_candidates := (PySem.W.fnOf "put_candidates" "Choice.put_candidates" (defArgs s_Choice_put_candidates) (defBody s_Choice_put_candidates) (defScope s_Choice_put_candidates) .none kV_Choice_put_candidates dc_Choice_put_candidates pm_Choice_put_candidates an_Choice_put_candidates cd_Choice_put_candidates ct_Choice_put_candidates), f_Choice_put_days := f_Choice_put_days, fd_Choice_put_days := (PySem.W.fnOf "put_days" "Choice.put_days" (defArgs s_Choice_put_days) (defBody s_Choice_put_days) (defScope s_Choice_put_days) .none kV_Choice_put_days dc_Choice_put_days pm_Choice_put_days an_Choice_put_days cd_Choice_put_days ct_Choice_put_days), f_Choice_count_sets := f_Choice_count_sets, fd_Choice_count_sets := (PySem.W.fnOf "count_sets" "Choice.count_sets" (defArgs s_Choice_count_sets) (defBody s_Choice_count_sets) (defScope s_Choice_count_sets) .none kV_Choice_count_sets dc_Choice_count_sets pm_Choice_count_sets an_Choice_count_sets cd_Choice_count_sets ct_Choice_count_sets), f_Choice_room := f_Choice_room, fd_Choice_room := (PySem.W.fnOf "room" "Choice.room" (defArgs s_Choice_room) (defBody s_Choice_room) (defScope s_Choice_room) .none kV_Choice_room dc_Choice_room pm_Choice_room an_Choice_room cd_Choice_room ct_Choice_room), f_Choice_fitting := f_Choice_fitting, fd_Choice_fitting := (PySem.W.fnOf "fitting" "Choice.fitting" (defArgs s_Choice_fitting) (defBody s_Choice_fitting) (defScope s_Choice_fitting) .none kV_Choice_fitting dc_Choice_fitting pm_Choice_fitting an_Choice_fitting cd_Choice_fitting ct_Choice_fitting), f_Choice_cost := f_Choice_cost, fd_Choice_cost := (PySem.W.fnOf "cost" "Choice.cost" (defArgs s_Choice_cost) (defBody s_Choice_cost) (defScope s_Choice_cost) .none kV_Choice_cost dc_Choice_cost pm_Choice_cost an_Choice_cost cd_Choice_cost ct_Choice_cost), f_Choice_going := f_Choice_going, fd_Choice_going := (PySem.W.fnOf "going" "Choice.going" (defArgs s_Choice_going) (defBody s_Choice_going) (defScope s_Choice_going) .none kV_Choice_going dc_Choice_going pm_Choice_going an_Choice_going cd_Choice_going ct_Choice_going), f_Choice_day_cost := f_Choice_day_cost, fd_Choice_day_cost := (PySem.W.fnOf "day_cost" "Choice.day_cost" (defArgs s_Choice_day_cost) (defBody s_Choice_day_cost) (defScope s_Choice_day_cost) .none kV_Choice_day_cost dc_Choice_day_cost pm_Choice_day_cost an_Choice_day_cost cd_Choice_day_cost ct_Choice_day_cost), f_Choice_plan_cost := f_Choice_plan_cost, fd_Choice_plan_cost := (PySem.W.fnOf "plan_cost" "Choice.plan_cost" (defArgs s_Choice_plan_cost) (defBody s_Choice_plan_cost) (defScope s_Choice_plan_cost) .none kV_Choice_plan_cost dc_Choice_plan_cost pm_Choice_plan_cost an_Choice_plan_cost cd_Choice_plan_cost ct_Choice_plan_cost), f_Choice_rests := f_Choice_rests, fd_Choice_rests := (PySem.W.fnOf "rests" "Choice.rests" (defArgs s_Choice_rests) (defBody s_Choice_rests) (defScope s_Choice_rests) .none kV_Choice_rests dc_Choice_rests pm_Choice_rests an_Choice_rests cd_Choice_rests ct_Choice_rests), f_Choice_best := f_Choice_best, fd_Choice_best := (PySem.W.fnOf "best" "Choice.best" (defArgs s_Choice_best) (defBody s_Choice_best) (defScope s_Choice_best) .none kV_Choice_best dc_Choice_best pm_Choice_best an_Choice_best cd_Choice_best ct_Choice_best), f_Choice_same_always := f_Choice_same_always, fd_Choice_same_always := (PySem.W.fnOf "same_always" "Choice.same_always" (defArgs s_Choice_same_always) (defBody s_Choice_same_always) (defScope s_Choice_same_always) .none kV_Choice_same_always dc_Choice_same_always pm_Choice_same_always an_Choice_same_always cd_Choice_same_always ct_Choice_same_always), f_greatest_divisor := f_greatest_divisor, fd_greatest_divisor := (PySem.W.fnOf "greatest_divisor" "greatest_divisor" (defArgs s_greatest_divisor) (defBody s_greatest_divisor) (defScope s_greatest_divisor) .none kV_greatest_divisor dc_greatest_divisor pm_greatest_divisor an_greatest_divisor cd_greatest_divisor ct_greatest_divisor), f_fraction := f_fraction, fd_fraction := (PySem.W.fnOf "fraction" "fraction" (defArgs s_fraction) (defBody s_fraction) (defScope s_fraction) .none kV_fraction dc_fraction pm_fraction an_fraction cd_fraction ct_fraction), f_Line_init := f_Line_init, fd_Line_init := (PySem.W.fnOf "__init__" "Line.__init__" (defArgs s_Line_init) (defBody s_Line_init) (defScope s_Line_init) .none kV_Line_init dc_Line_init pm_Line_init an_Line_init cd_Line_init ct_Line_init), f_Line_key_at := f_Line_key_at, fd_Line_key_at := (PySem.W.fnOf "key_at" "Line.key_at" (defArgs s_Line_key_at) (defBody s_Line_key_at) (defScope s_Line_key_at) .none kV_Line_key_at dc_Line_key_at pm_Line_key_at an_Line_key_at cd_Line_key_at ct_Line_key_at), f_lines_of := f_lines_of, fd_lines_of := (PySem.W.fnOf "lines_of" "lines_of" (defArgs s_lines_of) (defBody s_lines_of) (defScope s_lines_of) .none kV_lines_of dc_lines_of pm_lines_of an_lines_of cd_lines_of ct_lines_of), f_meeting := f_meeting, fd_meeting := (PySem.W.fnOf "meeting" "meeting" (defArgs s_meeting) (defBody s_meeting) (defScope s_meeting) .none kV_meeting dc_meeting pm_meeting an_meeting cd_meeting ct_meeting), f_is_less := f_is_less, fd_is_less := (PySem.W.fnOf "is_less" "is_less" (defArgs s_is_less) (defBody s_is_less) (defScope s_is_less) .none kV_is_less dc_is_less pm_is_less an_is_less cd_is_less ct_is_less), f_piece_end := f_piece_end, fd_piece_end := (PySem.W.fnOf "piece_end" "piece_end" (defArgs s_piece_end) (defBody s_piece_end) (defScope s_piece_end) .none kV_piece_end dc_piece_end pm_piece_end an_piece_end cd_piece_end ct_piece_end), f_pieces_of := f_pieces_of, fd_pieces_of := (PySem.W.fnOf "pieces_of" "pieces_of" (defArgs s_pieces_of) (defBody s_pieces_of) (defScope s_pieces_of) .none kV_pieces_of dc_pieces_of pm_pieces_of an_pieces_of cd_pieces_of ct_pieces_of), f_Fault_init := f_Fault_init, fd_Fault_init := (PySem.W.fnOf "__init__" "Fault.__init__" (defArgs s_Fault_init) (defBody s_Fault_init) (defScope s_Fault_init) .none kV_Fault_init dc_Fault_init pm_Fault_init an_Fault_init cd_Fault_init ct_Fault_init), f_Token_init := f_Token_init, fd_Token_init := (PySem.W.fnOf "__init__" "Token.__init__" (defArgs s_Token_init) (defBody s_Token_init) (defScope s_Token_init) .none kV_Token_init dc_Token_init pm_Token_init an_Token_init cd_Token_init ct_Token_init), f_is_letter := f_is_letter, fd_is_letter := (PySem.W.fnOf "is_letter" "is_letter" (defArgs s_is_letter) (defBody s_is_letter) (defScope s_is_letter) .none kV_is_letter dc_is_letter pm_is_letter an_is_letter cd_is_letter ct_is_letter), f_is_digit := f_is_digit, fd_is_digit := (PySem.W.fnOf "is_digit" "is_digit" (defArgs s_is_digit) (defBody s_is_digit) (defScope s_is_digit) .none kV_is_digit dc_is_digit pm_is_digit an_is_digit cd_is_digit ct_is_digit), f_text_of := f_text_of, fd_text_of := (PySem.W.fnOf "text_of" "text_of" (defArgs s_text_of) (defBody s_text_of) (defScope s_text_of) .none kV_text_of dc_text_of pm_text_of an_text_of cd_text_of ct_text_of), f_word_token := f_word_token, fd_word_token := (PySem.W.fnOf "word_token" "word_token" (defArgs s_word_token) (defBody s_word_token) (defScope s_word_token) .none kV_word_token dc_word_token pm_word_token an_word_token cd_word_token ct_word_token), f_number_token := f_number_token, fd_number_token := (PySem.W.fnOf "number_token" "number_token" (defArgs s_number_token) (defBody s_number_token) (defScope s_number_token) .none kV_number_token dc_number_token pm_number_token an_number_token cd_number_token ct_number_token), f_sign_token := f_sign_token, fd_sign_token := (PySem.W.fnOf "sign_token" "sign_token" (defArgs s_sign_token) (defBody s_sign_token) (defScope s_sign_token) .none kV_sign_token dc_sign_token pm_sign_token an_sign_token cd_sign_token ct_sign_token), f_remark_end := f_remark_end, fd_remark_end := (PySem.W.fnOf "remark_end" "remark_end" (defArgs s_remark_end) (defBody s_remark_end) (defScope s_remark_end) .none kV_remark_end dc_remark_end pm_remark_end an_remark_end cd_remark_end ct_remark_end), f_word_end := f_word_end, fd_word_end := (PySem.W.fnOf "word_end" "word_end" (defArgs s_word_end) (defBody s_word_end) (defScope s_word_end) .none kV_word_end dc_word_end pm_word_end an_word_end cd_word_end ct_word_end), f_number_end := f_number_end, fd_number_end := (PySem.W.fnOf "number_end" "number_end" (defArgs s_number_end) (defBody s_number_end) (defScope s_number_end) .none kV_number_end dc_number_end pm_number_end an_number_end cd_number_end ct_number_end), f_tokens_of := f_tokens_of, fd_tokens_of := (PySem.W.fnOf "tokens_of" "tokens_of" (defArgs s_tokens_of) (defBody s_tokens_of) (defScope s_tokens_of) .none kV_tokens_of dc_tokens_of pm_tokens_of an_tokens_of cd_tokens_of ct_tokens_of), f_Question_init := f_Question_init, fd_Question_init := (PySem.W.fnOf "__init__" "Question.__init__" (defArgs s_Question_init) (defBody s_Question_init) (defScope s_Question_init) .none kV_Question_init dc_Question_init pm_Question_init an_Question_init cd_Question_init ct_Question_init), f_Table_init := f_Table_init, fd_Table_init := (PySem.W.fnOf "__init__" "Table.__init__" (defArgs s_Table_init) (defBody s_Table_init) (defScope s_Table_init) .none kV_Table_init dc_Table_init pm_Table_init an_Table_init cd_Table_init ct_Table_init), f_Table_size := f_Table_size, fd_Table_size := (PySem.W.fnOf "size" "Table.size" (defArgs s_Table_size) (defBody s_Table_size) (defScope s_Table_size) .none kV_Table_size dc_Table_size pm_Table_size an_Table_size cd_Table_size ct_Table_size), f_Reader_init := f_Reader_init, fd_Reader_init := (PySem.W.fnOf "__init__" "Reader.__init__" (defArgs s_Reader_init) (defBody s_Reader_init) (defScope s_Reader_init) .none kV_Reader_init dc_Reader_init pm_Reader_init an_Reader_init cd_Reader_init ct_Reader_init), f_Reader_here := f_Reader_here, fd_Reader_here := (PySem.W.fnOf "here" "Reader.here" (defArgs s_Reader_here) (defBody s_Reader_here) (defScope s_Reader_here) .none kV_Reader_here dc_Reader_here pm_Reader_here an_Reader_here cd_Reader_here ct_Reader_here), f_Reader_fail_if := f_Reader_fail_if, fd_Reader_fail_if := (PySem.W.fnOf "fail_if" "Reader.fail_if" (defArgs s_Reader_fail_if) (defBody s_Reader_fail_if) (defScope s_Reader_fail_if) .none kV_Reader_fail_if dc_Reader_fail_if pm_Reader_fail_if an_Reader_fail_if cd_Reader_fail_if ct_Reader_fail_if), f_Reader_is_next := f_Reader_is_next, fd_Reader_is_next := (PySem.W.fnOf "is_next" "Reader.is_next" (defArgs s_Reader_is_next) (defBody s_Reader_is_next) (defScope s_Reader_is_next) .none kV_Reader_is_next dc_Reader_is_next pm_Reader_is_next an_Reader_is_next cd_Reader_is_next ct_Reader_is_next), f_Reader_look_for := f_Reader_look_for, fd_Reader_look_for := (PySem.W.fnOf "look_for" "Reader.look_for" (defArgs s_Reader_look_for) (defBody s_Reader_look_for) (defScope s_Reader_look_for) .none kV_Reader_look_for dc_Reader_look_for pm_Reader_look_for an_Reader_look_for cd_Reader_look_for ct_Reader_look_for), f_Reader_want := f_Reader_want, fd_Reader_want := (PySem.W.fnOf "want" "Reader.want" (defArgs s_Reader_want) (defBody s_Reader_want) (defScope s_Reader_want) .none kV_Reader_want dc_Reader_want pm_Reader_want an_Reader_want cd_Reader_want ct_Reader_want), f_Reader_read_number := f_Reader_read_number, fd_Reader_read_number := (PySem.W.fnOf "read_number" "Reader.read_number" (defArgs s_Reader_read_number) (defBody s_Reader_read_number) (defScope s_Reader_read_number) .none kV_Reader_read_number dc_Reader_read_number pm_Reader_read_number an_Reader_read_number cd_Reader_read_number ct_Reader_read_number), f_Reader_read_column := f_Reader_read_column, fd_Reader_read_column := (PySem.W.fnOf "read_column" "Reader.read_column" (defArgs s_Reader_read_column) (defBody s_Reader_read_column) (defScope s_Reader_read_column) .none kV_Reader_read_column dc_Reader_read_column pm_Reader_read_column an_Reader_read_column cd_Reader_read_column ct_Reader_read_column), f_Reader_read_columns := f_Reader_read_columns, fd_Reader_read_columns := (PySem.W.fnOf "read_columns" "Reader.read_columns" (defArgs s_Reader_read_columns) (defBody s_Reader_read_columns) (defScope s_Reader_read_columns) .none kV_Reader_read_columns dc_Reader_read_columns pm_Reader_read_columns an_Reader_read_columns cd_Reader_read_columns ct_Reader_read_columns), f_Reader_read_row := f_Reader_read_row, fd_Reader_read_row := (PySem.W.fnOf "read_row" "Reader.read_row" (defArgs s_Reader_read_row) (defBody s_Reader_read_row) (defScope s_Reader_read_row) .none kV_Reader_read_row dc_Reader_read_row pm_Reader_read_row an_Reader_read_row cd_Reader_read_row ct_Reader_read_row), f_Reader_read_name := f_Reader_read_name, fd_Reader_read_name := (PySem.W.fnOf "read_name" "Reader.read_name" (defArgs s_Reader_read_name) (defBody s_Reader_read_name) (defScope s_Reader_read_name) .none kV_Reader_read_name dc_Reader_read_name pm_Reader_read_name an_Reader_read_name cd_Reader_read_name ct_Reader_read_name), f_Reader_read_question := f_Reader_read_question, fd_Reader_read_question := (PySem.W.fnOf "read_question" "Reader.read_question" (defArgs s_Reader_read_question) (defBody s_Reader_read_question) (defScope s_Reader_read_question) .none kV_Reader_read_question dc_Reader_read_question pm_Reader_read_question an_Reader_read_question cd_Reader_read_question ct_Reader_read_question), f_Reader_read := f_Reader_read, fd_Reader_read := (PySem.W.fnOf "read" "Reader.read" (defArgs s_Reader_read) (defBody s_Reader_read) (defScope s_Reader_read) .none kV_Reader_read dc_Reader_read pm_Reader_read an_Reader_read cd_Reader_read ct_Reader_read), f_table_of := f_table_of, fd_table_of := (PySem.W.fnOf "table_of" "table_of" (defArgs s_table_of) (defBody s_table_of) (defScope s_table_of) .none kV_table_of dc_table_of pm_table_of an_table_of cd_table_of ct_table_of), f_Refused_init := f_Refused_init, fd_Refused_init := (PySem.W.fnOf "__init__" "Refused.__init__" (defArgs s_Refused_init) (defBody s_Refused_init) (defScope s_Refused_init) .none kV_Refused_init dc_Refused_init pm_Refused_init an_Refused_init cd_Refused_init ct_Refused_init), f_refuse_if := f_refuse_if, fd_refuse_if := (PySem.W.fnOf "refuse_if" "refuse_if" (defArgs s_refuse_if) (defBody s_refuse_if) (defScope s_refuse_if) .none kV_refuse_if dc_refuse_if pm_refuse_if an_refuse_if cd_refuse_if ct_refuse_if), f_Desk_init := f_Desk_init, fd_Desk_init := (PySem.W.fnOf "__init__" "Desk.__init__" (defArgs s_Desk_init) (defBody s_Desk_init) (defScope s_Desk_init) .none kV_Desk_init dc_Desk_init pm_Desk_init an_Desk_init cd_Desk_init ct_Desk_init), f_Desk_load := f_Desk_load, fd_Desk_load := (PySem.W.fnOf "load" "Desk.load" (defArgs s_Desk_load) (defBody s_Desk_load) (defScope s_Desk_load) .none kV_Desk_load dc_Desk_load pm_Desk_load an_Desk_load cd_Desk_load ct_Desk_load), f_Desk_look_at_room := f_Desk_look_at_room, fd_Desk_look_at_room := (PySem.W.fnOf "look_at_room" "Desk.look_at_room" (defArgs s_Desk_look_at_room) (defBody s_Desk_look_at_room) (defScope s_Desk_look_at_room) .none kV_Desk_look_at_room dc_Desk_look_at_room pm_Desk_look_at_room an_Desk_look_at_room cd_Desk_look_at_room ct_Desk_look_at_room), f_Desk_look_at_set := f_Desk_look_at_set, fd_Desk_look_at_set := (PySem.W.fnOf "look_at_set" "Desk.look_at_set" (defArgs s_Desk_look_at_set) (defBody s_Desk_look_at_set) (defScope s_Desk_look_at_set) .none kV_Desk_look_at_set dc_Desk_look_at_set pm_Desk_look_at_set an_Desk_look_at_set cd_Desk_look_at_set ct_Desk_look_at_set), f_Desk_cands := f_Desk_cands, fd_Desk_cands := (PySem.W.fnOf "cands" "Desk.cands" (defArgs s_Desk_cands) (defBody s_Desk_cands) (defScope s_Desk_cands) .none kV_Desk_cands dc_Desk_cands pm_Desk_cands an_Desk_cands cd_Desk_cands ct_Desk_cands), f_Desk_put_days := f_Desk_put_days, fd_Desk_put_days := (PySem.W.fnOf "put_days" "Desk.put_days" (defArgs s_Desk_put_days) (defBody s_Desk_put_days) (defScope s_Desk_put_days) .none kV_Desk_put_days dc_Desk_put_days pm_Desk_put_days an_Desk_put_days cd_Desk_put_days ct_Desk_put_days), f_Desk_best := f_Desk_best, fd_Desk_best := (PySem.W.fnOf "best" "Desk.best" (defArgs s_Desk_best) (defBody s_Desk_best) (defScope s_Desk_best) .none kV_Desk_best dc_Desk_best pm_Desk_best an_Desk_best cd_Desk_best ct_Desk_best), f_Desk_always := f_Desk_always, fd_Desk_always := (PySem.W.fnOf "always" "Desk.always" (defArgs s_Desk_always) (defBody s_Desk_always) (defScope s_Desk_always) .none kV_Desk_always dc_Desk_always pm_Desk_always an_Desk_always cd_Desk_always ct_Desk_always), f_Desk_check := f_Desk_check, fd_Desk_check := (PySem.W.fnOf "check" "Desk.check" (defArgs s_Desk_check) (defBody s_Desk_check) (defScope s_Desk_check) .none kV_Desk_check dc_Desk_check pm_Desk_check an_Desk_check cd_Desk_check ct_Desk_check), f_Desk_day := f_Desk_day, fd_Desk_day := (PySem.W.fnOf "day" "Desk.day" (defArgs s_Desk_day) (defBody s_Desk_day) (defScope s_Desk_day) .none kV_Desk_day dc_Desk_day pm_Desk_day an_Desk_day cd_Desk_day ct_Desk_day), f_Desk_go := f_Desk_go, fd_Desk_go := (PySem.W.fnOf "go" "Desk.go" (defArgs s_Desk_go) (defBody s_Desk_go) (defScope s_Desk_go) .none kV_Desk_go dc_Desk_go pm_Desk_go an_Desk_go cd_Desk_go ct_Desk_go), f_Desk_ends := f_Desk_ends, fd_Desk_ends := (PySem.W.fnOf "ends" "Desk.ends" (defArgs s_Desk_ends) (defBody s_Desk_ends) (defScope s_Desk_ends) .none kV_Desk_ends dc_Desk_ends pm_Desk_ends an_Desk_ends cd_Desk_ends ct_Desk_ends), f_call_told := f_call_told, fd_call_told := (PySem.W.fnOf "call_told" "call_told" (defArgs s_call_told) (defBody s_call_told) (defScope s_call_told) .none kV_call_told dc_call_told pm_call_told an_call_told cd_call_told ct_call_told), f_answer_of := f_answer_of, fd_answer_of := (PySem.W.fnOf "answer_of" "answer_of" (defArgs s_answer_of) (defBody s_answer_of) (defScope s_answer_of) .none kV_answer_of dc_answer_of pm_answer_of an_answer_of cd_answer_of ct_answer_of), f_CallReader_init := f_CallReader_init, fd_CallReader_init := (PySem.W.fnOf "__init__" "CallReader.__init__" (defArgs s_CallReader_init) (defBody s_CallReader_init) (defScope s_CallReader_init) .none kV_CallReader_init dc_CallReader_init pm_CallReader_init an_CallReader_init cd_CallReader_init ct_CallReader_init), f_CallReader_is_done := f_CallReader_is_done, fd_CallReader_is_done := (PySem.W.fnOf "is_done" "CallReader.is_done" (defArgs s_CallReader_is_done) (defBody s_CallReader_is_done) (defScope s_CallReader_is_done) .none kV_CallReader_is_done dc_CallReader_is_done pm_CallReader_is_done an_CallReader_is_done cd_CallReader_is_done ct_CallReader_is_done), f_CallReader_next_some := f_CallReader_next_some, fd_CallReader_next_some := (PySem.W.fnOf "next_some" "CallReader.next_some" (defArgs s_CallReader_next_some) (defBody s_CallReader_next_some) (defScope s_CallReader_next_some) .none kV_CallReader_next_some dc_CallReader_next_some pm_CallReader_next_some an_CallReader_next_some cd_CallReader_next_some ct_CallReader_next_some), f_answers := fa, fd_answers := (PySem.W.fnOf "answers" "answers" (defArgs s_answers) (defBody s_answers) (defScope s_answers) .none kV_answers dc_answers pm_answers an_answers cd_answers ct_answers) } := ⟨⟨⟨_, PySem.W.mg_of X G gm_TIMES_END⟩, ⟨_, PySem.W.mg_of X G gm_BAD_TOKEN⟩, ⟨_, PySem.W.mg_of X G gm_MOST_NAME⟩, ⟨_, PySem.W.mg_of X G gm_MOST_NUMBER⟩, PySem.W.mg_of X G gm_BLANKS, ⟨_, PySem.W.mg_of X G gm_REMARK⟩, ⟨_, PySem.W.mg_of X G gm_ROW_END⟩, ⟨_, PySem.W.mg_of X G gm_SIGNS⟩, PySem.W.mg_of X G gm_WORDS, ⟨_, PySem.W.mg_of X G gm_CAPITALS⟩, ⟨_, PySem.W.mg_of X G gm_SMALLS⟩, ⟨_, PySem.W.mg_of X G gm_DIGITS⟩, ⟨_, PySem.W.mg_of X G gm_TOO_LONG⟩, ⟨_, PySem.W.mg_of X G gm_NOT_HERE⟩, ⟨_, PySem.W.mg_of X G gm_TOO_MANY⟩, ⟨_, PySem.W.mg_of X G gm_COLUMN_TWICE⟩, ⟨_, PySem.W.mg_of X G gm_NAME_TWICE⟩, ⟨_, PySem.W.mg_of X G gm_OUT_OF_RANGE⟩, ⟨_, PySem.W.mg_of X G gm_NO_COLUMN⟩, ⟨_, PySem.W.mg_of X G gm_MOST_BYTES⟩, ⟨_, PySem.W.mg_of X G gm_MOST_COLUMNS⟩, ⟨_, PySem.W.mg_of X G gm_MOST_ROWS⟩, ⟨_, PySem.W.mg_of X G gm_MOST_QUESTIONS⟩, ⟨_, PySem.W.mg_of X G gm_MOST_VALUE⟩, ⟨_, PySem.W.mg_of X G gm_MOST_SUMMED⟩, ⟨_, PySem.W.mg_of X G gm_MOST_TIMES⟩, ⟨_, PySem.W.mg_of X G gm_LOAD⟩, ⟨_, PySem.W.mg_of X G gm_CANDS⟩, ⟨_, PySem.W.mg_of X G gm_DAYS⟩, ⟨_, PySem.W.mg_of X G gm_BEST⟩, ⟨_, PySem.W.mg_of X G gm_ALWAYS⟩, ⟨_, PySem.W.mg_of X G gm_CHECK⟩, ⟨_, PySem.W.mg_of X G gm_DAY⟩, ⟨_, PySem.W.mg_of X G gm_GO⟩, ⟨_, PySem.W.mg_of X G gm_MOST_CANDIDATES⟩, ⟨_, PySem.W.mg_of X G gm_MOST_DAYS⟩, ⟨_, PySem.W.mg_of X G gm_MOST_OFTEN⟩, ⟨_, PySem.W.mg_of X G gm_MOST_ROOM⟩, PySem.W.mg_of X G gm_NUMBERS, PySem.W.mg_of X G gm_ROWS, PySem.W.mg_none_of X G gb_len, PySem.W.mg_none_of X G gb_sum, PySem.W.mg_none_of X G gb_min, PySem.W.mg_none_of X G gb_dict, PySem.W.mg_none_of X G gb_list, PySem.W.mg_none_of X G gb_ord, PySem.W.mg_none_of X G gb_enumerate, PySem.W.mg_none_of X G gb_zip, PySem.W.mg_none_of X G gb_range, PySem.W.mg_none_of X G gb_set, PySem.W.mg_of X G gg_Choice, PySem.W.mg_of X G gg_Line, PySem.W.mg_of X G gg_Fault, PySem.W.mg_of X G gg_Token, PySem.W.mg_of X G gg_Question, PySem.W.mg_of X G gg_Table, PySem.W.mg_of X G gg_Reader, PySem.W.mg_of X G gg_Refused, PySem.W.mg_of X G gg_Desk, PySem.W.mg_of X G gg_CallReader, PySem.W.mg_of X G gg_greatest_divisor, PySem.W.mg_of X G gg_fraction, PySem.W.mg_of X G gg_lines_of, PySem.W.mg_of X G gg_meeting, PySem.W.mg_of X G gg_is_less, PySem.W.mg_of X G gg_piece_end, PySem.W.mg_of X G gg_pieces_of, PySem.W.mg_of X G gg_is_letter, PySem.W.mg_of X G gg_is_digit, PySem.W.mg_of X G gg_text_of, PySem.W.mg_of X G gg_word_token, PySem.W.mg_of X G gg_number_token, PySem.W.mg_of X G gg_sign_token, PySem.W.mg_of X G gg_remark_end, PySem.W.mg_of X G gg_word_end, PySem.W.mg_of X G gg_number_end, PySem.W.mg_of X G gg_tokens_of, PySem.W.mg_of X G gg_table_of, PySem.W.mg_of X G gg_refuse_if, PySem.W.mg_of X G gg_call_told, PySem.W.mg_of X G gg_answer_of, PySem.W.mg_of X G gg_answers⟩,
    ⟨fun H => .inr ⟨_, _, _, lk_k_BLANKS, rfl, rfl, (by show 3 ≤ sizeLine; decide), .cons ⟨_, rfl⟩ (.cons ⟨_, rfl⟩ (.cons ⟨_, rfl⟩ (.nil)))⟩, fun H => .inr ⟨_, _, _, lk_k_WORDS, rfl, rfl, (by show 4 ≤ sizeLine; decide), .cons ⟨_, rfl⟩ (.cons ⟨_, rfl⟩ (.cons ⟨_, rfl⟩ (.cons ⟨_, rfl⟩ (.nil))))⟩, fun H => .inr ⟨_, _, _, lk_k_NUMBERS, rfl, rfl, (by show 9 ≤ sizeLine; decide), .cons ⟨_, rfl⟩ (.cons ⟨_, rfl⟩ (.cons ⟨_, rfl⟩ (.cons ⟨_, rfl⟩ (.cons ⟨_, rfl⟩ (.cons ⟨_, rfl⟩ (.cons ⟨_, rfl⟩ (.cons ⟨_, rfl⟩ (.cons ⟨_, rfl⟩ (.nil)))))))))⟩, fun H => .inr ⟨_, _, _, lk_k_ROWS, rfl, rfl, (by show 9 ≤ sizeLine; decide), .cons ⟨_, rfl⟩ (.cons ⟨_, rfl⟩ (.cons ⟨_, rfl⟩ (.cons ⟨_, rfl⟩ (.cons ⟨_, rfl⟩ (.cons ⟨_, rfl⟩ (.cons ⟨_, rfl⟩ (.cons ⟨_, rfl⟩ (.cons ⟨_, rfl⟩ (.nil)))))))))⟩⟩,
    ⟨⟨pg_Choice, hd_Choice, po_Choice, sa_Choice⟩, ⟨mkk_Choice, in_Choice, fni_Choice, kc_Choice⟩, nn_Choice_table, nn_Choice_candidates, nn_Choice_sizes, nn_Choice_days, ⟨at_f_Choice_put_candidates, fn_f_Choice_put_candidates, k_Choice_put_candidates⟩, ⟨at_f_Choice_put_days, fn_f_Choice_put_days, k_Choice_put_days⟩, ⟨at_f_Choice_count_sets, fn_f_Choice_count_sets, k_Choice_count_sets⟩, ⟨at_f_Choice_room, fn_f_Choice_room, k_Choice_room⟩, ⟨at_f_Choice_fitting, fn_f_Choice_fitting, k_Choice_fitting⟩, ⟨at_f_Choice_cost, fn_f_Choice_cost, k_Choice_cost⟩, ⟨at_f_Choice_going, fn_f_Choice_going, k_Choice_going⟩, ⟨at_f_Choice_day_cost, fn_f_Choice_day_cost, k_Choice_day_cost⟩, ⟨at_f_Choice_plan_cost, fn_f_Choice_plan_cost, k_Choice_plan_cost⟩, ⟨at_f_Choice_rests, fn_f_Choice_rests, k_Choice_rests⟩, ⟨at_f_Choice_best, fn_f_Choice_best, k_Choice_best⟩, ⟨at_f_Choice_same_always, fn_f_Choice_same_always, k_Choice_same_always⟩, ⟨pg_Line, hd_Line, po_Line, sa_Line⟩, ⟨mkk_Line, in_Line, fni_Line, kc_Line⟩, nn_Line_number, nn_Line_begin, nn_Line_slope, ⟨at_f_Line_key_at, fn_f_Line_key_at, k_Line_key_at⟩, ⟨pg_Token, hd_Token, po_Token, sa_Token⟩, ⟨mkk_Token, in_Token, fni_Token, kc_Token⟩, nn_Token_sort_told, nn_Token_text, nn_Token_number, nn_Token_place, ⟨pg_Question, hd_Question, po_Question, sa_Question⟩, ⟨mkk_Question, in_Question, fni_Question, kc_Question⟩, nn_Question_grouping, nn_Question_often, ⟨pg_Table, hd_Table, po_Table, sa_Table⟩, ⟨mkk_Table, in_Table, fni_Table, kc_Table⟩, nn_Table_columns, nn_Table_rows, nn_Table_questions, ⟨at_f_Table_size, fn_f_Table_size, k_Table_size⟩, ⟨pg_Reader, hd_Reader, po_Reader, sa_Reader⟩, ⟨mkk_Reader, in_Reader, fni_Reader, kc_Reader⟩, nn_Reader_tokens, nn_Reader_at, nn_Reader_table, ⟨at_f_Reader_here, fn_f_Reader_here, k_Reader_here⟩, ⟨at_f_Reader_fail_if, fn_f_Reader_fail_if, k_Reader_fail_if⟩, ⟨at_f_Reader_is_next, fn_f_Reader_is_next, k_Reader_is_next⟩, ⟨at_f_Reader_look_for, fn_f_Reader_look_for, k_Reader_look_for⟩, ⟨at_f_Reader_want, fn_f_Reader_want, k_Reader_want⟩, ⟨at_f_Reader_read_number, fn_f_Reader_read_number, k_Reader_read_number⟩, ⟨at_f_Reader_read_column, fn_f_Reader_read_column, k_Reader_read_column⟩, ⟨at_f_Reader_read_columns, fn_f_Reader_read_columns, k_Reader_read_columns⟩, ⟨at_f_Reader_read_row, fn_f_Reader_read_row, k_Reader_read_row⟩, ⟨at_f_Reader_read_name, fn_f_Reader_read_name, k_Reader_read_name⟩, ⟨at_f_Reader_read_question, fn_f_Reader_read_question, k_Reader_read_question⟩, ⟨at_f_Reader_read, fn_f_Reader_read, k_Reader_read⟩, ⟨pg_Desk, hd_Desk, po_Desk, sa_Desk⟩, ⟨mkk_Desk, in_Desk, fni_Desk, kc_Desk⟩, nn_Desk_held, ⟨at_f_Desk_load, fn_f_Desk_load, k_Desk_load⟩, ⟨at_f_Desk_look_at_room, fn_f_Desk_look_at_room, k_Desk_look_at_room⟩, ⟨at_f_Desk_look_at_set, fn_f_Desk_look_at_set, k_Desk_look_at_set⟩, ⟨at_f_Desk_cands, fn_f_Desk_cands, k_Desk_cands⟩, ⟨at_f_Desk_put_days, fn_f_Desk_put_days, k_Desk_put_days⟩, ⟨at_f_Desk_best, fn_f_Desk_best, k_Desk_best⟩, ⟨at_f_Desk_always, fn_f_Desk_always, k_Desk_always⟩, ⟨at_f_Desk_check, fn_f_Desk_check, k_Desk_check⟩, ⟨at_f_Desk_day, fn_f_Desk_day, k_Desk_day⟩, ⟨at_f_Desk_go, fn_f_Desk_go, k_Desk_go⟩, ⟨at_f_Desk_ends, fn_f_Desk_ends, k_Desk_ends⟩, ⟨pg_CallReader, hd_CallReader, po_CallReader, sa_CallReader⟩, ⟨mkk_CallReader, in_CallReader, fni_CallReader, kc_CallReader⟩, nn_CallReader_calls, nn_CallReader_at, ⟨at_f_CallReader_is_done, fn_f_CallReader_is_done, k_CallReader_is_done⟩, ⟨at_f_CallReader_next_some, fn_f_CallReader_next_some, k_CallReader_next_some⟩⟩,
    ⟨⟨⟨_, _, _, _, _, _, _, _, _, _, _, _, _, _, _, xL_Fault, by decide +kernel⟩, esa_Fault, eex_Fault, ety_Fault, ek_Fault⟩, ei_Fault, eti_Fault, ⟨ega_Fault, egg_Fault, eex_Fault, ehd_Fault⟩, exm_self eex_Fault eic_Fault ety_Fault ess_Fault, nn_Fault_kind, nn_Fault_place, ⟨⟨_, _, _, _, _, _, _, _, _, _, _, _, _, _, _, xL_Refused, by decide +kernel⟩, esa_Refused, eex_Refused, ety_Refused, ek_Refused⟩, ei_Refused, eti_Refused, ⟨ega_Refused, egg_Refused, eex_Refused, ehd_Refused⟩, exm_self eex_Refused eic_Refused ety_Refused ess_Refused, nn_Refused_why⟩,
    ⟨fun_mk (st := s_Choice_init) l_Choice_init c_Choice_init k_Choice_init, fun_mk (st := s_Choice_put_candidates) l_Choice_put_candidates c_Choice_put_candidates k_Choice_put_candidates, fun_mk (st := s_Choice_put_days) l_Choice_put_days c_Choice_put_days k_Choice_put_days, fun_mk (st := s_Choice_count_sets) l_Choice_count_sets c_Choice_count_sets k_Choice_count_sets, fun_mk (st := s_Choice_room) l_Choice_room c_Choice_room k_Choice_room, fun_mk (st := s_Choice_fitting) l_Choice_fitting c_Choice_fitting k_Choice_fitting, fun_mk (st := s_Choice_cost) l_Choice_cost c_Choice_cost k_Choice_cost, fun_mk (st := s_Choice_going) l_Choice_going c_Choice_going k_Choice_going, fun_mk (st := s_Choice_day_cost) l_Choice_day_cost c_Choice_day_cost k_Choice_day_cost, fun_mk (st := s_Choice_plan_cost) l_Choice_plan_cost c_Choice_plan_cost k_Choice_plan_cost, fun_mk (st := s_Choice_rests) l_Choice_rests c_Choice_rests k_Choice_rests, fun_mk (st := s_Choice_best) l_Choice_best c_Choice_best k_Choice_best, fun_mk (st := s_Choice_same_always) l_Choice_same_always c_Choice_same_always k_Choice_same_always, fun_mk (st := s_greatest_divisor) l_greatest_divisor c_greatest_divisor k_greatest_divisor, fun_mk (st := s_fraction) l_fraction c_fraction k_fraction, fun_mk (st := s_Line_init) l_Line_init c_Line_init k_Line_init, fun_mk (st := s_Line_key_at) l_Line_key_at c_Line_key_at k_Line_key_at, fun_mk (st := s_lines_of) l_lines_of c_lines_of k_lines_of, fun_mk (st := s_meeting) l_meeting c_meeting k_meeting, fun_mk (st := s_is_less) l_is_less c_is_less k_is_less, fun_mk (st := s_piece_end) l_piece_end c_piece_end k_piece_end, fun_mk (st := s_pieces_of) l_pieces_of c_pieces_of k_pieces_of, fun_mk (st := s_Fault_init) l_Fault_init c_Fault_init k_Fault_init, fun_mk (st := s_Token_init) l_Token_init c_Token_init k_Token_init, fun_mk (st := s_is_letter) l_is_letter c_is_letter k_is_letter, fun_mk (st := s_is_digit) l_is_digit c_is_digit k_is_digit, fun_mk (st := s_text_of) l_text_of c_text_of k_text_of, fun_mk (st := s_word_token) l_word_token c_word_token k_word_token, fun_mk (st := s_number_token) l_number_token c_number_token k_number_token, fun_mk (st := s_sign_token) l_sign_token c_sign_token k_sign_token, fun_mk (st := s_remark_end) l_remark_end c_remark_end k_remark_end, fun_mk (st := s_word_end) l_word_end c_word_end k_word_end, fun_mk (st := s_number_end) l_number_end c_number_end k_number_end, fun_mk (st := s_tokens_of) l_tokens_of c_tokens_of k_tokens_of, fun_mk (st := s_Question_init) l_Question_init c_Question_init k_Question_init, fun_mk (st := s_Table_init) l_Table_init c_Table_init k_Table_init, fun_mk (st := s_Table_size) l_Table_size c_Table_size k_Table_size, fun_mk (st := s_Reader_init) l_Reader_init c_Reader_init k_Reader_init, fun_mk (st := s_Reader_here) l_Reader_here c_Reader_here k_Reader_here, fun_mk (st := s_Reader_fail_if) l_Reader_fail_if c_Reader_fail_if k_Reader_fail_if, fun_mk (st := s_Reader_is_next) l_Reader_is_next c_Reader_is_next k_Reader_is_next, fun_mk (st := s_Reader_look_for) l_Reader_look_for c_Reader_look_for k_Reader_look_for, fun_mk (st := s_Reader_want) l_Reader_want c_Reader_want k_Reader_want, fun_mk (st := s_Reader_read_number) l_Reader_read_number c_Reader_read_number k_Reader_read_number, fun_mk (st := s_Reader_read_column) l_Reader_read_column c_Reader_read_column k_Reader_read_column, fun_mk (st := s_Reader_read_columns) l_Reader_read_columns c_Reader_read_columns k_Reader_read_columns, fun_mk (st := s_Reader_read_row) l_Reader_read_row c_Reader_read_row k_Reader_read_row, fun_mk (st := s_Reader_read_name) l_Reader_read_name c_Reader_read_name k_Reader_read_name, fun_mk (st := s_Reader_read_question) l_Reader_read_question c_Reader_read_question k_Reader_read_question, fun_mk (st := s_Reader_read) l_Reader_read c_Reader_read k_Reader_read, fun_mk (st := s_table_of) l_table_of c_table_of k_table_of, fun_mk (st := s_Refused_init) l_Refused_init c_Refused_init k_Refused_init, fun_mk (st := s_refuse_if) l_refuse_if c_refuse_if k_refuse_if, fun_mk (st := s_Desk_init) l_Desk_init c_Desk_init k_Desk_init, fun_mk (st := s_Desk_load) l_Desk_load c_Desk_load k_Desk_load, fun_mk (st := s_Desk_look_at_room) l_Desk_look_at_room c_Desk_look_at_room k_Desk_look_at_room, fun_mk (st := s_Desk_look_at_set) l_Desk_look_at_set c_Desk_look_at_set k_Desk_look_at_set, fun_mk (st := s_Desk_cands) l_Desk_cands c_Desk_cands k_Desk_cands, fun_mk (st := s_Desk_put_days) l_Desk_put_days c_Desk_put_days k_Desk_put_days, fun_mk (st := s_Desk_best) l_Desk_best c_Desk_best k_Desk_best, fun_mk (st := s_Desk_always) l_Desk_always c_Desk_always k_Desk_always, fun_mk (st := s_Desk_check) l_Desk_check c_Desk_check k_Desk_check, fun_mk (st := s_Desk_day) l_Desk_day c_Desk_day k_Desk_day, fun_mk (st := s_Desk_go) l_Desk_go c_Desk_go k_Desk_go, fun_mk (st := s_Desk_ends) l_Desk_ends c_Desk_ends k_Desk_ends, fun_mk (st := s_call_told) l_call_told c_call_told k_call_told, fun_mk (st := s_answer_of) l_answer_of c_answer_of k_answer_of, fun_mk (st := s_CallReader_init) l_CallReader_init c_CallReader_init k_CallReader_init, fun_mk (st := s_CallReader_is_done) l_CallReader_is_done c_CallReader_is_done k_CallReader_is_done, fun_mk (st := s_CallReader_next_some) l_CallReader_next_some c_CallReader_next_some k_CallReader_next_some, fun_mk (st := s_answers) l_answers c_answers k_answers⟩⟩
  exact ⟨_, fun s us hu => match us, hu with | [_], _ => .of_eq rfl, fun base _ _ => ok_answers T⟩
theorem sp_answers_of {K : PySem.W.Frag} {H : Hp} {Q : VK} {E : XK} {c : Addr} {l : List Int} (hs : SqL K H c (l.map V.int)) (hq : PyVamvse.answers_asked l = true) (k : ∀ p H', H' p = some (.lst ((PyVamvse.answers l).map V.int)) → Q (.ref p) H') : sp_answers K [.ref c] H Q E := by
  obtain ⟨ks, e1, _, h3, h4, h5⟩ := KA.asked_is hq
  refine ⟨c, ks, rfl, ?_, h3, h5, fun p H' hp => k p H' ?_⟩
  · rw [← e1]
    exact hs
  · rw [h4]
    exact hp
end KW
end
open PySem PySem.W PyProof.Rows
set_option maxRecDepth 100000 in
set_option maxHeartbeats 0 in
theorem PySem.Challenge.cw_keptanswersdesk_s01_answers_holds : PySem.Challenge.rw_keptanswersdesk_s01_answers.Holds := by
  w_on; k_headS; (case hw => exact ⟨[.list [.int 3, .int 0]], by decide +kernel, by decide +kernel⟩)
  k_fillS
  refine L2.walk_specK (r := PySem.Challenge.rw_keptanswersdesk_s01_answers) (k := 11) (CX := L2.CX0) (ps := ["calls"]) (sp := KW.sp_answers) (by decide +kernel) rfl rfl ⟨rfl, by decide, by decide⟩ (fun w h Y => PySem.W.kIn_of Y) ?F ?S (fun _ _ _ _ z => z)
  case F =>
    intro w mg fa h Y KX G hmg
    refine' KW.all_mk KX G hmg ?gm_BLANKS ?gm_WORDS ?gm_NUMBERS ?gm_ROWS ?gg_Choice ?gg_Line ?gg_Fault ?gg_Token ?gg_Question ?gg_Table ?gg_Reader ?gg_Refused ?gg_Desk ?gg_CallReader ?gg_greatest_divisor ?gg_fraction ?gg_lines_of ?gg_meeting ?gg_is_less ?gg_piece_end ?gg_pieces_of ?gg_is_letter ?gg_is_digit ?gg_text_of ?gg_word_token ?gg_number_token ?gg_sign_token ?gg_remark_end ?gg_word_end ?gg_number_end ?gg_tokens_of ?gg_table_of ?gg_refuse_if ?gg_call_told ?gg_answer_of ?gg_answers ?in_Choice ?at_f_Choice_put_candidates ?at_f_Choice_put_days ?at_f_Choice_count_sets ?at_f_Choice_room ?at_f_Choice_fitting ?at_f_Choice_cost ?at_f_Choice_going ?at_f_Choice_day_cost ?at_f_Choice_plan_cost ?at_f_Choice_rests ?at_f_Choice_best ?at_f_Choice_same_always ?in_Line ?at_f_Line_key_at ?in_Token ?in_Question ?in_Table ?at_f_Table_size ?in_Reader ?at_f_Reader_here ?at_f_Reader_fail_if ?at_f_Reader_is_next ?at_f_Reader_look_for ?at_f_Reader_want ?at_f_Reader_read_number ?at_f_Reader_read_column ?at_f_Reader_read_columns ?at_f_Reader_read_row ?at_f_Reader_read_name ?at_f_Reader_read_question ?at_f_Reader_read ?in_Desk ?at_f_Desk_load ?at_f_Desk_look_at_room ?at_f_Desk_look_at_set ?at_f_Desk_cands ?at_f_Desk_put_days ?at_f_Desk_best ?at_f_Desk_always ?at_f_Desk_check ?at_f_Desk_day ?at_f_Desk_go ?at_f_Desk_ends ?in_CallReader ?at_f_CallReader_is_done ?at_f_CallReader_next_some ?ei_Fault ?ei_Refused ?lk_k_BLANKS ?lk_k_WORDS ?lk_k_NUMBERS ?lk_k_ROWS ?xL_Fault ?xL_Refused ?l_Choice_init ?l_Choice_put_candidates ?l_Choice_put_days ?l_Choice_count_sets ?l_Choice_room ?l_Choice_fitting ?l_Choice_cost ?l_Choice_going ?l_Choice_day_cost ?l_Choice_plan_cost ?l_Choice_rests ?l_Choice_best ?l_Choice_same_always ?l_greatest_divisor ?l_fraction ?l_Line_init ?l_Line_key_at ?l_lines_of ?l_meeting ?l_is_less ?l_piece_end ?l_pieces_of ?l_Fault_init ?l_Token_init ?l_is_letter ?l_is_digit ?l_text_of ?l_word_token ?l_number_token ?l_sign_token ?l_remark_end ?l_word_end ?l_number_end ?l_tokens_of ?l_Question_init ?l_Table_init ?l_Table_size ?l_Reader_init ?l_Reader_here ?l_Reader_fail_if ?l_Reader_is_next ?l_Reader_look_for ?l_Reader_want ?l_Reader_read_number ?l_Reader_read_column ?l_Reader_read_columns ?l_Reader_read_row ?l_Reader_read_name ?l_Reader_read_question ?l_Reader_read ?l_table_of ?l_Refused_init ?l_refuse_if ?l_Desk_init ?l_Desk_load ?l_Desk_look_at_room ?l_Desk_look_at_set ?l_Desk_cands ?l_Desk_put_days ?l_Desk_best ?l_Desk_always ?l_Desk_check ?l_Desk_day ?l_Desk_go ?l_Desk_ends ?l_call_told ?l_answer_of ?l_CallReader_init ?l_CallReader_is_done ?l_CallReader_next_some ?l_answers ?gm_TIMES_END ?gm_BAD_TOKEN ?gm_MOST_NAME ?gm_MOST_NUMBER ?gm_REMARK ?gm_ROW_END ?gm_SIGNS ?gm_CAPITALS ?gm_SMALLS ?gm_DIGITS ?gm_TOO_LONG ?gm_NOT_HERE ?gm_TOO_MANY ?gm_COLUMN_TWICE ?gm_NAME_TWICE ?gm_OUT_OF_RANGE ?gm_NO_COLUMN ?gm_MOST_BYTES ?gm_MOST_COLUMNS ?gm_MOST_ROWS ?gm_MOST_QUESTIONS ?gm_MOST_VALUE ?gm_MOST_SUMMED ?gm_MOST_TIMES ?gm_LOAD ?gm_CANDS ?gm_DAYS ?gm_BEST ?gm_ALWAYS ?gm_CHECK ?gm_DAY ?gm_GO ?gm_MOST_CANDIDATES ?gm_MOST_DAYS ?gm_MOST_OFTEN ?gm_MOST_ROOM ?gb_len ?gb_sum ?gb_min ?gb_dict ?gb_list ?gb_ord ?gb_enumerate ?gb_zip ?gb_range ?gb_set ?pg_Choice ?hd_Choice ?po_Choice ?sa_Choice ?mkk_Choice ?fni_Choice ?kc_Choice ?nn_Choice_table ?nn_Choice_candidates ?nn_Choice_sizes ?nn_Choice_days ?fn_f_Choice_put_candidates ?fn_f_Choice_put_days ?fn_f_Choice_count_sets ?fn_f_Choice_room ?fn_f_Choice_fitting ?fn_f_Choice_cost ?fn_f_Choice_going ?fn_f_Choice_day_cost ?fn_f_Choice_plan_cost ?fn_f_Choice_rests ?fn_f_Choice_best ?fn_f_Choice_same_always ?pg_Line ?hd_Line ?po_Line ?sa_Line ?mkk_Line ?fni_Line ?kc_Line ?nn_Line_number ?nn_Line_begin ?nn_Line_slope ?fn_f_Line_key_at ?pg_Token ?hd_Token ?po_Token ?sa_Token ?mkk_Token ?fni_Token ?kc_Token ?nn_Token_sort_told ?nn_Token_text ?nn_Token_number ?nn_Token_place ?pg_Question ?hd_Question ?po_Question ?sa_Question ?mkk_Question ?fni_Question ?kc_Question ?nn_Question_grouping ?nn_Question_often ?pg_Table ?hd_Table ?po_Table ?sa_Table ?mkk_Table ?fni_Table ?kc_Table ?nn_Table_columns ?nn_Table_rows ?nn_Table_questions ?fn_f_Table_size ?pg_Reader ?hd_Reader ?po_Reader ?sa_Reader ?mkk_Reader ?fni_Reader ?kc_Reader ?nn_Reader_tokens ?nn_Reader_at ?nn_Reader_table ?fn_f_Reader_here ?fn_f_Reader_fail_if ?fn_f_Reader_is_next ?fn_f_Reader_look_for ?fn_f_Reader_want ?fn_f_Reader_read_number ?fn_f_Reader_read_column ?fn_f_Reader_read_columns ?fn_f_Reader_read_row ?fn_f_Reader_read_name ?fn_f_Reader_read_question ?fn_f_Reader_read ?pg_Desk ?hd_Desk ?po_Desk ?sa_Desk ?mkk_Desk ?fni_Desk ?kc_Desk ?nn_Desk_held ?fn_f_Desk_load ?fn_f_Desk_look_at_room ?fn_f_Desk_look_at_set ?fn_f_Desk_cands ?fn_f_Desk_put_days ?fn_f_Desk_best ?fn_f_Desk_always ?fn_f_Desk_check ?fn_f_Desk_day ?fn_f_Desk_go ?fn_f_Desk_ends ?pg_CallReader ?hd_CallReader ?po_CallReader ?sa_CallReader ?mkk_CallReader ?fni_CallReader ?kc_CallReader ?nn_CallReader_calls ?nn_CallReader_at ?fn_f_CallReader_is_done ?fn_f_CallReader_next_some ?esa_Fault ?eex_Fault ?ety_Fault ?ek_Fault ?eti_Fault ?ega_Fault ?egg_Fault ?ehd_Fault ?eic_Fault ?ess_Fault ?esa_Refused ?eex_Refused ?ety_Refused ?ek_Refused ?eti_Refused ?ega_Refused ?egg_Refused ?ehd_Refused ?eic_Refused ?ess_Refused ?nn_Fault_kind ?nn_Fault_place ?nn_Refused_why ?c_Choice_init ?k_Choice_init ?c_Choice_put_candidates ?k_Choice_put_candidates ?c_Choice_put_days ?k_Choice_put_days ?c_Choice_count_sets ?k_Choice_count_sets ?c_Choice_room ?k_Choice_room ?c_Choice_fitting ?k_Choice_fitting ?c_Choice_cost ?k_Choice_cost ?c_Choice_going ?k_Choice_going ?c_Choice_day_cost ?k_Choice_day_cost ?c_Choice_plan_cost ?k_Choice_plan_cost ?c_Choice_rests ?k_Choice_rests ?c_Choice_best ?k_Choice_best ?c_Choice_same_always ?k_Choice_same_always ?c_greatest_divisor ?k_greatest_divisor ?c_fraction ?k_fraction ?c_Line_init ?k_Line_init ?c_Line_key_at ?k_Line_key_at ?c_lines_of ?k_lines_of ?c_meeting ?k_meeting ?c_is_less ?k_is_less ?c_piece_end ?k_piece_end ?c_pieces_of ?k_pieces_of ?c_Fault_init ?k_Fault_init ?c_Token_init ?k_Token_init ?c_is_letter ?k_is_letter ?c_is_digit ?k_is_digit ?c_text_of ?k_text_of ?c_word_token ?k_word_token ?c_number_token ?k_number_token ?c_sign_token ?k_sign_token ?c_remark_end ?k_remark_end ?c_word_end ?k_word_end ?c_number_end ?k_number_end ?c_tokens_of ?k_tokens_of ?c_Question_init ?k_Question_init ?c_Table_init ?k_Table_init ?c_Table_size ?k_Table_size ?c_Reader_init ?k_Reader_init ?c_Reader_here ?k_Reader_here ?c_Reader_fail_if ?k_Reader_fail_if ?c_Reader_is_next ?k_Reader_is_next ?c_Reader_look_for ?k_Reader_look_for ?c_Reader_want ?k_Reader_want ?c_Reader_read_number ?k_Reader_read_number ?c_Reader_read_column ?k_Reader_read_column ?c_Reader_read_columns ?k_Reader_read_columns ?c_Reader_read_row ?k_Reader_read_row ?c_Reader_read_name ?k_Reader_read_name ?c_Reader_read_question ?k_Reader_read_question ?c_Reader_read ?k_Reader_read ?c_table_of ?k_table_of ?c_Refused_init ?k_Refused_init ?c_refuse_if ?k_refuse_if ?c_Desk_init ?k_Desk_init ?c_Desk_load ?k_Desk_load ?c_Desk_look_at_room ?k_Desk_look_at_room ?c_Desk_look_at_set ?k_Desk_look_at_set ?c_Desk_cands ?k_Desk_cands ?c_Desk_put_days ?k_Desk_put_days ?c_Desk_best ?k_Desk_best ?c_Desk_always ?k_Desk_always ?c_Desk_check ?k_Desk_check ?c_Desk_day ?k_Desk_day ?c_Desk_go ?k_Desk_go ?c_Desk_ends ?k_Desk_ends ?c_call_told ?k_call_told ?c_answer_of ?k_answer_of ?c_CallReader_init ?k_CallReader_init ?c_CallReader_is_done ?k_CallReader_is_done ?c_CallReader_next_some ?k_CallReader_next_some ?c_answers ?k_answers
    (case gm_BLANKS => k_is)
    (case gm_WORDS => k_is)
    (case gm_NUMBERS => k_is)
    (case gm_ROWS => k_is)
    (case gg_Choice => k_is)
    (case gg_Line => k_is)
    (case gg_Fault => k_is)
    (case gg_Token => k_is)
    (case gg_Question => k_is)
    (case gg_Table => k_is)
    (case gg_Reader => k_is)
    (case gg_Refused => k_is)
    (case gg_Desk => k_is)
    (case gg_CallReader => k_is)
    (case gg_greatest_divisor => k_is)
    (case gg_fraction => k_is)
    (case gg_lines_of => k_is)
    (case gg_meeting => k_is)
    (case gg_is_less => k_is)
    (case gg_piece_end => k_is)
    (case gg_pieces_of => k_is)
    (case gg_is_letter => k_is)
    (case gg_is_digit => k_is)
    (case gg_text_of => k_is)
    (case gg_word_token => k_is)
    (case gg_number_token => k_is)
    (case gg_sign_token => k_is)
    (case gg_remark_end => k_is)
    (case gg_word_end => k_is)
    (case gg_number_end => k_is)
    (case gg_tokens_of => k_is)
    (case gg_table_of => k_is)
    (case gg_refuse_if => k_is)
    (case gg_call_told => k_is)
    (case gg_answer_of => k_is)
    (case gg_answers => k_is)
    (case in_Choice => k_is)
    (case at_f_Choice_put_candidates => k_is)
    (case at_f_Choice_put_days => k_is)
    (case at_f_Choice_count_sets => k_is)
    (case at_f_Choice_room => k_is)
    (case at_f_Choice_fitting => k_is)
    (case at_f_Choice_cost => k_is)
    (case at_f_Choice_going => k_is)
    (case at_f_Choice_day_cost => k_is)
    (case at_f_Choice_plan_cost => k_is)
    (case at_f_Choice_rests => k_is)
    (case at_f_Choice_best => k_is)
    (case at_f_Choice_same_always => k_is)
    (case in_Line => k_is)
    (case at_f_Line_key_at => k_is)
    (case in_Token => k_is)
    (case in_Question => k_is)
    (case in_Table => k_is)
    (case at_f_Table_size => k_is)
    (case in_Reader => k_is)
    (case at_f_Reader_here => k_is)
    (case at_f_Reader_fail_if => k_is)
    (case at_f_Reader_is_next => k_is)
    (case at_f_Reader_look_for => k_is)
    (case at_f_Reader_want => k_is)
    (case at_f_Reader_read_number => k_is)
    (case at_f_Reader_read_column => k_is)
    (case at_f_Reader_read_columns => k_is)
    (case at_f_Reader_read_row => k_is)
    (case at_f_Reader_read_name => k_is)
    (case at_f_Reader_read_question => k_is)
    (case at_f_Reader_read => k_is)
    (case in_Desk => k_is)
    (case at_f_Desk_load => k_is)
    (case at_f_Desk_look_at_room => k_is)
    (case at_f_Desk_look_at_set => k_is)
    (case at_f_Desk_cands => k_is)
    (case at_f_Desk_put_days => k_is)
    (case at_f_Desk_best => k_is)
    (case at_f_Desk_always => k_is)
    (case at_f_Desk_check => k_is)
    (case at_f_Desk_day => k_is)
    (case at_f_Desk_go => k_is)
    (case at_f_Desk_ends => k_is)
    (case in_CallReader => k_is)
    (case at_f_CallReader_is_done => k_is)
    (case at_f_CallReader_next_some => k_is)
    (case ei_Fault => k_is)
    (case ei_Refused => k_is)
    (case lk_k_BLANKS => k_is)
    (case lk_k_WORDS => k_is)
    (case lk_k_NUMBERS => k_is)
    (case lk_k_ROWS => k_is)
    (case xL_Fault => k_is)
    (case xL_Refused => k_is)
    (case l_Choice_init => k_is)
    (case l_Choice_put_candidates => k_is)
    (case l_Choice_put_days => k_is)
    (case l_Choice_count_sets => k_is)
    (case l_Choice_room => k_is)
    (case l_Choice_fitting => k_is)
    (case l_Choice_cost => k_is)
    (case l_Choice_going => k_is)
    (case l_Choice_day_cost => k_is)
    (case l_Choice_plan_cost => k_is)
    (case l_Choice_rests => k_is)
    (case l_Choice_best => k_is)
    (case l_Choice_same_always => k_is)
    (case l_greatest_divisor => k_is)
    (case l_fraction => k_is)
    (case l_Line_init => k_is)
    (case l_Line_key_at => k_is)
    (case l_lines_of => k_is)
    (case l_meeting => k_is)
    (case l_is_less => k_is)
    (case l_piece_end => k_is)
    (case l_pieces_of => k_is)
    (case l_Fault_init => k_is)
    (case l_Token_init => k_is)
    (case l_is_letter => k_is)
    (case l_is_digit => k_is)
    (case l_text_of => k_is)
    (case l_word_token => k_is)
    (case l_number_token => k_is)
    (case l_sign_token => k_is)
    (case l_remark_end => k_is)
    (case l_word_end => k_is)
    (case l_number_end => k_is)
    (case l_tokens_of => k_is)
    (case l_Question_init => k_is)
    (case l_Table_init => k_is)
    (case l_Table_size => k_is)
    (case l_Reader_init => k_is)
    (case l_Reader_here => k_is)
    (case l_Reader_fail_if => k_is)
    (case l_Reader_is_next => k_is)
    (case l_Reader_look_for => k_is)
    (case l_Reader_want => k_is)
    (case l_Reader_read_number => k_is)
    (case l_Reader_read_column => k_is)
    (case l_Reader_read_columns => k_is)
    (case l_Reader_read_row => k_is)
    (case l_Reader_read_name => k_is)
    (case l_Reader_read_question => k_is)
    (case l_Reader_read => k_is)
    (case l_table_of => k_is)
    (case l_Refused_init => k_is)
    (case l_refuse_if => k_is)
    (case l_Desk_init => k_is)
    (case l_Desk_load => k_is)
    (case l_Desk_look_at_room => k_is)
    (case l_Desk_look_at_set => k_is)
    (case l_Desk_cands => k_is)
    (case l_Desk_put_days => k_is)
    (case l_Desk_best => k_is)
    (case l_Desk_always => k_is)
    (case l_Desk_check => k_is)
    (case l_Desk_day => k_is)
    (case l_Desk_go => k_is)
    (case l_Desk_ends => k_is)
    (case l_call_told => k_is)
    (case l_answer_of => k_is)
    (case l_CallReader_init => k_is)
    (case l_CallReader_is_done => k_is)
    (case l_CallReader_next_some => k_is)
    (case l_answers => k_is)
    (case gm_TIMES_END => k_is)
    (case gm_BAD_TOKEN => k_is)
    (case gm_MOST_NAME => k_is)
    (case gm_MOST_NUMBER => k_is)
    (case gm_REMARK => k_is)
    (case gm_ROW_END => k_is)
    (case gm_SIGNS => k_is)
    (case gm_CAPITALS => k_is)
    (case gm_SMALLS => k_is)
    (case gm_DIGITS => k_is)
    (case gm_TOO_LONG => k_is)
    (case gm_NOT_HERE => k_is)
    (case gm_TOO_MANY => k_is)
    (case gm_COLUMN_TWICE => k_is)
    (case gm_NAME_TWICE => k_is)
    (case gm_OUT_OF_RANGE => k_is)
    (case gm_NO_COLUMN => k_is)
    (case gm_MOST_BYTES => k_is)
    (case gm_MOST_COLUMNS => k_is)
    (case gm_MOST_ROWS => k_is)
    (case gm_MOST_QUESTIONS => k_is)
    (case gm_MOST_VALUE => k_is)
    (case gm_MOST_SUMMED => k_is)
    (case gm_MOST_TIMES => k_is)
    (case gm_LOAD => k_is)
    (case gm_CANDS => k_is)
    (case gm_DAYS => k_is)
    (case gm_BEST => k_is)
    (case gm_ALWAYS => k_is)
    (case gm_CHECK => k_is)
    (case gm_DAY => k_is)
    (case gm_GO => k_is)
    (case gm_MOST_CANDIDATES => k_is)
    (case gm_MOST_DAYS => k_is)
    (case gm_MOST_OFTEN => k_is)
    (case gm_MOST_ROOM => k_is)
    (case gb_len => k_is)
    (case gb_sum => k_is)
    (case gb_min => k_is)
    (case gb_dict => k_is)
    (case gb_list => k_is)
    (case gb_ord => k_is)
    (case gb_enumerate => k_is)
    (case gb_zip => k_is)
    (case gb_range => k_is)
    (case gb_set => k_is)
    (case pg_Choice => k_is)
    (case hd_Choice => k_is)
    (case po_Choice => k_is)
    (case sa_Choice => k_is)
    (case mkk_Choice => k_is)
    (case fni_Choice => k_is)
    (case kc_Choice => k_is)
    (case nn_Choice_table => k_is)
    (case nn_Choice_candidates => k_is)
    (case nn_Choice_sizes => k_is)
    (case nn_Choice_days => k_is)
    (case fn_f_Choice_put_candidates => k_is)
    (case fn_f_Choice_put_days => k_is)
    (case fn_f_Choice_count_sets => k_is)
    (case fn_f_Choice_room => k_is)
    (case fn_f_Choice_fitting => k_is)
    (case fn_f_Choice_cost => k_is)
    (case fn_f_Choice_going => k_is)
    (case fn_f_Choice_day_cost => k_is)
    (case fn_f_Choice_plan_cost => k_is)
    (case fn_f_Choice_rests => k_is)
    (case fn_f_Choice_best => k_is)
    (case fn_f_Choice_same_always => k_is)
    (case pg_Line => k_is)
    (case hd_Line => k_is)
    (case po_Line => k_is)
    (case sa_Line => k_is)
    (case mkk_Line => k_is)
    (case fni_Line => k_is)
    (case kc_Line => k_is)
    (case nn_Line_number => k_is)
    (case nn_Line_begin => k_is)
    (case nn_Line_slope => k_is)
    (case fn_f_Line_key_at => k_is)
    (case pg_Token => k_is)
    (case hd_Token => k_is)
    (case po_Token => k_is)
    (case sa_Token => k_is)
    (case mkk_Token => k_is)
    (case fni_Token => k_is)
    (case kc_Token => k_is)
    (case nn_Token_sort_told => k_is)
    (case nn_Token_text => k_is)
    (case nn_Token_number => k_is)
    (case nn_Token_place => k_is)
    (case pg_Question => k_is)
    (case hd_Question => k_is)
    (case po_Question => k_is)
    (case sa_Question => k_is)
    (case mkk_Question => k_is)
    (case fni_Question => k_is)
    (case kc_Question => k_is)
    (case nn_Question_grouping => k_is)
    (case nn_Question_often => k_is)
    (case pg_Table => k_is)
    (case hd_Table => k_is)
    (case po_Table => k_is)
    (case sa_Table => k_is)
    (case mkk_Table => k_is)
    (case fni_Table => k_is)
    (case kc_Table => k_is)
    (case nn_Table_columns => k_is)
    (case nn_Table_rows => k_is)
    (case nn_Table_questions => k_is)
    (case fn_f_Table_size => k_is)
    (case pg_Reader => k_is)
    (case hd_Reader => k_is)
    (case po_Reader => k_is)
    (case sa_Reader => k_is)
    (case mkk_Reader => k_is)
    (case fni_Reader => k_is)
    (case kc_Reader => k_is)
    (case nn_Reader_tokens => k_is)
    (case nn_Reader_at => k_is)
    (case nn_Reader_table => k_is)
    (case fn_f_Reader_here => k_is)
    (case fn_f_Reader_fail_if => k_is)
    (case fn_f_Reader_is_next => k_is)
    (case fn_f_Reader_look_for => k_is)
    (case fn_f_Reader_want => k_is)
    (case fn_f_Reader_read_number => k_is)
    (case fn_f_Reader_read_column => k_is)
    (case fn_f_Reader_read_columns => k_is)
    (case fn_f_Reader_read_row => k_is)
    (case fn_f_Reader_read_name => k_is)
    (case fn_f_Reader_read_question => k_is)
    (case fn_f_Reader_read => k_is)
    (case pg_Desk => k_is)
    (case hd_Desk => k_is)
    (case po_Desk => k_is)
    (case sa_Desk => k_is)
    (case mkk_Desk => k_is)
    (case fni_Desk => k_is)
    (case kc_Desk => k_is)
    (case nn_Desk_held => k_is)
    (case fn_f_Desk_load => k_is)
    (case fn_f_Desk_look_at_room => k_is)
    (case fn_f_Desk_look_at_set => k_is)
    (case fn_f_Desk_cands => k_is)
    (case fn_f_Desk_put_days => k_is)
    (case fn_f_Desk_best => k_is)
    (case fn_f_Desk_always => k_is)
    (case fn_f_Desk_check => k_is)
    (case fn_f_Desk_day => k_is)
    (case fn_f_Desk_go => k_is)
    (case fn_f_Desk_ends => k_is)
    (case pg_CallReader => k_is)
    (case hd_CallReader => k_is)
    (case po_CallReader => k_is)
    (case sa_CallReader => k_is)
    (case mkk_CallReader => k_is)
    (case fni_CallReader => k_is)
    (case kc_CallReader => k_is)
    (case nn_CallReader_calls => k_is)
    (case nn_CallReader_at => k_is)
    (case fn_f_CallReader_is_done => k_is)
    (case fn_f_CallReader_next_some => k_is)
    (case esa_Fault => k_is)
    (case eex_Fault => k_is)
    (case ety_Fault => k_is)
    (case ek_Fault => k_is)
    (case eti_Fault => k_is)
    (case ega_Fault => k_is)
    (case egg_Fault => k_is)
    (case ehd_Fault => k_is)
    (case eic_Fault => k_is)
    (case ess_Fault => first | rfl | k_is)
    (case esa_Refused => k_is)
    (case eex_Refused => k_is)
    (case ety_Refused => k_is)
    (case ek_Refused => k_is)
    (case eti_Refused => k_is)
    (case ega_Refused => k_is)
    (case egg_Refused => k_is)
    (case ehd_Refused => k_is)
    (case eic_Refused => k_is)
    (case ess_Refused => first | rfl | k_is)
    (case nn_Fault_kind => k_is)
    (case nn_Fault_place => k_is)
    (case nn_Refused_why => k_is)
    (case c_Choice_init => k_is)
    (case k_Choice_init => k_is)
    (case c_Choice_put_candidates => k_is)
    (case k_Choice_put_candidates => k_is)
    (case c_Choice_put_days => k_is)
    (case k_Choice_put_days => k_is)
    (case c_Choice_count_sets => k_is)
    (case k_Choice_count_sets => k_is)
    (case c_Choice_room => k_is)
    (case k_Choice_room => k_is)
    (case c_Choice_fitting => k_is)
    (case k_Choice_fitting => k_is)
    (case c_Choice_cost => k_is)
    (case k_Choice_cost => k_is)
    (case c_Choice_going => k_is)
    (case k_Choice_going => k_is)
    (case c_Choice_day_cost => k_is)
    (case k_Choice_day_cost => k_is)
    (case c_Choice_plan_cost => k_is)
    (case k_Choice_plan_cost => k_is)
    (case c_Choice_rests => k_is)
    (case k_Choice_rests => k_is)
    (case c_Choice_best => k_is)
    (case k_Choice_best => k_is)
    (case c_Choice_same_always => k_is)
    (case k_Choice_same_always => k_is)
    (case c_greatest_divisor => k_is)
    (case k_greatest_divisor => k_is)
    (case c_fraction => k_is)
    (case k_fraction => k_is)
    (case c_Line_init => k_is)
    (case k_Line_init => k_is)
    (case c_Line_key_at => k_is)
    (case k_Line_key_at => k_is)
    (case c_lines_of => k_is)
    (case k_lines_of => k_is)
    (case c_meeting => k_is)
    (case k_meeting => k_is)
    (case c_is_less => k_is)
    (case k_is_less => k_is)
    (case c_piece_end => k_is)
    (case k_piece_end => k_is)
    (case c_pieces_of => k_is)
    (case k_pieces_of => k_is)
    (case c_Fault_init => k_is)
    (case k_Fault_init => k_is)
    (case c_Token_init => k_is)
    (case k_Token_init => k_is)
    (case c_is_letter => k_is)
    (case k_is_letter => k_is)
    (case c_is_digit => k_is)
    (case k_is_digit => k_is)
    (case c_text_of => k_is)
    (case k_text_of => k_is)
    (case c_word_token => k_is)
    (case k_word_token => k_is)
    (case c_number_token => k_is)
    (case k_number_token => k_is)
    (case c_sign_token => k_is)
    (case k_sign_token => k_is)
    (case c_remark_end => k_is)
    (case k_remark_end => k_is)
    (case c_word_end => k_is)
    (case k_word_end => k_is)
    (case c_number_end => k_is)
    (case k_number_end => k_is)
    (case c_tokens_of => k_is)
    (case k_tokens_of => k_is)
    (case c_Question_init => k_is)
    (case k_Question_init => k_is)
    (case c_Table_init => k_is)
    (case k_Table_init => k_is)
    (case c_Table_size => k_is)
    (case k_Table_size => k_is)
    (case c_Reader_init => k_is)
    (case k_Reader_init => k_is)
    (case c_Reader_here => k_is)
    (case k_Reader_here => k_is)
    (case c_Reader_fail_if => k_is)
    (case k_Reader_fail_if => k_is)
    (case c_Reader_is_next => k_is)
    (case k_Reader_is_next => k_is)
    (case c_Reader_look_for => k_is)
    (case k_Reader_look_for => k_is)
    (case c_Reader_want => k_is)
    (case k_Reader_want => k_is)
    (case c_Reader_read_number => k_is)
    (case k_Reader_read_number => k_is)
    (case c_Reader_read_column => k_is)
    (case k_Reader_read_column => k_is)
    (case c_Reader_read_columns => k_is)
    (case k_Reader_read_columns => k_is)
    (case c_Reader_read_row => k_is)
    (case k_Reader_read_row => k_is)
    (case c_Reader_read_name => k_is)
    (case k_Reader_read_name => k_is)
    (case c_Reader_read_question => k_is)
    (case k_Reader_read_question => k_is)
    (case c_Reader_read => k_is)
    (case k_Reader_read => k_is)
    (case c_table_of => k_is)
    (case k_table_of => k_is)
    (case c_Refused_init => k_is)
    (case k_Refused_init => k_is)
    (case c_refuse_if => k_is)
    (case k_refuse_if => k_is)
    (case c_Desk_init => k_is)
    (case k_Desk_init => k_is)
    (case c_Desk_load => k_is)
    (case k_Desk_load => k_is)
    (case c_Desk_look_at_room => k_is)
    (case k_Desk_look_at_room => k_is)
    (case c_Desk_look_at_set => k_is)
    (case k_Desk_look_at_set => k_is)
    (case c_Desk_cands => k_is)
    (case k_Desk_cands => k_is)
    (case c_Desk_put_days => k_is)
    (case k_Desk_put_days => k_is)
    (case c_Desk_best => k_is)
    (case k_Desk_best => k_is)
    (case c_Desk_always => k_is)
    (case k_Desk_always => k_is)
    (case c_Desk_check => k_is)
    (case k_Desk_check => k_is)
    (case c_Desk_day => k_is)
    (case k_Desk_day => k_is)
    (case c_Desk_go => k_is)
    (case k_Desk_go => k_is)
    (case c_Desk_ends => k_is)
    (case k_Desk_ends => k_is)
    (case c_call_told => k_is)
    (case k_call_told => k_is)
    (case c_answer_of => k_is)
    (case k_answer_of => k_is)
    (case c_CallReader_init => k_is)
    (case k_CallReader_init => k_is)
    (case c_CallReader_is_done => k_is)
    (case k_CallReader_is_done => k_is)
    (case c_CallReader_next_some => k_is)
    (case k_CallReader_next_some => k_is)
    (case c_answers => k_is)
    (case k_answers => k_is)
  case S =>
    intro K H xs a hO hwi hask hx
    cases hx with
    | cons h1 h2 =>
      cases h2
      cases h1 with
      | lst hs ha =>
        have e := L2.ints_dw a.1 _ ha
        subst e
        exact KW.sp_answers_of hs hask fun p H' hp => .lst (L2.SqL.of hp) (L2.dw_ints _)
#print axioms PySem.Challenge.cw_keptanswersdesk_s01_answers_holds
