import PyProof.Rows.All
import Wide.All
import OpenK.AllK
import Wide.FinOn
import KE.KStateDown
import KE.DatumOrd
import KE.GoesEnum
import HandS.ForMost
import HandS.More
import HandS.Defaults
import HandS.Head0
import HandS.Head1
import HandS.Head2
import HandS.HeadEnd
import HandS.HeadHook1
import HandS.HeadHook2
import HandS.Strs
import HandS.SetFor
import HandS.SetKeys
import HandS.Zip
import HandS.Style
import HandS.TupLe
import HandS.IsInst
import HandS.SortInts
import HandS.Small
import PySem.Challenge.RW_shutways_k52_whole_parts
import HandS.Walk
import HandS.TupSets
/-! Sw: open ways that are a forest: the walk of a frame over them. Plain Lean, no program in sight. -/
namespace Sw

/-! ### lists -/
theorem nd_le : ∀ {l V : List Int}, l.Nodup → (∀ x, x ∈ l → x ∈ V) → l.length ≤ V.length
  | [], _, _, _ => Nat.zero_le _
  | x :: l, V, hn, hs => by
    have hx : x ∈ V := hs x List.mem_cons_self
    have hl : l.length ≤ (V.erase x).length := nd_le (List.nodup_cons.mp hn).2 fun y hy => by
      have hne : y ≠ x := fun e => (List.nodup_cons.mp hn).1 (e ▸ hy)
      exact (List.mem_erase_of_ne hne).mpr (hs y (List.mem_cons_of_mem _ hy))
    have he : (V.erase x).length = V.length - 1 := List.length_erase_of_mem hx
    have hp : 0 < V.length := List.length_pos_of_mem hx
    simp only [List.length_cons]
    omega
theorem min_at (rk : Int → Int) : ∀ {V : List Int}, V ≠ [] → ∃ m, m ∈ V ∧ ∀ x, x ∈ V → rk m ≤ rk x
  | [], h => absurd rfl h
  | [a], _ => ⟨a, List.mem_cons_self, fun x hx => by
      have e : x = a := by simpa using hx
      rw [e]; exact Int.le_refl _⟩
  | a :: b :: l, _ => by
    obtain ⟨m, hm, hle⟩ := min_at rk (V := b :: l) (by simp)
    rcases Int.lt_or_le (rk a) (rk m) with h | h
    · refine ⟨a, List.mem_cons_self, fun x hx => ?_⟩
      rcases List.mem_cons.mp hx with e | hx
      · rw [e]; exact Int.le_refl _
      · exact Int.le_of_lt (Int.lt_of_lt_of_le h (hle x hx))
    · refine ⟨m, List.mem_cons_of_mem _ hm, fun x hx => ?_⟩
      rcases List.mem_cons.mp hx with e | hx
      · rw [e]; exact h
      · exact hle x hx
theorem nd_inj {α : Type} {l : List α} (hN : l.Nodup) {i j : Nat} {x : α} (a : l[i]? = some x) (b : l[j]? = some x) : i = j := by
  obtain ⟨h1, e1⟩ := List.getElem?_eq_some_iff.mp a
  obtain ⟨h2, e2⟩ := List.getElem?_eq_some_iff.mp b
  exact (List.getElem_inj hN).mp (e1.trans e2.symm)
theorem lt_nd {l : List Int} (h : l.Pairwise (· < ·)) : l.Nodup := h.imp fun hab e => by omega
/-- two rising lists of the same members are one -/
theorem rise_ext : ∀ {l m : List Int}, l.Pairwise (· < ·) → m.Pairwise (· < ·) → (∀ x, x ∈ l ↔ x ∈ m) → l = m
  | [], [], _, _, _ => rfl
  | [], b :: m, _, _, h => absurd ((h b).mpr List.mem_cons_self) (by simp)
  | a :: l, [], _, _, h => absurd ((h a).mp List.mem_cons_self) (by simp)
  | a :: l, b :: m, hl, hm, h => by
    obtain ⟨hl1, hl2⟩ := List.pairwise_cons.mp hl
    obtain ⟨hm1, hm2⟩ := List.pairwise_cons.mp hm
    have e : a = b := by
      rcases List.mem_cons.mp ((h a).mp List.mem_cons_self) with e | h1
      · exact e
      · rcases List.mem_cons.mp ((h b).mpr List.mem_cons_self) with e | h2
        · exact e.symm
        · have := hm1 a h1
          have := hl1 b h2
          omega
    subst e
    rw [rise_ext hl2 hm2 fun x => ⟨fun hx => ?_, fun hx => ?_⟩]
    · rcases List.mem_cons.mp ((h x).mp (List.mem_cons_of_mem _ hx)) with e | h1
      · have := hl1 x hx; omega
      · exact h1
    · rcases List.mem_cons.mp ((h x).mpr (List.mem_cons_of_mem _ hx)) with e | h1
      · have := hm1 x hx; omega
      · exact h1
theorem rise_of {l : List Int} (h : l.Pairwise (· ≤ ·)) (n : l.Nodup) : l.Pairwise (· < ·) := by
  have h2 : l.Pairwise fun a b => a ≤ b ∧ a ≠ b := List.pairwise_and_iff.mpr ⟨h, n⟩
  exact h2.imp fun {a b} ⟨x, y⟩ => by omega

theorem snoc_ind {α : Type} {P : List α → Prop} (h0 : P []) (hs : ∀ l a, P l → P (l ++ [a])) (l : List α) : P l := by
  have h : ∀ m : List α, P m.reverse := fun m => by
    induction m with
    | nil => exact h0
    | cons a m ih => rw [List.reverse_cons]; exact hs _ _ ih
  have := h l.reverse
  rwa [List.reverse_reverse] at this

/-! ### ways -/
structure Way where
  pl : Int
  ch : Int
  pa : Int
structure Forest (W : List Way) : Prop where
  pls : (W.map Way.pl).Pairwise (· < ·)
  one : ∀ w, w ∈ W → ∀ v, v ∈ W → w.ch = v.ch → w = v
  rk : ∃ rk : Int → Int, ∀ w, w ∈ W → rk w.pa < rk w.ch
def adj (W : List Way) (b : Int) : List (Int × Int) := W.flatMap fun w => (if w.ch = b then [(w.pl, w.pa)] else []) ++ (if w.pa = b then [(w.pl, w.ch)] else [])
theorem mem_adj {W : List Way} {b p o : Int} : (p, o) ∈ adj W b ↔ ∃ w, w ∈ W ∧ w.pl = p ∧ ((w.ch = b ∧ w.pa = o) ∨ (w.pa = b ∧ w.ch = o)) := by
  unfold adj
  rw [List.mem_flatMap]
  constructor
  · rintro ⟨w, hw, h⟩
    refine ⟨w, hw, ?_⟩
    rcases List.mem_append.mp h with h | h
    · by_cases c : w.ch = b
      · rw [if_pos c] at h
        have e : (p, o) = (w.pl, w.pa) := by simpa using h
        cases e
        exact ⟨rfl, .inl ⟨c, rfl⟩⟩
      · rw [if_neg c] at h; cases h
    · by_cases c : w.pa = b
      · rw [if_pos c] at h
        have e : (p, o) = (w.pl, w.ch) := by simpa using h
        cases e
        exact ⟨rfl, .inr ⟨c, rfl⟩⟩
      · rw [if_neg c] at h; cases h
  · rintro ⟨w, hw, rfl, h⟩
    refine ⟨w, hw, List.mem_append.mpr ?_⟩
    rcases h with ⟨c, rfl⟩ | ⟨c, rfl⟩
    · left; rw [if_pos c]; exact List.mem_cons_self
    · right; rw [if_pos c]; exact List.mem_cons_self
section
variable {W : List Way} (F : Forest W)
include F
theorem Forest.same {w v : Way} (hw : w ∈ W) (hv : v ∈ W) (e : w.pl = v.pl) : w = v := by
  obtain ⟨i, hi, ei⟩ := List.mem_iff_getElem.mp hw
  obtain ⟨j, hj, ej⟩ := List.mem_iff_getElem.mp hv
  have h1 : (W.map Way.pl)[i]? = some w.pl := by rw [List.getElem?_map, List.getElem?_eq_getElem hi, ei]; rfl
  have h2 : (W.map Way.pl)[j]? = some w.pl := by rw [List.getElem?_map, List.getElem?_eq_getElem hj, ej, e]; rfl
  have h3 := nd_inj (lt_nd F.pls) h1 h2
  subst h3
  exact ei.symm.trans ej
theorem Forest.ends {w : Way} (hw : w ∈ W) : w.ch ≠ w.pa := fun e => by
  obtain ⟨rk, h⟩ := F.rk
  have := h w hw
  rw [e] at this
  omega
theorem Forest.nd : W.Nodup := by
  have h : (W.map Way.pl).Pairwise (· ≠ ·) := lt_nd F.pls
  exact (List.pairwise_map.mp h).imp fun hab e => hab (congrArg Way.pl e)
/-- as many ways as bridges have no place among these bridges -/
theorem Forest.few {V P : List Int} (hV : V ≠ []) (hP : P.Nodup) (h : ∀ p, p ∈ P → ∃ w, w ∈ W ∧ w.pl = p ∧ w.ch ∈ V ∧ w.pa ∈ V) : P.length < V.length := by
  obtain ⟨rk, hrk⟩ := F.rk
  obtain ⟨m, hm, hle⟩ := min_at rk hV
  let E := W.filter fun w => decide (w.pl ∈ P ∧ w.ch ∈ V ∧ w.pa ∈ V)
  have hE : ∀ w, w ∈ E → w ∈ W ∧ w.pl ∈ P ∧ w.ch ∈ V ∧ w.pa ∈ V := fun w hw => by
    obtain ⟨a, b⟩ := List.mem_filter.mp hw
    exact ⟨a, of_decide_eq_true b⟩
  have h1 : P.length ≤ (E.map Way.pl).length := nd_le hP fun p hp => by
    obtain ⟨w, hw, e, c1, c2⟩ := h p hp
    exact List.mem_map.mpr ⟨w, List.mem_filter.mpr ⟨hw, decide_eq_true ⟨e ▸ hp, c1, c2⟩⟩, e⟩
  have h2 : (E.map Way.ch).Nodup := by
    refine List.pairwise_map.mpr ?_
    have hn : E.Pairwise (· ≠ ·) := List.Pairwise.sublist List.filter_sublist F.nd
    exact hn.imp_of_mem fun {a b} ha hb hab e => hab (F.one a (hE a ha).1 b (hE b hb).1 e)
  have h3 : m ∉ E.map Way.ch := fun hc => by
    obtain ⟨w, hw, e⟩ := List.mem_map.mp hc
    obtain ⟨a, _, _, c⟩ := hE w hw
    have := hrk w a
    have := hle _ c
    rw [e] at *
    omega
  have h4 : (m :: E.map Way.ch).length ≤ V.length := nd_le (List.nodup_cons.mpr ⟨h3, h2⟩) fun x hx => by
    rcases List.mem_cons.mp hx with e | hx
    · rw [e]; exact hm
    · obtain ⟨w, hw, e⟩ := List.mem_map.mp hx
      rw [← e]; exact (hE w hw).2.2.1
  simp only [List.length_cons, List.length_map] at h1 h4
  omega
theorem Forest.adj_nd (b : Int) : ((adj W b).map (·.1)).Nodup := by
  have hn : (W.map Way.pl).Pairwise (· ≠ ·) := lt_nd F.pls
  have hn2 : W.Pairwise fun w v => w.pl ≠ v.pl := List.pairwise_map.mp hn
  have hend : ∀ w, w ∈ W → w.ch ≠ w.pa := fun w hw => F.ends hw
  unfold adj
  clear hn F
  induction W with
  | nil => exact List.nodup_nil
  | cons w W ih =>
    obtain ⟨h1, h2⟩ := List.pairwise_cons.mp hn2
    have ih' := ih h2 fun v hv => hend v (List.mem_cons_of_mem _ hv)
    rw [List.flatMap_cons, List.map_append]
    refine List.nodup_append.mpr ⟨?_, ih', ?_⟩
    · by_cases c1 : w.ch = b
      · have c2 : ¬ w.pa = b := fun e => hend w List.mem_cons_self (c1.trans e.symm)
        rw [if_pos c1, if_neg c2]
        simp
      · rw [if_neg c1]
        by_cases c2 : w.pa = b
        · rw [if_pos c2]; simp
        · rw [if_neg c2]; simp
    · intro x hx y hy e
      subst e
      have ex : x = w.pl := by
        obtain ⟨q, hq, e⟩ := List.mem_map.mp hx
        rcases List.mem_append.mp hq with hq | hq
        · split at hq
          · rw [← e]; have := List.mem_singleton.mp hq; rw [this]
          · cases hq
        · split at hq
          · rw [← e]; have := List.mem_singleton.mp hq; rw [this]
          · cases hq
      obtain ⟨q, hq, e⟩ := List.mem_map.mp hy
      have hq' : (q.1, q.2) ∈ adj W b := hq
      obtain ⟨v, hv, ev, _⟩ := mem_adj.mp hq'
      exact h1 v hv (by rw [ev, ← ex, e])
end

/-! ### the frame's walk -/
abbrev Told := List (Int × Option Int)
/-- a tree from b: each but the first came over a way from one ahead of it (among the first n) -/
structure Tree (W : List Way) (b : Int) (n : Nat) (told : Told) : Prop where
  hd : told[0]? = some (b, none)
  nd : (told.map (·.1)).Nodup
  came : ∀ (k : Nat) (o : Int) (cm : Option Int), told[k]? = some (o, cm) → k = 0 ∨ ∃ (p : Int) (j : Nat) (x : Int) (cj : Option Int), cm = some p ∧ j < k ∧ j < n ∧ told[j]? = some (x, cj) ∧ (p, o) ∈ adj W x
theorem Tree.start (W : List Way) (b : Int) : Tree W b 0 [(b, none)] :=
  ⟨rfl, by simp, fun k o cm h => by
    cases k with
    | zero => exact .inl rfl
    | succ k => simp at h⟩
theorem Tree.ix {W : List Way} {b : Int} {n : Nat} {told : Told} (T : Tree W b n told) {i j : Nat} {x : Int} {c d : Option Int} (h1 : told[i]? = some (x, c)) (h2 : told[j]? = some (x, d)) : i = j := by
  refine nd_inj T.nd (x := x) ?_ ?_
  · rw [List.getElem?_map, h1]; rfl
  · rw [List.getElem?_map, h2]; rfl
theorem Tree.mono {W : List Way} {b : Int} {n m : Nat} {told : Told} (T : Tree W b n told) (h : n ≤ m) : Tree W b m told :=
  ⟨T.hd, T.nd, fun k o cm e => (T.came k o cm e).imp id fun ⟨p, j, x, cj, a, b, c, d⟩ => ⟨p, j, x, cj, a, b, Nat.lt_of_lt_of_le c h, d⟩⟩
def plsOf (told : Told) : List Int := told.filterMap (·.2)
theorem mem_pls {told : Told} {p : Int} : p ∈ plsOf told ↔ ∃ (k : Nat) (o : Int), told[k]? = some (o, some p) := by
  unfold plsOf
  rw [List.mem_filterMap]
  constructor
  · rintro ⟨⟨o, c⟩, h, e⟩
    obtain ⟨k, hk⟩ := List.getElem?_of_mem h
    have e' : c = some p := e
    subst e'
    exact ⟨k, o, hk⟩
  · rintro ⟨k, o, h⟩
    exact ⟨(o, some p), List.mem_of_getElem? h, rfl⟩
theorem pls_nd_aux : ∀ {told : Told}, (∀ (i j : Nat) (o o' p : Int), told[i]? = some (o, some p) → told[j]? = some (o', some p) → i = j) → (plsOf told).Nodup
  | [], _ => List.nodup_nil
  | (o, c) :: t, h => by
    have ht : (plsOf t).Nodup := pls_nd_aux fun i j o o' p h1 h2 => by
      have := h (i + 1) (j + 1) o o' p (by simpa using h1) (by simpa using h2)
      omega
    cases c with
    | none => exact ht
    | some p =>
      show (p :: plsOf t).Nodup
      refine List.nodup_cons.mpr ⟨fun hp => ?_, ht⟩
      obtain ⟨k, o', hk⟩ := mem_pls.mp hp
      have := h 0 (k + 1) o o' p rfl (by simpa using hk)
      omega
theorem len_pls : ∀ {t : Told}, (∀ x, x ∈ t → ∃ p, x.2 = some p) → (plsOf t).length = t.length
  | [], _ => rfl
  | (o, c) :: t, h => by
    obtain ⟨p, e⟩ := h (o, c) List.mem_cons_self
    have e' : c = some p := e
    subst e'
    show (p :: plsOf t).length = _
    simp only [List.length_cons]
    rw [len_pls fun x hx => h x (List.mem_cons_of_mem _ hx)]
section
variable {W : List Way} (F : Forest W) {b : Int} {n : Nat} {told : Told}
include F
/-- a way's two ends, seen from one or the other -/
theorem Forest.two {p x o y q : Int} (h1 : (p, o) ∈ adj W x) (h2 : (p, q) ∈ adj W y) : (x = y ∧ o = q) ∨ (x = q ∧ o = y) := by
  obtain ⟨w, hw, e1, c1⟩ := mem_adj.mp h1
  obtain ⟨v, hv, e2, c2⟩ := mem_adj.mp h2
  have e := F.same hw hv (e1.trans e2.symm)
  subst e
  rcases c1 with ⟨a1, a2⟩ | ⟨a1, a2⟩ <;> rcases c2 with ⟨b1, b2⟩ | ⟨b1, b2⟩
  · left; exact ⟨a1.symm.trans b1, a2.symm.trans b2⟩
  · right; exact ⟨a1.symm.trans b2, a2.symm.trans b1⟩
  · right; exact ⟨a1.symm.trans b2, a2.symm.trans b1⟩
  · left; exact ⟨a1.symm.trans b1, a2.symm.trans b2⟩
theorem Tree.pls_nd (T : Tree W b n told) : (plsOf told).Nodup := by
  refine pls_nd_aux fun i j o o' p h1 h2 => ?_
  rcases T.came i o _ h1 with e | ⟨p1, j1, x1, c1, e1, l1, _, g1, a1⟩
  · subst e; rw [T.hd] at h1; cases h1
  rcases T.came j o' _ h2 with e | ⟨p2, j2, x2, c2, e2, l2, _, g2, a2⟩
  · subst e; rw [T.hd] at h2; cases h2
  cases e1; cases e2
  rcases F.two a1 a2 with ⟨_, e⟩ | ⟨e3, e4⟩
  · subst e; exact T.ix h1 h2
  · subst e3 e4
    have := T.ix g1 h2
    have := T.ix g2 h1
    omega
theorem Tree.pls_len (T : Tree W b n told) : (plsOf told).length + 1 = told.length := by
  cases told with
  | nil => have := T.hd; cases this
  | cons x t =>
    have e : x = (b, none) := by have := T.hd; simpa using this
    subst e
    have : plsOf ((b, none) :: t) = plsOf t := rfl
    rw [this, len_pls fun y hy => ?_]
    · rfl
    · obtain ⟨k, hk⟩ := List.getElem?_of_mem hy
      rcases T.came (k + 1) y.1 y.2 (by simpa using hk) with e | ⟨p, _, _, _, e, _⟩
      · omega
      · exact ⟨p, e⟩
theorem Tree.way (T : Tree W b n told) {p : Int} (hp : p ∈ plsOf told) : ∃ w, w ∈ W ∧ w.pl = p ∧ w.ch ∈ told.map (·.1) ∧ w.pa ∈ told.map (·.1) := by
  obtain ⟨k, o, hk⟩ := mem_pls.mp hp
  rcases T.came k o _ hk with e | ⟨p1, j, x, c, e, _, _, g, a⟩
  · subst e; rw [T.hd] at hk; cases hk
  cases e
  have m1 : o ∈ told.map (·.1) := List.mem_map.mpr ⟨_, List.mem_of_getElem? hk, rfl⟩
  have m2 : x ∈ told.map (·.1) := List.mem_map.mpr ⟨_, List.mem_of_getElem? g, rfl⟩
  obtain ⟨w, hw, ew, c1⟩ := mem_adj.mp a
  refine ⟨w, hw, ew, ?_⟩
  rcases c1 with ⟨a1, a2⟩ | ⟨a1, a2⟩
  · rw [a1, a2]; exact ⟨m2, m1⟩
  · rw [a1, a2]; exact ⟨m1, m2⟩
/-- over a way that is new one comes to a bridge that is new -/
theorem Tree.more (T : Tree W b n told) {at_ : Nat} {x p o : Int} {cm : Option Int} (hx : told[at_]? = some (x, cm)) (ha : (p, o) ∈ adj W x) (hp : p ∉ plsOf told) (hn : at_ < n) : Tree W b n (told ++ [(o, some p)]) := by
  have hne : told ≠ [] := fun e => by have := T.hd; rw [e] at this; cases this
  have mx : x ∈ told.map (·.1) := List.mem_map.mpr ⟨_, List.mem_of_getElem? hx, rfl⟩
  have new : o ∉ told.map (·.1) := fun mo => by
    have h := F.few (V := told.map (·.1)) (P := p :: plsOf told) (by simpa using hne) (List.nodup_cons.mpr ⟨hp, T.pls_nd F⟩) fun q hq => by
      rcases List.mem_cons.mp hq with e | hq
      · subst e
        obtain ⟨w, hw, ew, c1⟩ := mem_adj.mp ha
        refine ⟨w, hw, ew, ?_⟩
        rcases c1 with ⟨a1, a2⟩ | ⟨a1, a2⟩
        · rw [a1, a2]; exact ⟨mx, mo⟩
        · rw [a1, a2]; exact ⟨mo, mx⟩
      · exact T.way F hq
    have h2 := T.pls_len F
    simp only [List.length_cons, List.length_map] at h
    omega
  have lx : at_ < told.length := (List.getElem?_eq_some_iff.mp hx).1
  refine ⟨?_, ?_, fun k o' cm' hk => ?_⟩
  · rw [List.getElem?_append_left (by cases told with | nil => exact absurd rfl hne | cons _ _ => simp)]
    exact T.hd
  · rw [List.map_append]
    refine List.nodup_append.mpr ⟨T.nd, by simp, ?_⟩
    intro y hy z hz e
    have ez : z = o := by simpa using hz
    exact new (by rw [← ez, ← e]; exact hy)
  · by_cases hlt : k < told.length
    · rw [List.getElem?_append_left hlt] at hk
      refine (T.came k o' cm' hk).imp id fun ⟨p1, j, y, cj, e, l, l2, g, a⟩ => ⟨p1, j, y, cj, e, l, l2, ?_, a⟩
      rw [List.getElem?_append_left (Nat.lt_trans l hlt)]
      exact g
    · have hk0 : k = told.length := by
        have hl := (List.getElem?_eq_some_iff.mp hk).1
        simp only [List.length_append, List.length_cons, List.length_nil] at hl
        omega
      subst hk0
      rw [List.getElem?_append_right (Nat.le_refl _), Nat.sub_self] at hk
      have e : (o, some p) = (o', cm') := by simpa using hk
      cases e
      exact .inr ⟨p, at_, x, cm, rfl, lx, hn, by rw [List.getElem?_append_left lx]; exact hx, ha⟩
end
/-- what a bridge sends on: all its open ways but that over which it came -/
def news (cm : Option Int) (l : List (Int × Int)) : Told := (l.filter fun q => decide (¬ some q.1 = cm)).map fun q => (q.2, some q.1)
theorem news_nil {cm : Option Int} : news cm [] = [] := rfl
theorem news_snoc {cm : Option Int} (l : List (Int × Int)) (p o : Int) : news cm (l ++ [(p, o)]) = if some p = cm then news cm l else news cm l ++ [(o, some p)] := by
  unfold news
  rw [List.filter_append, List.map_append]
  by_cases h : some p = cm
  · rw [if_pos h]
    simp [h]
  · rw [if_neg h]
    simp [h]
/-- the first n have sent on -/
structure Sent (W : List Way) (b : Int) (n : Nat) (told : Told) : Prop where
  tree : Tree W b n told
  done : ∀ (j : Nat) (x : Int) (cm : Option Int), j < n → told[j]? = some (x, cm) → ∀ p o, (p, o) ∈ adj W x → some p = cm ∨ (o, some p) ∈ told
theorem Sent.start (W : List Way) (b : Int) : Sent W b 0 [(b, none)] := ⟨Tree.start W b, fun _ _ _ h => by omega⟩
section
variable {W : List Way} (F : Forest W) {b : Int} {n : Nat} {told : Told}
include F
theorem Sent.mid (S : Sent W b n told) {x : Int} {cm : Option Int} (hx : told[n]? = some (x, cm)) : ∀ (l r : List (Int × Int)), adj W x = l ++ r → Tree W b (n + 1) (told ++ news cm l) := by
  refine snoc_ind (fun r _ => ?_) fun l q ih r hr => ?_
  · rw [news_nil, List.append_nil]; exact S.tree.mono (Nat.le_succ n)
  · obtain ⟨p, o⟩ := q
    have T := ih ((p, o) :: r) (by rw [hr]; simp)
    rw [news_snoc]
    by_cases hc : some p = cm
    · rw [if_pos hc]; exact T
    · rw [if_neg hc, ← List.append_assoc]
      have ha : (p, o) ∈ adj W x := by rw [hr]; simp
      refine T.more F (at_ := n) (x := x) (cm := cm) ?_ ha (fun hp => ?_) (Nat.lt_succ_self n)
      · rw [List.getElem?_append_left (List.getElem?_eq_some_iff.mp hx).1]; exact hx
      · have hp' : p ∈ plsOf told ++ plsOf (news cm l) := by
          have : plsOf (told ++ news cm l) = plsOf told ++ plsOf (news cm l) := List.filterMap_append ..
          rw [← this]; exact hp
        rcases List.mem_append.mp hp' with hp | hp
        · obtain ⟨k, o', hk⟩ := mem_pls.mp hp
          rcases S.tree.came k o' _ hk with e | ⟨p1, j, y, cj, e, l1, l2, g, a⟩
          · subst e; rw [S.tree.hd] at hk; cases hk
          cases e
          rcases F.two a ha with ⟨e1, _⟩ | ⟨_, e2⟩
          · subst e1
            have := S.tree.ix g hx
            omega
          · subst e2
            have := S.tree.ix hk hx
            subst this
            rw [hx] at hk
            cases hk
            exact hc rfl
        · obtain ⟨k, o', hk⟩ := mem_pls.mp hp
          have hm := List.mem_of_getElem? hk
          obtain ⟨q, hq, eq⟩ := List.mem_map.mp hm
          have hq1 : q ∈ l := (List.mem_filter.mp hq).1
          have e : q.1 = p := by
            have := congrArg Prod.snd eq
            exact Option.some.inj this
          have hnd := F.adj_nd x
          rw [hr, List.map_append, List.map_append] at hnd
          have h1 := (List.nodup_append.mp hnd).1
          have h2 := (List.nodup_append.mp h1).2.2 q.1 (List.mem_map.mpr ⟨q, hq1, rfl⟩) p (by simp)
          exact h2 e
theorem Sent.next (S : Sent W b n told) {x : Int} {cm : Option Int} (hx : told[n]? = some (x, cm)) : Sent W b (n + 1) (told ++ news cm (adj W x)) := by
  refine ⟨S.mid F hx (adj W x) [] (by simp), fun j y c hj hy p o ha => ?_⟩
  have hlt : j < told.length := by have := (List.getElem?_eq_some_iff.mp hx).1; omega
  rw [List.getElem?_append_left hlt] at hy
  by_cases e : j = n
  · subst e
    rw [hx] at hy
    cases hy
    by_cases hc : some p = cm
    · exact .inl hc
    · right
      refine List.mem_append_right _ (List.mem_map.mpr ⟨(p, o), List.mem_filter.mpr ⟨ha, decide_eq_true hc⟩, rfl⟩)
  · exact (S.done j y c (by omega) hy p o ha).imp id fun h => List.mem_append_left _ h
end
/-- s is the part of b: the least that has b and both or none of the ends of each way -/
structure Part (W : List Way) (b : Int) (s : List Int) : Prop where
  has : b ∈ s
  both : ∀ w, w ∈ W → (w.ch ∈ s ↔ w.pa ∈ s)
  least : ∀ P : Int → Prop, P b → (∀ w, w ∈ W → (P w.ch ↔ P w.pa)) → ∀ x, x ∈ s → P x
theorem Sent.part {W : List Way} (F : Forest W) {b : Int} {told : Told} (S : Sent W b told.length told) : Part W b (told.map (·.1)) := by
  have cl : ∀ x p o, x ∈ told.map (·.1) → (p, o) ∈ adj W x → o ∈ told.map (·.1) := fun x p o hx ha => by
    obtain ⟨⟨y, c⟩, hy, e⟩ := List.mem_map.mp hx
    have e' : y = x := e
    subst e'
    obtain ⟨j, hj⟩ := List.getElem?_of_mem hy
    rcases S.done j y c (List.getElem?_eq_some_iff.mp hj).1 hj p o ha with h | h
    · rcases S.tree.came j y c hj with e | ⟨p1, i, z, ci, e, l1, l2, g, a⟩
      · subst e; rw [S.tree.hd] at hj; cases hj; cases h
      · rw [e] at h
        cases h
        rcases F.two a ha with ⟨e1, e2⟩ | ⟨e1, e2⟩
        · subst e1 e2; exact hx
        · subst e1; exact List.mem_map.mpr ⟨_, List.mem_of_getElem? g, rfl⟩
    · exact List.mem_map.mpr ⟨_, h, rfl⟩
  refine ⟨List.mem_map.mpr ⟨_, List.mem_of_getElem? S.tree.hd, rfl⟩, fun w hw => ⟨fun h => ?_, fun h => ?_⟩, fun P hb hP x hx => ?_⟩
  · exact cl w.ch w.pl w.pa h (mem_adj.mpr ⟨w, hw, rfl, .inl ⟨rfl, rfl⟩⟩)
  · exact cl w.pa w.pl w.ch h (mem_adj.mpr ⟨w, hw, rfl, .inr ⟨rfl, rfl⟩⟩)
  · have all : ∀ (m k : Nat), k < m → ∀ y c, told[k]? = some (y, c) → P y := by
      intro m
      induction m with
      | zero => intro k hk; omega
      | succ m ih =>
        intro k hk y c hy
        rcases S.tree.came k y c hy with e | ⟨p, j, z, cj, _, l1, _, g, a⟩
        · subst e; rw [S.tree.hd] at hy; cases hy; exact hb
        · have hz := ih j (by omega) z cj g
          obtain ⟨w, hw, _, c1⟩ := mem_adj.mp a
          rcases c1 with ⟨a1, a2⟩ | ⟨a1, a2⟩
          · rw [← a2]; exact (hP w hw).mp (by rw [a1]; exact hz)
          · rw [← a2]; exact (hP w hw).mpr (by rw [a1]; exact hz)
    obtain ⟨⟨y, c⟩, hy, e⟩ := List.mem_map.mp hx
    have e' : y = x := e
    subst e'
    obtain ⟨j, hj⟩ := List.getElem?_of_mem hy
    exact all (j + 1) j (Nat.lt_succ_self j) y c hj
/-- parts that have something in common have the same members -/
theorem Part.meet {W : List Way} {b c x : Int} {s t : List Int} (S : Part W b s) (T : Part W c t) (h1 : x ∈ s) (h2 : x ∈ t) : c ∈ s ∧ ∀ y, y ∈ s ↔ y ∈ t := by
  have key : ∀ {b c : Int} {s t : List Int}, Part W b s → Part W c t → x ∈ s → x ∈ t → c ∈ s := fun {b c s t} S T h1 h2 => by
    refine Classical.byContradiction fun hc => ?_
    exact (T.least (fun y => y ∉ s) hc (fun w hw => not_congr (S.both w hw)) x h2) h1
  have hc := key S T h1 h2
  have hb := key T S h2 h1
  exact ⟨hc, fun y => ⟨fun hy => S.least (fun z => z ∈ t) hb T.both y hy, fun hy => T.least (fun z => z ∈ s) hc S.both y hy⟩⟩
/-- the ways over which the frame went are those within the part -/
theorem Sent.pls {W : List Way} (F : Forest W) {b : Int} {told : Told} (S : Sent W b told.length told) (p : Int) :
    (p ∈ plsOf told ↔ ∃ w, w ∈ W ∧ w.pl = p ∧ w.ch ∈ told.map (·.1)) := by
  constructor
  · intro hp
    obtain ⟨w, hw, e, c, _⟩ := S.tree.way F hp
    exact ⟨w, hw, e, c⟩
  · rintro ⟨w, hw, rfl, hc⟩
    obtain ⟨⟨y, c⟩, hy, e⟩ := List.mem_map.mp hc
    have e' : y = w.ch := e
    subst e'
    obtain ⟨j, hj⟩ := List.getElem?_of_mem hy
    rcases S.done j w.ch c (List.getElem?_eq_some_iff.mp hj).1 hj w.pl w.pa (mem_adj.mpr ⟨w, hw, rfl, .inl ⟨rfl, rfl⟩⟩) with h | h
    · exact mem_pls.mpr ⟨j, w.ch, by rw [hj, ← h]⟩
    · obtain ⟨k, hk⟩ := List.getElem?_of_mem h
      exact mem_pls.mpr ⟨k, w.pa, hk⟩
end Sw

/-! Sw: a yard as plain data, what holds of it at every moment, and that its open ways are a forest. Plain Lean, no program in sight. -/
namespace Sw

abbrev Stp := Int × Int
structure Ltr where
  num : Stp
  stp : Stp
  root : Int
  cost : Int
  age : Int
  rests : Option Stp
  agrees : Option Stp
structure Lbl where
  root : Int
  cost : Int
  up : Option Int
  rests : Option Stp
  deriving DecidableEq
structure Br where
  own : Int
  life : Int
  most : Int
  tied : Int → Option (Int × Int)
  kept : Int → Option (Ltr × Int)
  lbl : Lbl
  ver : Int
  tick : Int
def Br.stp (B : Br) : Stp := (B.life, B.ver)
structure Msg where
  src : Int
  dst : Int
  place : Int
  ltr : Ltr
abbrev Tie := Int × Int × Int
structure Net where
  bs : List Int
  ts : List Tie
structure Yd where
  net : Net
  oldest : Int
  lives : Int → Option Int
  there : Int → Option Br
  cut : Int → Bool
  road : List Msg

/-! ### nets -/
def tieAt (ts : List Tie) (p : Int) : Option Tie := if 0 ≤ p then ts[p.toNat]? else none
structure NetOk (N : Net) : Prop where
  rise : N.bs.Pairwise (· < ·)
  some_ : 1 ≤ N.bs.length
  ten : N.bs.length ≤ 10
  few : N.ts.length ≤ 16
  tie : ∀ t, t ∈ N.ts → t.1 < t.2.1 ∧ t.1 ∈ N.bs ∧ t.2.1 ∈ N.bs ∧ 1 ≤ t.2.2
/-- the tie at p goes from b to c -/
def Conn (ts : List Tie) (p b c k : Int) : Prop := tieAt ts p = some (b, c, k) ∨ tieAt ts p = some (c, b, k)
theorem tieAt_nat {ts : List Tie} {i : Nat} : tieAt ts (i : Int) = ts[i]? := by
  unfold tieAt
  rw [if_pos (Int.natCast_nonneg i), Int.toNat_natCast]
theorem tieAt_lt {ts : List Tie} {p : Int} {t : Tie} (h : tieAt ts p = some t) : 0 ≤ p ∧ p < ts.length ∧ t ∈ ts := by
  unfold tieAt at h
  by_cases c : 0 ≤ p
  · rw [if_pos c] at h
    have h1 := (List.getElem?_eq_some_iff.mp h).1
    exact ⟨c, by omega, List.mem_of_getElem? h⟩
  · rw [if_neg c] at h; cases h
theorem tieAt_some {ts : List Tie} {p : Int} (h0 : 0 ≤ p) (h1 : p < ts.length) : ∃ t, tieAt ts p = some t ∧ ts[p.toNat]? = some t ∧ p = (p.toNat : Int) := by
  have h2 : p.toNat < ts.length := by omega
  refine ⟨ts[p.toNat], ?_, List.getElem?_eq_getElem h2, by omega⟩
  unfold tieAt
  rw [if_pos h0]
  exact List.getElem?_eq_getElem h2
theorem Conn.symm {ts : List Tie} {p b c k : Int} (h : Conn ts p b c k) : Conn ts p c b k := h.elim .inr .inl
theorem Conn.lt {ts : List Tie} {p b c k : Int} (h : Conn ts p b c k) : 0 ≤ p ∧ p < ts.length := by
  rcases h with h | h
  · exact ⟨(tieAt_lt h).1, (tieAt_lt h).2.1⟩
  · exact ⟨(tieAt_lt h).1, (tieAt_lt h).2.1⟩
theorem Conn.inj {ts : List Tie} {p b c d k l : Int} (h : Conn ts p b c k) (g : Conn ts p b d l) (hn : ∀ t, t ∈ ts → t.1 < t.2.1) : c = d ∧ k = l := by
  rcases h with h | h <;> rcases g with g | g
  · rw [h] at g
    have e := Option.some.inj g
    simp only [Prod.mk.injEq] at e
    exact ⟨e.2.1, e.2.2⟩
  · have hl := hn _ (tieAt_lt h).2.2
    rw [h] at g
    have e := Option.some.inj g
    simp only [Prod.mk.injEq] at e hl
    omega
  · have hl := hn _ (tieAt_lt h).2.2
    rw [h] at g
    have e := Option.some.inj g
    simp only [Prod.mk.injEq] at e hl
    omega
  · rw [h] at g
    have e := Option.some.inj g
    simp only [Prod.mk.injEq] at e
    exact ⟨e.1, e.2.2⟩
theorem Conn.ends {N : Net} (n : NetOk N) {p b c k : Int} (h : Conn N.ts p b c k) : b ∈ N.bs ∧ c ∈ N.bs ∧ b ≠ c ∧ 1 ≤ k := by
  rcases h with h | h
  · obtain ⟨h1, h2, h3, h4⟩ := n.tie _ (tieAt_lt h).2.2
    exact ⟨h2, h3, fun e => by simp only at h1; omega, h4⟩
  · obtain ⟨h1, h2, h3, h4⟩ := n.tie _ (tieAt_lt h).2.2
    exact ⟨h3, h2, fun e => by simp only at h1; omega, h4⟩

/-! ### ends, open ways -/
inductive K4 where
  | down | shut | child | parent
  deriving DecidableEq
def endOf (B : Br) (p : Int) : K4 := match B.tied p with
  | none => .down
  | some _ => match B.kept p with
    | none => .shut
    | some (L, _) => if B.lbl.up = some p then (if L.agrees = some B.stp ∧ B.lbl.rests = some L.stp then .child else .shut) else if L.rests = some B.stp then .parent else .shut
def isUp (S : Yd) (p : Int) : Bool := match tieAt S.net.ts p with
  | none => false
  | some (one, other, _) => !S.cut p && (S.there one).isSome && (S.there other).isSome
def endsOf (S : Yd) (p : Int) : K4 × K4 := match tieAt S.net.ts p with
  | none => (.down, .down)
  | some (one, other, _) => if S.cut p then (.down, .down) else match S.there one, S.there other with
    | some B, some C => (endOf B p, endOf C p)
    | _, _ => (.down, .down)
def wayAt (S : Yd) (i : Nat) : Option Way := match S.net.ts[i]? with
  | none => none
  | some (one, other, _) => if endsOf S i = (.child, .parent) then some ⟨i, one, other⟩ else if endsOf S i = (.parent, .child) then some ⟨i, other, one⟩ else none
def waysTo (S : Yd) (n : Nat) : List Way := (List.range n).filterMap (wayAt S)
def waysOf (S : Yd) : List Way := waysTo S S.net.ts.length
theorem waysTo_succ (S : Yd) (n : Nat) : waysTo S (n + 1) = waysTo S n ++ (wayAt S n).toList := by
  unfold waysTo
  rw [List.range_succ, List.filterMap_append]
  cases h : wayAt S n with
  | none => simp [h]
  | some w => simp [h]

/-! ### what has been: the labels in their order -/
structure Ent where
  br : Int
  stp : Stp
  lbl : Lbl
def Lt2 (a b : Stp) : Prop := a.1 < b.1 ∨ (a.1 = b.1 ∧ a.2 < b.2)
theorem Lt2.irrefl {a : Stp} (h : Lt2 a a) : False := by rcases h with h | ⟨_, h⟩ <;> omega
theorem Lt2.asym {a b : Stp} (h : Lt2 a b) (g : Lt2 b a) : False := by
  unfold Lt2 at h g
  omega
/-- a letter from s to d over p was sent so -/
structure SentOk (ts : List Tie) (h : List Ent) (s d p : Int) (X : Ltr) : Prop where
  conn : ∃ k, Conn ts p s d k
  from_ : ∃ (i : Nat) (l : Lbl), h[i]? = some ⟨s, X.stp, l⟩ ∧ l.root = X.root ∧ l.cost = X.cost ∧ X.rests = if l.up = some p then l.rests else none
  agr : ∀ z, X.agrees = some z → ∃ (k : Nat) (l : Lbl), h[k]? = some ⟨d, z, l⟩ ∧ l.up = some p ∧ l.rests = some X.stp ∧ ∀ (j : Nat) (e : Ent), h[j]? = some e → e.br = s → Lt2 X.stp e.stp → k < j
structure Hist (S : Yd) (h : List Ent) : Prop where
  mono : ∀ (i j : Nat) (e f : Ent), i < j → h[i]? = some e → h[j]? = some f → e.br = f.br → Lt2 e.stp f.stp
  rest : ∀ (j : Nat) (e : Ent) (p : Int) (r : Stp), h[j]? = some e → e.lbl.up = some p → e.lbl.rests = some r →
    ∃ (i : Nat) (f : Ent) (k : Int), i < j ∧ h[i]? = some f ∧ f.stp = r ∧ Conn S.net.ts p e.br f.br k ∧ e.lbl.root = f.lbl.root ∧ e.lbl.cost = f.lbl.cost + k
  cur : ∀ b B, S.there b = some B → B.own = b ∧ S.lives b = some B.life ∧ ∃ i : Nat, h[i]? = some ⟨b, B.stp, B.lbl⟩ ∧ ∀ (j : Nat) (e : Ent), h[j]? = some e → e.br = b → j ≤ i
  old : ∀ (j : Nat) (e : Ent) (l : Int), h[j]? = some e → S.lives e.br = some l → e.stp.1 ≤ l
  road : ∀ m, m ∈ S.road → SentOk S.net.ts h m.src m.dst m.place m.ltr
  held : ∀ b B p L a, S.there b = some B → B.kept p = some (L, a) → ∃ c k, B.tied p = some (c, k) ∧ SentOk S.net.ts h c b p L
  tied : ∀ b B p c k, S.there b = some B → B.tied p = some (c, k) → Conn S.net.ts p b c k
theorem SentOk.more {ts : List Tie} {h : List Ent} {s d p : Int} {X : Ltr} (x : SentOk ts h s d p X) (e : Ent) : SentOk ts (h ++ [e]) s d p X := by
  obtain ⟨c, ⟨i, l, hi, r⟩, g⟩ := x
  refine ⟨c, ⟨i, l, ?_, r⟩, fun z hz => ?_⟩
  · rw [List.getElem?_append_left (List.getElem?_eq_some_iff.mp hi).1]; exact hi
  · obtain ⟨k, l, hk, u, r, q⟩ := g z hz
    have hlt := (List.getElem?_eq_some_iff.mp hk).1
    refine ⟨k, l, by rw [List.getElem?_append_left hlt]; exact hk, u, r, fun j f hj hb hl => ?_⟩
    by_cases c : j < h.length
    · rw [List.getElem?_append_left c] at hj
      exact q j f hj hb hl
    · omega
theorem at_more {h : List Ent} {i : Nat} {e f : Ent} (x : (h ++ [e])[i]? = some f) : (i < h.length ∧ h[i]? = some f) ∨ (i = h.length ∧ f = e) := by
  by_cases c : i < h.length
  · rw [List.getElem?_append_left c] at x
    exact .inl ⟨c, x⟩
  · have hl := (List.getElem?_eq_some_iff.mp x).1
    simp only [List.length_append, List.length_cons, List.length_nil] at hl
    have e1 : i = h.length := by omega
    subst e1
    rw [List.getElem?_append_right (Nat.le_refl _), Nat.sub_self] at x
    exact .inr ⟨rfl, by simpa using x.symm⟩
theorem Hist.one {S : Yd} {h : List Ent} (H : Hist S h) {i j : Nat} {e f : Ent} (h1 : h[i]? = some e) (h2 : h[j]? = some f) (hb : e.br = f.br) (hs : e.stp = f.stp) : i = j := by
  rcases Nat.lt_trichotomy i j with c | c | c
  · exact (Lt2.irrefl (hs ▸ H.mono i j e f c h1 h2 hb)).elim
  · exact c
  · exact (Lt2.irrefl (hs ▸ H.mono j i f e c h2 h1 hb.symm)).elim

/-! ### THE HEART: an end open as child and one open as parent -/
theorem Hist.safe {S : Yd} {h : List Ent} (H : Hist S h) (n : NetOk S.net) {p c q k : Int} {C Q : Br} (hC : S.there c = some C) (hQ : S.there q = some Q) (hc : Conn S.net.ts p c q k) (eC : endOf C p = .child) (eQ : endOf Q p = .parent) :
    C.lbl.up = some p ∧ C.lbl.root = Q.lbl.root ∧ C.lbl.cost = Q.lbl.cost + k := by
  have hn : ∀ t, t ∈ S.net.ts → t.1 < t.2.1 := fun t ht => (n.tie t ht).1
  -- the child's side
  have a1 : ∃ L a, C.kept p = some (L, a) ∧ C.lbl.up = some p ∧ L.agrees = some C.stp ∧ C.lbl.rests = some L.stp := by
    unfold endOf at eC
    cases ht : C.tied p with
    | none => rw [ht] at eC; cases eC
    | some x =>
      rw [ht] at eC
      cases hk : C.kept p with
      | none => rw [hk] at eC; cases eC
      | some y =>
        obtain ⟨L, a⟩ := y
        rw [hk] at eC
        simp only at eC
        by_cases c1 : C.lbl.up = some p
        · rw [if_pos c1] at eC
          by_cases c2 : L.agrees = some C.stp ∧ C.lbl.rests = some L.stp
          · exact ⟨L, a, rfl, c1, c2.1, c2.2⟩
          · rw [if_neg c2] at eC; cases eC
        · rw [if_neg c1] at eC
          split at eC <;> cases eC
  have a2 : ∃ M a, Q.kept p = some (M, a) ∧ M.rests = some Q.stp := by
    unfold endOf at eQ
    cases ht : Q.tied p with
    | none => rw [ht] at eQ; cases eQ
    | some x =>
      rw [ht] at eQ
      cases hk : Q.kept p with
      | none => rw [hk] at eQ; cases eQ
      | some y =>
        obtain ⟨M, a⟩ := y
        rw [hk] at eQ
        simp only at eQ
        by_cases c1 : Q.lbl.up = some p
        · rw [if_pos c1] at eQ
          split at eQ <;> cases eQ
        · rw [if_neg c1] at eQ
          by_cases c2 : M.rests = some Q.stp
          · exact ⟨M, a, rfl, c2⟩
          · rw [if_neg c2] at eQ; cases eQ
  obtain ⟨L, aL, kL, up, gL, rL⟩ := a1
  obtain ⟨M, aM, kM, rM⟩ := a2
  obtain ⟨c1, k1, t1, sL⟩ := H.held c C p L aL hC kL
  obtain ⟨c2, k2, t2, sM⟩ := H.held q Q p M aM hQ kM
  have e1 := Conn.inj (H.tied c C p c1 k1 hC t1) hc hn
  have e2 := Conn.inj (H.tied q Q p c2 k2 hQ t2) hc.symm hn
  obtain ⟨e1, _⟩ := e1
  obtain ⟨e2, _⟩ := e2
  subst e1 e2
  obtain ⟨_, _, iC, hiC, lastC⟩ := H.cur _ C hC
  obtain ⟨_, _, iQ, hiQ, lastQ⟩ := H.cur _ Q hQ
  -- the label that the child had when the parent's letter was sent
  obtain ⟨iM, lM, hiM, _, _, qM⟩ := sM.from_
  have hM : lM.up = some p ∧ lM.rests = some Q.stp := by
    rw [rM] at qM
    by_cases c : lM.up = some p
    · rw [if_pos c] at qM; exact ⟨c, qM.symm⟩
    · rw [if_neg c] at qM; cases qM
  obtain ⟨iq, f, kf, lt1, hiq, sf, cf, _⟩ := H.rest iM _ p Q.stp hiM hM.1 hM.2
  obtain ⟨ef, _⟩ := Conn.inj cf hc hn
  have eq1 : iq = iQ := H.one hiq hiQ ef sf
  subst eq1
  -- the label of the child now rests on L's stamp
  obtain ⟨ir, g, kg, lt2, hir, sg, cg, rg, kg2⟩ := H.rest iC _ p L.stp hiC up rL
  obtain ⟨eg, ek⟩ := Conn.inj cg hc hn
  subst ek
  have le : ir ≤ iq := lastQ ir g hir eg
  rcases Nat.lt_or_ge ir iq with lt | ge
  · -- the parent's stamp is newer: then the child's is, too
    exfalso
    have l3 : Lt2 L.stp Q.stp := by
      have := H.mono ir iq g _ lt hir hiQ eg
      rw [sg] at this
      exact this
    obtain ⟨kk, lk, hkk, _, _, qk⟩ := sL.agr _ gL
    have l4 : kk < iq := qk iq _ hiQ rfl l3
    have e5 : kk = iC := H.one hkk hiC rfl rfl
    subst e5
    have l5 := lastC iM _ hiM rfl
    omega
  · have e6 : ir = iq := by omega
    subst e6
    rw [hiQ] at hir
    cases hir
    exact ⟨up, rg, kg2⟩
/-- the open ways are a forest -/
theorem ends_two {S : Yd} {p : Int} {x y : K4} (h : endsOf S p = (x, y)) (hx : x ≠ .down) : ∃ one other k B C, tieAt S.net.ts p = some (one, other, k) ∧ S.there one = some B ∧ S.there other = some C ∧ endOf B p = x ∧ endOf C p = y := by
  unfold endsOf at h
  cases ht : tieAt S.net.ts p with
  | none => rw [ht] at h; cases h; exact absurd rfl hx
  | some t =>
    obtain ⟨one, other, k⟩ := t
    rw [ht] at h
    simp only at h
    by_cases c : S.cut p = true
    · rw [if_pos c] at h; cases h; exact absurd rfl hx
    · rw [if_neg c] at h
      cases h1 : S.there one with
      | none => rw [h1] at h; cases h; exact absurd rfl hx
      | some B =>
        cases h2 : S.there other with
        | none => rw [h1, h2] at h; cases h; exact absurd rfl hx
        | some C =>
          rw [h1, h2] at h
          cases h
          exact ⟨one, other, k, B, C, rfl, h1, h2, rfl, rfl⟩
theorem way_is {S : Yd} {w : Way} {n : Nat} (h : w ∈ waysTo S n) : ∃ (i : Nat) (k : Int) (C Q : Br), i < n ∧ w.pl = i ∧ wayAt S i = some w ∧ Conn S.net.ts w.pl w.ch w.pa k ∧ S.there w.ch = some C ∧ S.there w.pa = some Q ∧ endOf C w.pl = .child ∧ endOf Q w.pl = .parent := by
  obtain ⟨i, hi, hw⟩ := List.mem_filterMap.mp h
  have hi' := List.mem_range.mp hi
  have hw0 := hw
  unfold wayAt at hw
  cases ht : S.net.ts[i]? with
  | none => rw [ht] at hw; cases hw
  | some t =>
    obtain ⟨one, other, k⟩ := t
    rw [ht] at hw
    simp only at hw
    by_cases c1 : endsOf S i = (.child, .parent)
    · rw [if_pos c1] at hw
      cases hw
      obtain ⟨o1, o2, k', B, C, h1, h2, h3, h4, h5⟩ := ends_two c1 (by decide)
      have e : some (one, other, k) = some (o1, o2, k') := by rw [← h1, tieAt_nat, ht]
      cases e
      exact ⟨i, k, B, C, hi', rfl, hw0, .inl h1, h2, h3, h4, h5⟩
    · rw [if_neg c1] at hw
      by_cases c2 : endsOf S i = (.parent, .child)
      · rw [if_pos c2] at hw
        cases hw
        obtain ⟨o1, o2, k', B, C, h1, h2, h3, h4, h5⟩ := ends_two c2 (by decide)
        have e : some (one, other, k) = some (o1, o2, k') := by rw [← h1, tieAt_nat, ht]
        cases e
        exact ⟨i, k, C, B, hi', rfl, hw0, .inr h1, h3, h2, h5, h4⟩
      · rw [if_neg c2] at hw; cases hw
theorem pls_rise (S : Yd) : ∀ n, ((waysTo S n).map Way.pl).Pairwise (· < ·)
  | 0 => List.Pairwise.nil
  | n + 1 => by
    rw [waysTo_succ, List.map_append]
    refine List.pairwise_append.mpr ⟨pls_rise S n, ?_, fun x hx y hy => ?_⟩
    · cases wayAt S n with
      | none => exact List.Pairwise.nil
      | some w => exact List.pairwise_singleton _ _
    · obtain ⟨w, hw, ex⟩ := List.mem_map.mp hx
      obtain ⟨i, _, _, _, hi, ei, _⟩ := way_is hw
      obtain ⟨v, hv, ey⟩ := List.mem_map.mp hy
      have hv' : wayAt S n = some v := by
        cases h : wayAt S n with
        | none => rw [h] at hv; cases hv
        | some u =>
          rw [h] at hv
          have : v = u := by simpa using hv
          rw [this]
      have hv2 : v ∈ waysTo S (n + 1) := List.mem_filterMap.mpr ⟨n, List.mem_range.mpr (Nat.lt_succ_self n), hv'⟩
      have ev : v.pl = n := by
        unfold wayAt at hv'
        split at hv'
        · cases hv'
        · split at hv'
          · cases hv'; rfl
          · split at hv'
            · cases hv'; rfl
            · cases hv'
      omega
theorem Hist.forest {S : Yd} {h : List Ent} (H : Hist S h) (n : NetOk S.net) : Forest (waysOf S) := by
  refine ⟨pls_rise S _, fun w hw v hv e => ?_, fun x => (match S.there x with | some B => B.lbl.cost | none => 0), fun w hw => ?_⟩
  · obtain ⟨i, k, C, Q, _, ei, wi, cw, h1, h2, h3, h4⟩ := way_is hw
    obtain ⟨j, k', C', Q', _, ej, wj, cv, g1, g2, g3, g4⟩ := way_is hv
    have u1 := (H.safe n h1 h2 cw h3 h4).1
    have u2 := (H.safe n g1 g2 cv g3 g4).1
    rw [e, g1] at h1
    cases h1
    rw [u2] at u1
    have e2 : v.pl = w.pl := Option.some.inj u1
    have e3 : j = i := by omega
    subst e3
    rw [wj] at wi
    exact (Option.some.inj wi).symm
  · obtain ⟨i, k, C, Q, _, _, _, cw, h1, h2, h3, h4⟩ := way_is hw
    obtain ⟨_, _, e⟩ := H.safe n h1 h2 cw h3 h4
    have hk := (Conn.ends n cw).2.2.2
    simp only [h1, h2]
    omega
end Sw

/-! Sw: what is true of a yard stays true by every deed. Plain Lean, no program in sight. -/
namespace Sw

def setAt {α : Type} (f : Int → Option α) (b : Int) (x : Option α) : Int → Option α := fun c => if c = b then x else f c
theorem setAt_same {α : Type} {f : Int → Option α} {b : Int} {x : Option α} : setAt f b x b = x := if_pos rfl
theorem setAt_ne {α : Type} {f : Int → Option α} {b c : Int} {x : Option α} (h : c ≠ b) : setAt f b x c = f c := if_neg h
structure Good (S : Yd) : Prop where
  net : NetOk S.net
  hist : ∃ h, Hist S h
  dom : ∀ b B, S.there b = some B → b ∈ S.net.bs
  liv : ∀ b, b ∈ S.net.bs ↔ (S.lives b).isSome = true
  cutd : ∀ p, S.cut p = true → 0 ≤ p ∧ p < S.net.ts.length
section
variable {S : Yd}
theorem Good.forest (G : Good S) : Forest (waysOf S) := G.hist.elim fun _ H => H.forest G.net
theorem Good.tied (G : Good S) {b : Int} {B : Br} {p c k : Int} (hB : S.there b = some B) (h : B.tied p = some (c, k)) : Conn S.net.ts p b c k := G.hist.elim fun _ H => H.tied b B p c k hB h
theorem Good.held (G : Good S) {b : Int} {B : Br} {p : Int} {x : Ltr × Int} (hB : S.there b = some B) (h : B.kept p = some x) : ∃ c k, B.tied p = some (c, k) := by
  obtain ⟨h0, H⟩ := G.hist
  obtain ⟨L, a⟩ := x
  obtain ⟨c, k, e, _⟩ := H.held b B p L a hB h
  exact ⟨c, k, e⟩
theorem Good.own (G : Good S) {b : Int} {B : Br} (hB : S.there b = some B) : B.own = b ∧ S.lives b = some B.life := by
  obtain ⟨h0, H⟩ := G.hist
  exact ⟨(H.cur b B hB).1, (H.cur b B hB).2.1⟩
theorem Good.way (G : Good S) {w : Way} (hw : w ∈ waysOf S) : w.ch ∈ S.net.bs ∧ w.pa ∈ S.net.bs := by
  obtain ⟨_, _, C, Q, _, _, _, _, h1, h2, _⟩ := way_is hw
  exact ⟨G.dom _ _ h1, G.dom _ _ h2⟩
theorem Good.msg (G : Good S) {m : Msg} (hm : m ∈ S.road) : ∃ k, Conn S.net.ts m.place m.src m.dst k := by
  obtain ⟨h0, H⟩ := G.hist
  exact (H.road m hm).conn
end

/-! ### mild changes -/
structure Mild (ts : List Tie) (b : Int) (B B' : Br) : Prop where
  own : B'.own = B.own
  life : B'.life = B.life
  ver : B'.ver = B.ver
  lbl : B'.lbl = B.lbl
  tied : ∀ p c k, B'.tied p = some (c, k) → Conn ts p b c k
  kept : ∀ p x, B'.kept p = some x → B.kept p = some x ∧ B'.tied p = B.tied p
theorem Mild.trans {ts : List Tie} {b : Int} {A B C : Br} (x : Mild ts b A B) (y : Mild ts b B C) : Mild ts b A C :=
  ⟨y.own.trans x.own, y.life.trans x.life, y.ver.trans x.ver, y.lbl.trans x.lbl, y.tied, fun p z h => by
    obtain ⟨h1, h2⟩ := y.kept p z h
    obtain ⟨h3, h4⟩ := x.kept p z h1
    exact ⟨h3, h2.trans h4⟩⟩
theorem Good.mild_refl {S : Yd} (G : Good S) {b : Int} {B : Br} (hB : S.there b = some B) : Mild S.net.ts b B B :=
  ⟨rfl, rfl, rfl, rfl, fun _ _ _ h => G.tied hB h, fun _ _ h => ⟨h, rfl⟩⟩
theorem Good.mild {S S' : Yd} (G : Good S) (hn : S'.net = S.net) (hl : S'.lives = S.lives) (hr : ∀ m, m ∈ S'.road → m ∈ S.road)
    (ht : ∀ b B', S'.there b = some B' → ∃ B, S.there b = some B ∧ Mild S.net.ts b B B') (hc : ∀ p, S'.cut p = true → 0 ≤ p ∧ p < S.net.ts.length) : Good S' := by
  obtain ⟨h, H⟩ := G.hist
  refine ⟨hn ▸ G.net, ⟨h, ⟨H.mono, fun j e p r => ?_, fun b B hB => ?_, fun j e l hj hl' => H.old j e l hj (hl ▸ hl'), fun m hm => ?_, fun b B' p L a hB' hk => ?_, fun b B' p c k hB' htd => ?_⟩⟩, fun b B' hB' => ?_, fun b => ?_, fun p hp => ?_⟩
  · rw [hn]; exact H.rest j e p r
  · obtain ⟨B0, h0, m⟩ := ht b B hB
    obtain ⟨c1, c2, i, c3, c4⟩ := H.cur b B0 h0
    refine ⟨m.own.trans c1, by rw [hl, m.life]; exact c2, i, ?_, c4⟩
    have : B.stp = B0.stp := by unfold Br.stp; rw [m.life, m.ver]
    rw [this, m.lbl]; exact c3
  · rw [hn]; exact H.road m (hr m hm)
  · obtain ⟨B0, h0, m⟩ := ht b B' hB'
    obtain ⟨k1, k2⟩ := m.kept p _ hk
    obtain ⟨c, k, t, s⟩ := H.held b B0 p L a h0 k1
    exact ⟨c, k, k2.trans t, by rw [hn]; exact s⟩
  · obtain ⟨B0, h0, m⟩ := ht b B' hB'
    rw [hn]; exact m.tied p c k htd
  · obtain ⟨B0, h0, _⟩ := ht b B' hB'
    rw [hn]; exact G.dom b B0 h0
  · rw [hn, hl]; exact G.liv b
  · rw [hn]; exact hc p hp
def Br.downAt (B : Br) (p : Int) : Br := { B with tied := setAt B.tied p none, kept := setAt B.kept p none }
theorem Mild.down {ts : List Tie} {b : Int} {B : Br} (p : Int) (m : Mild ts b B B) : Mild ts b B (B.downAt p) := by
  refine ⟨rfl, rfl, rfl, rfl, fun q c k h => ?_, fun q x h => ?_⟩
  · by_cases e : q = p
    · subst e
      have h' : setAt B.tied q none q = some (c, k) := h
      rw [setAt_same] at h'; cases h'
    · exact m.tied q c k ((setAt_ne (f := B.tied) (x := none) e) ▸ h)
  · by_cases e : q = p
    · subst e
      have h' : setAt B.kept q none q = some x := h
      rw [setAt_same] at h'; cases h'
    · exact ⟨(setAt_ne (f := B.kept) (x := none) e) ▸ h, setAt_ne e⟩
def Br.upAt (B : Br) (p c k : Int) : Br := match B.tied p with
  | none => { B with tied := setAt B.tied p (some (c, k)) }
  | some _ => B
theorem Mild.up {ts : List Tie} {b : Int} {B : Br} {p c k : Int} (m : Mild ts b B B) (h : Conn ts p b c k) (hk : ∀ x, B.kept p = some x → ∃ y, B.tied p = some y) : Mild ts b B (B.upAt p c k) := by
  unfold Br.upAt
  cases e : B.tied p with
  | some x => exact m
  | none =>
    refine ⟨rfl, rfl, rfl, rfl, fun q c' k' h' => ?_, fun q x h' => ⟨h', ?_⟩⟩
    · by_cases eq : q = p
      · subst eq
        have h2 : setAt B.tied q (some (c, k)) q = some (c', k') := h'
        rw [setAt_same] at h2
        cases h2
        exact h
      · exact m.tied q c' k' ((setAt_ne (f := B.tied) (x := some (c, k)) eq) ▸ h')
    · by_cases eq : q = p
      · subst eq
        obtain ⟨y, hy⟩ := hk x h'
        rw [e] at hy; cases hy
      · exact setAt_ne eq

/-! ### a tick -/
structure TickOk (B B' : Br) : Prop where
  own : B'.own = B.own
  life : B'.life = B.life
  tied : B'.tied = B.tied
  kept : ∀ p L a', B'.kept p = some (L, a') → ∃ a, B.kept p = some (L, a)
  lbl : B'.lbl = ⟨B.own, 0, none, none⟩ ∨ ∃ p L a c k, B'.kept p = some (L, a) ∧ B.tied p = some (c, k) ∧ B'.lbl = ⟨L.root, L.cost + k, some p, some L.stp⟩
  ver : B'.ver = if B'.lbl = B.lbl then B.ver else B.ver + 1
structure LetterOf (B : Br) (p : Int) (X : Ltr) : Prop where
  stp : X.stp = B.stp
  root : X.root = B.lbl.root
  cost : X.cost = B.lbl.cost
  rests : X.rests = if B.lbl.up = some p then B.lbl.rests else none
  agrees : ∀ z, X.agrees = some z → ¬ B.lbl.up = some p ∧ ∃ M a, B.kept p = some (M, a) ∧ M.rests = some B.stp ∧ M.stp = z
theorem Hist.send {S : Yd} {h : List Ent} (H : Hist S h) {b d p k : Int} {B : Br} {X : Ltr} (hB : S.there b = some B) (ht : B.tied p = some (d, k)) (hX : LetterOf B p X) : SentOk S.net.ts h b d p X := by
  obtain ⟨_, _, i, hi, last⟩ := H.cur b B hB
  refine ⟨⟨k, H.tied b B p d k hB ht⟩, ⟨i, B.lbl, by rw [hX.stp]; exact hi, hX.root.symm, hX.cost.symm, hX.rests⟩, fun z hz => ?_⟩
  obtain ⟨_, M, a, hM, rM, sM⟩ := hX.agrees z hz
  obtain ⟨c, k', t, sent⟩ := H.held b B p M a hB hM
  rw [ht] at t
  cases t
  obtain ⟨j, l, hj, _, _, q⟩ := sent.from_
  rw [rM] at q
  by_cases up : l.up = some p
  · rw [if_pos up] at q
    refine ⟨j, l, by rw [← sM]; exact hj, up, by rw [hX.stp]; exact q.symm, fun x e hx he hl => ?_⟩
    exfalso
    have hx2 := last x e hx he
    rw [hX.stp] at hl
    rcases Nat.lt_or_ge x i with c | c
    · exact Lt2.asym hl (H.mono x i e _ c hx hi he)
    · have e1 : x = i := by omega
      subst e1
      rw [hi] at hx
      cases hx
      exact Lt2.irrefl hl
  · rw [if_neg up] at q; cases q
theorem Lt2.trans {a b c : Stp} (h : Lt2 a b) (g : Lt2 b c) : Lt2 a c := by
  unfold Lt2 at *
  omega
/-- one more label of b, the newest -/
theorem Hist.more {S : Yd} {h : List Ent} (H : Hist S h) {b : Int} {st : Stp} {l : Lbl} (hnew : ∀ (i : Nat) (e : Ent), h[i]? = some e → e.br = b → Lt2 e.stp st)
    (hrest : ∀ p r, l.up = some p → l.rests = some r → ∃ (i : Nat) (f : Ent) (k : Int), h[i]? = some f ∧ f.stp = r ∧ Conn S.net.ts p b f.br k ∧ l.root = f.lbl.root ∧ l.cost = f.lbl.cost + k)
    {S' : Yd} (hn : S'.net = S.net) (hr : ∀ m, m ∈ S'.road → m ∈ S.road) (hlo : ∀ c, c ≠ b → S'.lives c = S.lives c) (hlb : ∀ x y, S.lives b = some x → S'.lives b = some y → x ≤ y) (hlb2 : ∀ y, S'.lives b = some y → st.1 ≤ y) (hlb3 : ∀ y, S'.lives b = some y → ∃ x, S.lives b = some x)
    (hto : ∀ c B, c ≠ b → S'.there c = some B → S.there c = some B)
    (htb : ∀ B, S'.there b = some B → B.own = b ∧ S'.lives b = some B.life ∧ B.stp = st ∧ B.lbl = l ∧ (∀ p L a, B.kept p = some (L, a) → ∃ c k, B.tied p = some (c, k) ∧ SentOk S.net.ts h c b p L) ∧ ∀ p c k, B.tied p = some (c, k) → Conn S.net.ts p b c k) :
    Hist S' (h ++ [⟨b, st, l⟩]) := by
  refine ⟨fun i j e f hij hi hj hb => ?_, fun j e p r hj up rs => ?_, fun c B hB => ?_, fun j e y hj hy => ?_, fun m hm => ?_, fun c B p L a hB hk => ?_, fun c B p d k hB ht => ?_⟩
  · rcases at_more hj with ⟨_, hj⟩ | ⟨ej, rfl⟩
    · rcases at_more hi with ⟨_, hi⟩ | ⟨ei, rfl⟩
      · exact H.mono i j e f hij hi hj hb
      · have := (List.getElem?_eq_some_iff.mp hj).1; omega
    · rcases at_more hi with ⟨_, hi⟩ | ⟨ei, rfl⟩
      · exact hnew i e hi hb
      · omega
  · rw [hn]
    rcases at_more hj with ⟨lt, hj⟩ | ⟨ej, rfl⟩
    · obtain ⟨i, f, k, c1, c2, c3⟩ := H.rest j e p r hj up rs
      exact ⟨i, f, k, c1, by rw [List.getElem?_append_left (Nat.lt_trans c1 lt)]; exact c2, c3⟩
    · obtain ⟨i, f, k, c2, c3⟩ := hrest p r up rs
      have lt := (List.getElem?_eq_some_iff.mp c2).1
      exact ⟨i, f, k, by omega, by rw [List.getElem?_append_left lt]; exact c2, c3⟩
  · by_cases e : c = b
    · subst e
      obtain ⟨c1, c2, c3, c4, _⟩ := htb B hB
      refine ⟨c1, c2, h.length, ?_, fun j f hj _ => ?_⟩
      · rw [List.getElem?_append_right (Nat.le_refl _), Nat.sub_self, c3, c4]; rfl
      · rcases at_more hj with ⟨lt, _⟩ | ⟨ej, _⟩ <;> omega
    · obtain ⟨c1, c2, i, c3, c4⟩ := H.cur c B (hto c B e hB)
      refine ⟨c1, (hlo c e).trans c2, i, ?_, fun j f hj hf => ?_⟩
      · rw [List.getElem?_append_left (List.getElem?_eq_some_iff.mp c3).1]; exact c3
      · rcases at_more hj with ⟨_, hj⟩ | ⟨_, rfl⟩
        · exact c4 j f hj hf
        · exact absurd hf.symm e
  · rcases at_more hj with ⟨_, hj⟩ | ⟨_, rfl⟩
    · by_cases e1 : e.br = b
      · rw [e1] at hy
        obtain ⟨x, hx⟩ := hlb3 y hy
        have := H.old j e x hj (by rw [e1]; exact hx)
        have := hlb x y hx hy
        omega
      · exact H.old j e y hj ((hlo _ e1) ▸ hy)
    · exact hlb2 y hy
  · rw [hn]; exact (H.road m (hr m hm)).more _
  · rw [hn]
    by_cases e : c = b
    · subst e
      obtain ⟨d, k, t, s⟩ := (htb B hB).2.2.2.2.1 p L a hk
      exact ⟨d, k, t, s.more _⟩
    · obtain ⟨d, k, t, s⟩ := H.held c B p L a (hto c B e hB) hk
      exact ⟨d, k, t, s.more _⟩
  · rw [hn]
    by_cases e : c = b
    · subst e
      exact (htb B hB).2.2.2.2.2 p d k ht
    · exact H.tied c B p d k (hto c B e hB) ht
/-- .. and letters sent by what it is now -/
theorem Hist.post {S : Yd} {h : List Ent} (H : Hist S h) (ms : List Msg) (hm : ∀ m, m ∈ ms → ∃ B k, S.there m.src = some B ∧ B.tied m.place = some (m.dst, k) ∧ LetterOf B m.place m.ltr) : Hist { S with road := S.road ++ ms } h :=
  ⟨H.mono, H.rest, H.cur, H.old, fun m h0 => by
    rcases List.mem_append.mp h0 with h1 | h1
    · exact H.road m h1
    · obtain ⟨B, k, a, b, c⟩ := hm m h1
      exact H.send a b c, H.held, H.tied⟩
theorem Good.tick {S : Yd} (G : Good S) {b : Int} {B B' : Br} (hB : S.there b = some B) (T : TickOk B B') (ms : List Msg) (hm : ∀ m, m ∈ ms → m.src = b ∧ ∃ k, B.tied m.place = some (m.dst, k) ∧ LetterOf B' m.place m.ltr) :
    Good { S with there := setAt S.there b (some B'), road := S.road ++ ms } := by
  obtain ⟨h, H⟩ := G.hist
  obtain ⟨co, cl, i, hi, last⟩ := H.cur b B hB
  have mid : ∃ h', Hist { S with there := setAt S.there b (some B') } h' := by
    have hto : ∀ c C, c ≠ b → setAt S.there b (some B') c = some C → S.there c = some C := fun c C e hC => (setAt_ne (f := S.there) e) ▸ hC
    have keptOk : ∀ p L a, B'.kept p = some (L, a) → ∃ c k, B'.tied p = some (c, k) ∧ SentOk S.net.ts h c b p L := fun p L a hk => by
      obtain ⟨a0, h0⟩ := T.kept p L a hk
      obtain ⟨c, k, t, s⟩ := H.held b B p L a0 hB h0
      exact ⟨c, k, by rw [T.tied]; exact t, s⟩
    by_cases e : B'.lbl = B.lbl
    · have ev : B'.stp = B.stp := by
        have := T.ver
        rw [if_pos e] at this
        unfold Br.stp; rw [T.life, this]
      refine ⟨h, H.mono, H.rest, fun c C hC => ?_, H.old, H.road, fun c C p L a hC hk => ?_, fun c C p d k hC ht => ?_⟩
      · by_cases ec : c = b
        · subst ec
          have hC' : setAt S.there c (some B') c = some C := hC
          rw [setAt_same] at hC'
          cases hC'
          exact ⟨T.own.trans co, by rw [T.life]; exact cl, i, by rw [ev, e]; exact hi, last⟩
        · exact H.cur c C (hto c C ec hC)
      · by_cases ec : c = b
        · subst ec
          have hC' : setAt S.there c (some B') c = some C := hC
          rw [setAt_same] at hC'
          cases hC'
          exact keptOk p L a hk
        · exact H.held c C p L a (hto c C ec hC) hk
      · by_cases ec : c = b
        · subst ec
          have hC' : setAt S.there c (some B') c = some C := hC
          rw [setAt_same] at hC'
          cases hC'
          rw [T.tied] at ht
          exact H.tied c B p d k hB ht
        · exact H.tied c C p d k (hto c C ec hC) ht
    · have ev : B'.stp = (B.life, B.ver + 1) := by
        have := T.ver
        rw [if_neg e] at this
        unfold Br.stp; rw [T.life, this]
      have step : Lt2 B.stp (B.life, B.ver + 1) := .inr ⟨rfl, by show B.ver < B.ver + 1; omega⟩
      refine ⟨h ++ [⟨b, (B.life, B.ver + 1), B'.lbl⟩], H.more (S' := { S with there := setAt S.there b (some B') }) (fun j f hj hf => ?_) (fun p r up rs => ?_) rfl (fun _ hm => hm) (fun _ _ => rfl) (fun x y hx hy => ?_) (fun y hy => ?_) (fun y hy => ⟨y, hy⟩) hto fun C hC => ?_⟩
      · have := last j f hj hf
        rcases Nat.lt_or_ge j i with c | c
        · exact (H.mono j i f _ c hj hi hf).trans step
        · have e1 : j = i := by omega
          subst e1
          rw [hi] at hj
          cases hj
          exact step
      · rcases T.lbl with el | ⟨p', L, a, c, k, hk, ht, el⟩
        · rw [el] at up; cases up
        · rw [el] at up rs
          cases up
          cases rs
          obtain ⟨a0, h0⟩ := T.kept p L a hk
          obtain ⟨c', k', t, s⟩ := H.held b B p L a0 hB h0
          rw [ht] at t
          cases t
          obtain ⟨j, l, hj, lr, lc, _⟩ := s.from_
          refine ⟨j, _, k, hj, rfl, H.tied b B p c k hB ht, ?_, ?_⟩
          · rw [el]; exact lr.symm
          · rw [el]
            show L.cost + k = l.cost + k
            rw [lc]
      · have hx' : S.lives b = some x := hx
        have hy' : S.lives b = some y := hy
        rw [hx'] at hy'
        cases hy'
        exact Int.le_refl _
      · have hy' : S.lives b = some y := hy
        rw [cl] at hy'
        cases hy'
        exact Int.le_refl _
      · have hC' : setAt S.there b (some B') b = some C := hC
        rw [setAt_same] at hC'
        cases hC'
        exact ⟨T.own.trans co, by rw [T.life]; exact cl, ev, rfl, keptOk, fun p c k ht => H.tied b B p c k hB (T.tied ▸ ht)⟩
  obtain ⟨h', H'⟩ := mid
  refine ⟨G.net, ⟨h', H'.post ms fun m hms => ?_⟩, fun c C hC => ?_, G.liv, G.cutd⟩
  · obtain ⟨e, k, t, l⟩ := hm m hms
    refine ⟨B', k, ?_, by rw [T.tied]; exact t, l⟩
    show setAt S.there b (some B') m.src = some B'
    rw [e]; exact setAt_same
  · by_cases ec : c = b
    · rw [ec]; exact G.dom b B hB
    · exact G.dom c C ((setAt_ne (f := S.there) ec) ▸ hC)

/-! ### a letter is heard -/
theorem Good.hear {S : Yd} (G : Good S) {m : Msg} (hm : m ∈ S.road) {B : Br} (hB : S.there m.dst = some B) {x : Int × Int} (ht : B.tied m.place = some x) (a : Int) :
    Good { S with there := setAt S.there m.dst (some { B with kept := setAt B.kept m.place (some (m.ltr, a)) }) } := by
  obtain ⟨h, H⟩ := G.hist
  have hn : ∀ t, t ∈ S.net.ts → t.1 < t.2.1 := fun t ht => (G.net.tie t ht).1
  have hto : ∀ {c C}, c ≠ m.dst → setAt S.there m.dst (some { B with kept := setAt B.kept m.place (some (m.ltr, a)) }) c = some C → S.there c = some C := fun {c C} e hC => (setAt_ne (f := S.there) e) ▸ hC
  have htb : ∀ {C}, setAt S.there m.dst (some { B with kept := setAt B.kept m.place (some (m.ltr, a)) }) m.dst = some C → C = { B with kept := setAt B.kept m.place (some (m.ltr, a)) } := fun {C} hC => by
    rw [setAt_same] at hC
    exact (Option.some.inj hC).symm
  refine ⟨G.net, ⟨h, H.mono, H.rest, fun c C hC => ?_, H.old, H.road, fun c C p L z hC hk => ?_, fun c C p d k hC hd => ?_⟩, fun c C hC => ?_, G.liv, G.cutd⟩
  · by_cases e : c = m.dst
    · subst e
      rw [htb hC]
      exact H.cur m.dst B hB
    · exact H.cur c C (hto e hC)
  · by_cases e : c = m.dst
    · subst e
      rw [htb hC] at hk ⊢
      by_cases ep : p = m.place
      · subst ep
        have hk' : setAt B.kept m.place (some (m.ltr, a)) m.place = some (L, z) := hk
        rw [setAt_same] at hk'
        cases hk'
        obtain ⟨d, k⟩ := x
        have s := H.road m hm
        obtain ⟨k2, cn⟩ := s.conn
        obtain ⟨e1, _⟩ := Conn.inj (H.tied m.dst B m.place d k hB ht) cn.symm hn
        subst e1
        exact ⟨_, k, ht, s⟩
      · exact H.held m.dst B p L z hB ((setAt_ne (f := B.kept) ep) ▸ hk)
    · exact H.held c C p L z (hto e hC) hk
  · by_cases e : c = m.dst
    · subst e
      rw [htb hC] at hd
      exact H.tied m.dst B p d k hB hd
    · exact H.tied c C p d k (hto e hC) hd
  · by_cases e : c = m.dst
    · rw [e]; exact G.dom m.dst B hB
    · exact G.dom c C (hto e hC)

/-! ### a new life -/
theorem Good.again {S : Yd} (G : Good S) {b l : Int} {B : Br} (hb : S.there b = none) (hl : S.lives b = some l) (h1 : B.own = b) (h2 : B.life = l + 1) (h3 : B.lbl = ⟨b, 0, none, none⟩) (h4 : ∀ p, B.kept p = none)
    (h5 : ∀ p c k, B.tied p = some (c, k) → Conn S.net.ts p b c k) : Good { S with lives := setAt S.lives b (some (l + 1)), there := setAt S.there b (some B) } := by
  obtain ⟨h, H⟩ := G.hist
  have mb : b ∈ S.net.bs := (G.liv b).mpr (by rw [hl]; rfl)
  refine ⟨G.net, ⟨h ++ [⟨b, B.stp, B.lbl⟩], H.more (S' := { S with lives := setAt S.lives b (some (l + 1)), there := setAt S.there b (some B) }) (fun j f hj hf => ?_) (fun p r up _ => ?_) rfl (fun _ hm => hm) (fun c e => setAt_ne e) (fun x y hx hy => ?_) (fun y hy => ?_) (fun y _ => ⟨l, hl⟩) (fun c C e hC => (setAt_ne (f := S.there) e) ▸ hC) fun C hC => ?_⟩, fun c C hC => ?_, fun c => ?_, G.cutd⟩
  · have := H.old j f l hj (by rw [hf]; exact hl)
    left
    show f.stp.1 < B.life
    omega
  · rw [h3] at up; cases up
  · have hy' : setAt S.lives b (some (l + 1)) b = some y := hy
    rw [setAt_same] at hy'
    cases hy'
    rw [hl] at hx
    cases hx
    omega
  · have hy' : setAt S.lives b (some (l + 1)) b = some y := hy
    rw [setAt_same] at hy'
    cases hy'
    show B.life ≤ l + 1
    omega
  · have hC' : setAt S.there b (some B) b = some C := hC
    rw [setAt_same] at hC'
    cases hC'
    refine ⟨h1, ?_, rfl, rfl, fun p L a hk => ?_, h5⟩
    · show setAt S.lives b (some (l + 1)) b = some B.life
      rw [setAt_same, h2]
    · rw [h4 p] at hk; cases hk
  · by_cases e : c = b
    · rw [e]; exact mb
    · exact G.dom c C ((setAt_ne (f := S.there) e) ▸ hC)
  · show c ∈ S.net.bs ↔ (setAt S.lives b (some (l + 1)) c).isSome = true
    by_cases e : c = b
    · subst e
      rw [setAt_same]
      exact ⟨fun _ => rfl, fun _ => mb⟩
    · rw [setAt_ne e]; exact G.liv c

/-! ### the first moment -/
theorem Good.first {S : Yd} (hn : NetOk S.net) (hl : ∀ b, S.lives b = if b ∈ S.net.bs then some 0 else none) (hr : S.road = []) (hc : ∀ p, S.cut p = false)
    (ht : ∀ b B, S.there b = some B → b ∈ S.net.bs ∧ B.own = b ∧ B.life = 0 ∧ B.ver = 0 ∧ B.lbl = ⟨b, 0, none, none⟩ ∧ (∀ p, B.kept p = none) ∧ ∀ p c k, B.tied p = some (c, k) → Conn S.net.ts p b c k) : Good S := by
  have nd : S.net.bs.Nodup := lt_nd hn.rise
  have at_ : ∀ {j : Nat} {e : Ent}, (S.net.bs.map fun b => (⟨b, (0, 0), ⟨b, 0, none, none⟩⟩ : Ent))[j]? = some e → ∃ b, S.net.bs[j]? = some b ∧ e = ⟨b, (0, 0), ⟨b, 0, none, none⟩⟩ := fun {j e} h => by
    rw [List.getElem?_map] at h
    cases q : S.net.bs[j]? with
    | none => rw [q] at h; cases h
    | some b => rw [q] at h; exact ⟨b, rfl, (Option.some.inj h).symm⟩
  refine ⟨hn, ⟨S.net.bs.map fun b => ⟨b, (0, 0), ⟨b, 0, none, none⟩⟩, fun i j e f hij hi hj hb => ?_, fun j e p r hj up _ => ?_, fun b B hB => ?_, fun j e l hj hl' => ?_, fun m hm => ?_, fun b B p L a hB hk => ?_, fun b B p c k hB htd => (ht b B hB).2.2.2.2.2.2 p c k htd⟩, fun b B hB => (ht b B hB).1, fun b => ?_, fun p hp => ?_⟩
  · obtain ⟨x, hx, rfl⟩ := at_ hi
    obtain ⟨y, hy, rfl⟩ := at_ hj
    have e : x = y := hb
    subst e
    have := nd_inj nd hx hy
    omega
  · obtain ⟨x, hx, rfl⟩ := at_ hj
    cases up
  · obtain ⟨h1, h2, h3, h4, h5, h6, h7⟩ := ht b B hB
    obtain ⟨i, hi⟩ := List.getElem?_of_mem h1
    refine ⟨h2, by rw [hl, if_pos h1, h3], i, ?_, fun j e hj he => ?_⟩
    · rw [List.getElem?_map, hi]
      show some _ = some _
      unfold Br.stp
      rw [h3, h4, h5]
    · obtain ⟨x, hx, rfl⟩ := at_ hj
      have e : x = b := he
      subst e
      exact Nat.le_of_eq (nd_inj nd hx hi)
  · obtain ⟨x, hx, rfl⟩ := at_ hj
    have h2 : S.lives x = some l := hl'
    rw [hl, if_pos (List.mem_of_getElem? hx)] at h2
    cases h2
    exact Int.le_refl _
  · rw [hr] at hm; cases hm
  · rw [(ht b B hB).2.2.2.2.2.1 p] at hk; cases hk
  · rw [hl]
    by_cases e : b ∈ S.net.bs
    · rw [if_pos e]; exact ⟨fun _ => rfl, fun _ => e⟩
    · rw [if_neg e]; exact ⟨fun h => absurd h e, fun h => by cases h⟩
  · rw [hc p] at hp; cases hp
end Sw

set_option Elab.async false
set_option linter.all false
set_option maxRecDepth 100000
set_option maxHeartbeats 4000000
/-! Sw: where each def stands, what the top has left, what a def's promise is. Printed by gen_base.py. -/
namespace Sw
open PySem PySem.Spec PyProof.Rows L2

def topS (i : Nat) : Stmt := PySem.Challenge.pw_shutways_k52_whole_parts.main.body.getD i (.Pass ⟨0, 0, 0, 0⟩)
abbrev FnP (K : PySem.W.Frag) (x qual : Str) (st : Stmt) (f : Addr) (fd : FuncData) : Prop := FunD K x qual (defArgs st) (defBody st) (defScope st) [] [] f fd

abbrev s_ow : Stmt := topS 7
abbrev s_ot : Stmt := topS 9
abbrev s_nu : Stmt := topS 10
abbrev s_ca : Stmt := topS 11
abbrev s_po : Stmt := topS 12
abbrev s_iw : Stmt := topS 18
abbrev s_nb : Stmt := topS 19
abbrev s_tf : Stmt := topS 20
abbrev s_mn : Stmt := topS 21
abbrev s_ne : Stmt := topS 22
abbrev s_nw : Stmt := topS 24
abbrev s_ic : Stmt := topS 28
abbrev s_sh : Stmt := topS 29
abbrev s_lc : Stmt := topS 32
abbrev s_lr : Stmt := topS 33
abbrev s_lt : Stmt := topS 34
abbrev s_ln : Stmt := topS 35
abbrev s_lu : Stmt := topS 36
abbrev s_ld : Stmt := topS 37
abbrev s_lq : Stmt := topS 38
abbrev s_lm : Stmt := topS 39
abbrev s_la : Stmt := topS 40
abbrev s_lg : Stmt := topS 41
abbrev s_lw : Stmt := topS 42
abbrev s_Bi : Stmt := inClass (topS 26) 0
abbrev s_Bh : Stmt := inClass (topS 26) 1
abbrev s_Bu : Stmt := inClass (topS 26) 2
abbrev s_Bd : Stmt := inClass (topS 26) 3
abbrev s_Bs : Stmt := inClass (topS 26) 5
abbrev s_Bg : Stmt := inClass (topS 26) 7
abbrev s_Bl : Stmt := inClass (topS 26) 8
abbrev s_Bo : Stmt := inClass (topS 26) 9
abbrev s_Bt : Stmt := inClass (topS 26) 10
abbrev s_Be : Stmt := inClass (topS 26) 11
abbrev s_Yi : Stmt := inClass (topS 30) 0
abbrev s_Yn : Stmt := inClass (topS 30) 1
abbrev s_Yu : Stmt := inClass (topS 30) 3
abbrev s_Yc : Stmt := inClass (topS 30) 4
abbrev s_Yd : Stmt := inClass (topS 30) 5
abbrev s_Ya : Stmt := inClass (topS 30) 6
abbrev s_Ym : Stmt := inClass (topS 30) 7
abbrev s_Yt : Stmt := inClass (topS 30) 8
abbrev s_Yo : Stmt := inClass (topS 30) 9
abbrev s_Yf : Stmt := inClass (topS 30) 10
abbrev s_Yb : Stmt := inClass (topS 30) 11
abbrev s_Yr : Stmt := inClass (topS 30) 12
abbrev s_Yw : Stmt := inClass (topS 30) 13
abbrev s_Yg : Stmt := inClass (topS 30) 16
abbrev s_Ye : Stmt := inClass (topS 30) 17
/-! ### facts of the top -/
def d_ow : He.DefD := ⟨("open_ways", none), "open_ways", "open_ways", defArgs s_ow, defBody s_ow, defScope s_ow, [], []⟩
def d_ot : He.DefD := ⟨("open_ties", none), "open_ties", "open_ties", defArgs s_ot, defBody s_ot, defScope s_ot, [], []⟩
def d_nu : He.DefD := ⟨("need_up", none), "need_up", "need_up", defArgs s_nu, defBody s_nu, defScope s_nu, [], []⟩
def d_ca : He.DefD := ⟨("carried", none), "carried", "carried", defArgs s_ca, defBody s_ca, defScope s_ca, [], []⟩
def d_po : He.DefD := ⟨("part_of", none), "part_of", "part_of", defArgs s_po, defBody s_po, defScope s_po, [], []⟩
def d_iw : He.DefD := ⟨("is_within", none), "is_within", "is_within", defArgs s_iw, defBody s_iw, defScope s_iw, [], []⟩
def d_nb : He.DefD := ⟨("need_bridges", none), "need_bridges", "need_bridges", defArgs s_nb, defBody s_nb, defScope s_nb, [], []⟩
def d_tf : He.DefD := ⟨("tie_of", none), "tie_of", "tie_of", defArgs s_tf, defBody s_tf, defScope s_tf, [], []⟩
def d_mn : He.DefD := ⟨("make_net", none), "make_net", "make_net", defArgs s_mn, defBody s_mn, defScope s_mn, [], []⟩
def d_ne : He.DefD := ⟨("neighbours", none), "neighbours", "neighbours", defArgs s_ne, defBody s_ne, defScope s_ne, [], []⟩
def d_nw : He.DefD := ⟨("newer", none), "newer", "newer", defArgs s_nw, defBody s_nw, defScope s_nw, [], []⟩
def d_ic : He.DefD := ⟨("is_count", none), "is_count", "is_count", defArgs s_ic, defBody s_ic, defScope s_ic, [], []⟩
def d_sh : He.DefD := ⟨("is_shaped", none), "is_shaped", "is_shaped", defArgs s_sh, defBody s_sh, defScope s_sh, [], []⟩
def d_lc : He.DefD := ⟨("_law_cell_at", none), "_law_cell_at", "_law_cell_at", defArgs s_lc, defBody s_lc, defScope s_lc, [], []⟩
def d_lr : He.DefD := ⟨("_law_row", none), "_law_row", "_law_row", defArgs s_lr, defBody s_lr, defScope s_lr, [], []⟩
def d_lt : He.DefD := ⟨("_law_take", none), "_law_take", "_law_take", defArgs s_lt, defBody s_lt, defScope s_lt, [], []⟩
def d_ln : He.DefD := ⟨("_law_net", none), "_law_net", "_law_net", defArgs s_ln, defBody s_ln, defScope s_ln, [], []⟩
def d_lu : He.DefD := ⟨("_law_turned", none), "_law_turned", "_law_turned", defArgs s_lu, defBody s_lu, defScope s_lu, [], []⟩
def d_ld : He.DefD := ⟨("_law_drawn", none), "_law_drawn", "_law_drawn", defArgs s_ld, defBody s_ld, defScope s_ld, [], []⟩
def d_lq : He.DefD := ⟨("_law_round", none), "_law_round", "_law_round", defArgs s_lq, defBody s_lq, defScope s_lq, [], []⟩
def d_lm : He.DefD := ⟨("_law_moved", none), "_law_moved", "_law_moved", defArgs s_lm, defBody s_lm, defScope s_lm, [], []⟩
def d_la : He.DefD := ⟨("_law_made", none), "_law_made", "_law_made", defArgs s_la, defBody s_la, defScope s_la, [], []⟩
def d_lg : He.DefD := ⟨("_law_right", none), "_law_right", "_law_right", defArgs s_lg, defBody s_lg, defScope s_lg, [], []⟩
def d_lw : He.DefD := ⟨("law", none), "law", "law", defArgs s_lw, defBody s_lw, defScope s_lw, [], []⟩
def d_Bi : He.DefD := ⟨("Bridge", some "__init__"), "__init__", "Bridge.__init__", defArgs s_Bi, defBody s_Bi, defScope s_Bi, [], []⟩
def d_Bh : He.DefD := ⟨("Bridge", some "hear"), "hear", "Bridge.hear", defArgs s_Bh, defBody s_Bh, defScope s_Bh, [], []⟩
def d_Bu : He.DefD := ⟨("Bridge", some "up"), "up", "Bridge.up", defArgs s_Bu, defBody s_Bu, defScope s_Bu, [], []⟩
def d_Bd : He.DefD := ⟨("Bridge", some "down"), "down", "Bridge.down", defArgs s_Bd, defBody s_Bd, defScope s_Bd, [], []⟩
def d_Bs : He.DefD := ⟨("Bridge", some "stamp"), "stamp", "Bridge.stamp", defArgs s_Bs, defBody s_Bs, defScope s_Bs, [], []⟩
def d_Bg : He.DefD := ⟨("Bridge", some "grow_older"), "grow_older", "Bridge.grow_older", defArgs s_Bg, defBody s_Bg, defScope s_Bg, [], []⟩
def d_Bl : He.DefD := ⟨("Bridge", some "least_label"), "least_label", "Bridge.least_label", defArgs s_Bl, defBody s_Bl, defScope s_Bl, [], []⟩
def d_Bo : He.DefD := ⟨("Bridge", some "letter_over"), "letter_over", "Bridge.letter_over", defArgs s_Bo, defBody s_Bo, defScope s_Bo, [], []⟩
def d_Bt : He.DefD := ⟨("Bridge", some "tick"), "tick", "Bridge.tick", defArgs s_Bt, defBody s_Bt, defScope s_Bt, [], []⟩
def d_Be : He.DefD := ⟨("Bridge", some "end"), "end", "Bridge.end", defArgs s_Be, defBody s_Be, defScope s_Be, [], []⟩
def d_Yi : He.DefD := ⟨("Yard", some "__init__"), "__init__", "Yard.__init__", defArgs s_Yi, defBody s_Yi, defScope s_Yi, [], []⟩
def d_Yn : He.DefD := ⟨("Yard", some "net"), "net", "Yard.net", defArgs s_Yn, defBody s_Yn, defScope s_Yn, [], []⟩
def d_Yu : He.DefD := ⟨("Yard", some "is_up"), "is_up", "Yard.is_up", defArgs s_Yu, defBody s_Yu, defScope s_Yu, [], []⟩
def d_Yc : He.DefD := ⟨("Yard", some "can"), "can", "Yard.can", defArgs s_Yc, defBody s_Yc, defScope s_Yc, [], []⟩
def d_Yd : He.DefD := ⟨("Yard", some "deed"), "deed", "Yard.deed", defArgs s_Yd, defBody s_Yd, defScope s_Yd, [], []⟩
def d_Ya : He.DefD := ⟨("Yard", some "across"), "across", "Yard.across", defArgs s_Ya, defBody s_Ya, defScope s_Ya, [], []⟩
def d_Ym : He.DefD := ⟨("Yard", some "come"), "come", "Yard.come", defArgs s_Ym, defBody s_Ym, defScope s_Ym, [], []⟩
def d_Yt : He.DefD := ⟨("Yard", some "turn_tie"), "turn_tie", "Yard.turn_tie", defArgs s_Yt, defBody s_Yt, defScope s_Yt, [], []⟩
def d_Yo : He.DefD := ⟨("Yard", some "open_ties"), "open_ties", "Yard.open_ties", defArgs s_Yo, defBody s_Yo, defScope s_Yo, [], []⟩
def d_Yf : He.DefD := ⟨("Yard", some "fall_bridge"), "fall_bridge", "Yard.fall_bridge", defArgs s_Yf, defBody s_Yf, defScope s_Yf, [], []⟩
def d_Yb : He.DefD := ⟨("Yard", some "back_bridge"), "back_bridge", "Yard.back_bridge", defArgs s_Yb, defBody s_Yb, defScope s_Yb, [], []⟩
def d_Yr : He.DefD := ⟨("Yard", some "road"), "road", "Yard.road", defArgs s_Yr, defBody s_Yr, defScope s_Yr, [], []⟩
def d_Yw : He.DefD := ⟨("Yard", some "down"), "down", "Yard.down", defArgs s_Yw, defBody s_Yw, defScope s_Yw, [], []⟩
def d_Yg : He.DefD := ⟨("Yard", some "bridge"), "bridge", "Yard.bridge", defArgs s_Yg, defBody s_Yg, defScope s_Yg, [], []⟩
def d_Ye : He.DefD := ⟨("Yard", some "ends"), "ends", "Yard.ends", defArgs s_Ye, defBody s_Ye, defScope s_Ye, [], []⟩
def fn : List He.DefD := [d_ow, d_ot, d_nu, d_ca, d_po, d_iw, d_nb, d_tf, d_mn, d_ne, d_nw, d_ic, d_sh, d_lc, d_lr, d_lt, d_ln, d_lu, d_ld, d_lq, d_lm, d_la, d_lg, d_lw, d_Bi, d_Bh, d_Bu, d_Bd, d_Bs, d_Bg, d_Bl, d_Bo, d_Bt, d_Be, d_Yi, d_Yn, d_Yu, d_Yc, d_Yd, d_Ya, d_Ym, d_Yt, d_Yo, d_Yf, d_Yb, d_Yr, d_Yw, d_Yg, d_Ye]
def fa : List He.Fa := [.glo "open_ways", .glo "open_ties", .glo "need_up", .glo "carried", .glo "part_of", .glo "is_within", .glo "need_bridges", .glo "tie_of", .glo "make_net", .glo "neighbours", .glo "newer", .glo "is_count", .glo "is_shaped", .glo "_law_cell_at", .glo "_law_row", .glo "_law_take", .glo "_law_net", .glo "_law_turned", .glo "_law_drawn", .glo "_law_round", .glo "_law_moved", .glo "_law_made", .glo "_law_right", .glo "law", .free "enumerate", .free "isinstance", .free "int", .free "bool", .free "str", .free "len", .free "list", .free "tuple", .free "sorted", .free "set", .free "range", .free "min", .free "max", .int "MOST_BRIDGES" 10, .int "MOST_TIES" 16, .int "MOST_NUMBER" 999, .int "MOST_COST" 1000, .glo "Bridge", .cls "Bridge", .mkr "Bridge", .glo "Yard", .cls "Yard", .mkr "Yard", .noat "Bridge" "own", .noat "Bridge" "lived", .noat "Bridge" "most", .noat "Bridge" "tied", .noat "Bridge" "kept", .noat "Bridge" "shown", .noat "Bridge" "version", .noat "Bridge" "ticked", .noat "Yard" "plan", .noat "Yard" "oldest", .noat "Yard" "lives", .noat "Yard" "there", .noat "Yard" "cut", .noat "Yard" "letters", .meth "Bridge" "hear", .meth "Bridge" "up", .meth "Bridge" "down", .meth "Bridge" "stamp", .meth "Bridge" "grow_older", .meth "Bridge" "least_label", .meth "Bridge" "letter_over", .meth "Bridge" "tick", .meth "Bridge" "end", .meth "Yard" "net", .meth "Yard" "is_up", .meth "Yard" "can", .meth "Yard" "deed", .meth "Yard" "across", .meth "Yard" "come", .meth "Yard" "turn_tie", .meth "Yard" "open_ties", .meth "Yard" "fall_bridge", .meth "Yard" "back_bridge", .meth "Yard" "road", .meth "Yard" "down", .meth "Yard" "bridge", .meth "Yard" "ends"]
structure Tx (K : PySem.W.Frag) (mg : Str → Option Value) : Prop where
  says : He.SaysD fa fn K
  ns : ∃ h, K.In h ∧ h.Ns mainGlobals mg
abbrev CB (K : PySem.W.Frag) : Addr := He.ga K "Bridge"
abbrev CY (K : PySem.W.Frag) : Addr := He.ga K "Yard"
section
variable {K : PySem.W.Frag} {mg : Str → Option Value}
theorem Tx.glo (T : Tx K mg) {x : Str} (c : (He.Fa.glo x).ok K = true) : mg x = some (.ref (He.ga K x)) := by
  obtain ⟨h, X, G⟩ := T.ns
  exact He.glo_ok X G c
theorem Tx.free (T : Tx K mg) {x : Str} (c : (He.Fa.free x).ok K = true) : mg x = none := by
  obtain ⟨h, X, G⟩ := T.ns
  exact He.free_ok X G c
theorem Tx.int (T : Tx K mg) {x : Str} {i : Int} (c : (He.Fa.int x i).ok K = true) : ∃ t, mg x = some (.int i t) := by
  obtain ⟨h, X, G⟩ := T.ns
  exact He.int_ok X G c

theorem Tx.g_ow (T : Tx K mg) : mg "open_ways" = some (.ref (He.ga K "open_ways")) := T.glo (T.says.fact 0 (f := .glo "open_ways") rfl)
theorem Tx.g_ot (T : Tx K mg) : mg "open_ties" = some (.ref (He.ga K "open_ties")) := T.glo (T.says.fact 1 (f := .glo "open_ties") rfl)
theorem Tx.g_nu (T : Tx K mg) : mg "need_up" = some (.ref (He.ga K "need_up")) := T.glo (T.says.fact 2 (f := .glo "need_up") rfl)
theorem Tx.g_ca (T : Tx K mg) : mg "carried" = some (.ref (He.ga K "carried")) := T.glo (T.says.fact 3 (f := .glo "carried") rfl)
theorem Tx.g_po (T : Tx K mg) : mg "part_of" = some (.ref (He.ga K "part_of")) := T.glo (T.says.fact 4 (f := .glo "part_of") rfl)
theorem Tx.g_iw (T : Tx K mg) : mg "is_within" = some (.ref (He.ga K "is_within")) := T.glo (T.says.fact 5 (f := .glo "is_within") rfl)
theorem Tx.g_nb (T : Tx K mg) : mg "need_bridges" = some (.ref (He.ga K "need_bridges")) := T.glo (T.says.fact 6 (f := .glo "need_bridges") rfl)
theorem Tx.g_tf (T : Tx K mg) : mg "tie_of" = some (.ref (He.ga K "tie_of")) := T.glo (T.says.fact 7 (f := .glo "tie_of") rfl)
theorem Tx.g_mn (T : Tx K mg) : mg "make_net" = some (.ref (He.ga K "make_net")) := T.glo (T.says.fact 8 (f := .glo "make_net") rfl)
theorem Tx.g_ne (T : Tx K mg) : mg "neighbours" = some (.ref (He.ga K "neighbours")) := T.glo (T.says.fact 9 (f := .glo "neighbours") rfl)
theorem Tx.g_nw (T : Tx K mg) : mg "newer" = some (.ref (He.ga K "newer")) := T.glo (T.says.fact 10 (f := .glo "newer") rfl)
theorem Tx.g_ic (T : Tx K mg) : mg "is_count" = some (.ref (He.ga K "is_count")) := T.glo (T.says.fact 11 (f := .glo "is_count") rfl)
theorem Tx.g_sh (T : Tx K mg) : mg "is_shaped" = some (.ref (He.ga K "is_shaped")) := T.glo (T.says.fact 12 (f := .glo "is_shaped") rfl)
theorem Tx.g_lc (T : Tx K mg) : mg "_law_cell_at" = some (.ref (He.ga K "_law_cell_at")) := T.glo (T.says.fact 13 (f := .glo "_law_cell_at") rfl)
theorem Tx.g_lr (T : Tx K mg) : mg "_law_row" = some (.ref (He.ga K "_law_row")) := T.glo (T.says.fact 14 (f := .glo "_law_row") rfl)
theorem Tx.g_lt (T : Tx K mg) : mg "_law_take" = some (.ref (He.ga K "_law_take")) := T.glo (T.says.fact 15 (f := .glo "_law_take") rfl)
theorem Tx.g_ln (T : Tx K mg) : mg "_law_net" = some (.ref (He.ga K "_law_net")) := T.glo (T.says.fact 16 (f := .glo "_law_net") rfl)
theorem Tx.g_lu (T : Tx K mg) : mg "_law_turned" = some (.ref (He.ga K "_law_turned")) := T.glo (T.says.fact 17 (f := .glo "_law_turned") rfl)
theorem Tx.g_ld (T : Tx K mg) : mg "_law_drawn" = some (.ref (He.ga K "_law_drawn")) := T.glo (T.says.fact 18 (f := .glo "_law_drawn") rfl)
theorem Tx.g_lq (T : Tx K mg) : mg "_law_round" = some (.ref (He.ga K "_law_round")) := T.glo (T.says.fact 19 (f := .glo "_law_round") rfl)
theorem Tx.g_lm (T : Tx K mg) : mg "_law_moved" = some (.ref (He.ga K "_law_moved")) := T.glo (T.says.fact 20 (f := .glo "_law_moved") rfl)
theorem Tx.g_la (T : Tx K mg) : mg "_law_made" = some (.ref (He.ga K "_law_made")) := T.glo (T.says.fact 21 (f := .glo "_law_made") rfl)
theorem Tx.g_lg (T : Tx K mg) : mg "_law_right" = some (.ref (He.ga K "_law_right")) := T.glo (T.says.fact 22 (f := .glo "_law_right") rfl)
theorem Tx.g_lw (T : Tx K mg) : mg "law" = some (.ref (He.ga K "law")) := T.glo (T.says.fact 23 (f := .glo "law") rfl)
theorem Tx.m_Bh (T : Tx K mg) : Meth K (He.ga K "Bridge") "hear" (He.fAd K ("Bridge", some "hear")) := He.meth_ok (T.says.fact 61 (f := .meth "Bridge" "hear") rfl)
theorem Tx.m_Bu (T : Tx K mg) : Meth K (He.ga K "Bridge") "up" (He.fAd K ("Bridge", some "up")) := He.meth_ok (T.says.fact 62 (f := .meth "Bridge" "up") rfl)
theorem Tx.m_Bd (T : Tx K mg) : Meth K (He.ga K "Bridge") "down" (He.fAd K ("Bridge", some "down")) := He.meth_ok (T.says.fact 63 (f := .meth "Bridge" "down") rfl)
theorem Tx.m_Bs (T : Tx K mg) : Meth K (He.ga K "Bridge") "stamp" (He.fAd K ("Bridge", some "stamp")) := He.meth_ok (T.says.fact 64 (f := .meth "Bridge" "stamp") rfl)
theorem Tx.m_Bg (T : Tx K mg) : Meth K (He.ga K "Bridge") "grow_older" (He.fAd K ("Bridge", some "grow_older")) := He.meth_ok (T.says.fact 65 (f := .meth "Bridge" "grow_older") rfl)
theorem Tx.m_Bl (T : Tx K mg) : Meth K (He.ga K "Bridge") "least_label" (He.fAd K ("Bridge", some "least_label")) := He.meth_ok (T.says.fact 66 (f := .meth "Bridge" "least_label") rfl)
theorem Tx.m_Bo (T : Tx K mg) : Meth K (He.ga K "Bridge") "letter_over" (He.fAd K ("Bridge", some "letter_over")) := He.meth_ok (T.says.fact 67 (f := .meth "Bridge" "letter_over") rfl)
theorem Tx.m_Bt (T : Tx K mg) : Meth K (He.ga K "Bridge") "tick" (He.fAd K ("Bridge", some "tick")) := He.meth_ok (T.says.fact 68 (f := .meth "Bridge" "tick") rfl)
theorem Tx.m_Be (T : Tx K mg) : Meth K (He.ga K "Bridge") "end" (He.fAd K ("Bridge", some "end")) := He.meth_ok (T.says.fact 69 (f := .meth "Bridge" "end") rfl)
theorem Tx.m_Yn (T : Tx K mg) : Meth K (He.ga K "Yard") "net" (He.fAd K ("Yard", some "net")) := He.meth_ok (T.says.fact 70 (f := .meth "Yard" "net") rfl)
theorem Tx.m_Yu (T : Tx K mg) : Meth K (He.ga K "Yard") "is_up" (He.fAd K ("Yard", some "is_up")) := He.meth_ok (T.says.fact 71 (f := .meth "Yard" "is_up") rfl)
theorem Tx.m_Yc (T : Tx K mg) : Meth K (He.ga K "Yard") "can" (He.fAd K ("Yard", some "can")) := He.meth_ok (T.says.fact 72 (f := .meth "Yard" "can") rfl)
theorem Tx.m_Yd (T : Tx K mg) : Meth K (He.ga K "Yard") "deed" (He.fAd K ("Yard", some "deed")) := He.meth_ok (T.says.fact 73 (f := .meth "Yard" "deed") rfl)
theorem Tx.m_Ya (T : Tx K mg) : Meth K (He.ga K "Yard") "across" (He.fAd K ("Yard", some "across")) := He.meth_ok (T.says.fact 74 (f := .meth "Yard" "across") rfl)
theorem Tx.m_Ym (T : Tx K mg) : Meth K (He.ga K "Yard") "come" (He.fAd K ("Yard", some "come")) := He.meth_ok (T.says.fact 75 (f := .meth "Yard" "come") rfl)
theorem Tx.m_Yt (T : Tx K mg) : Meth K (He.ga K "Yard") "turn_tie" (He.fAd K ("Yard", some "turn_tie")) := He.meth_ok (T.says.fact 76 (f := .meth "Yard" "turn_tie") rfl)
theorem Tx.m_Yo (T : Tx K mg) : Meth K (He.ga K "Yard") "open_ties" (He.fAd K ("Yard", some "open_ties")) := He.meth_ok (T.says.fact 77 (f := .meth "Yard" "open_ties") rfl)
theorem Tx.m_Yf (T : Tx K mg) : Meth K (He.ga K "Yard") "fall_bridge" (He.fAd K ("Yard", some "fall_bridge")) := He.meth_ok (T.says.fact 78 (f := .meth "Yard" "fall_bridge") rfl)
theorem Tx.m_Yb (T : Tx K mg) : Meth K (He.ga K "Yard") "back_bridge" (He.fAd K ("Yard", some "back_bridge")) := He.meth_ok (T.says.fact 79 (f := .meth "Yard" "back_bridge") rfl)
theorem Tx.m_Yr (T : Tx K mg) : Meth K (He.ga K "Yard") "road" (He.fAd K ("Yard", some "road")) := He.meth_ok (T.says.fact 80 (f := .meth "Yard" "road") rfl)
theorem Tx.m_Yw (T : Tx K mg) : Meth K (He.ga K "Yard") "down" (He.fAd K ("Yard", some "down")) := He.meth_ok (T.says.fact 81 (f := .meth "Yard" "down") rfl)
theorem Tx.m_Yg (T : Tx K mg) : Meth K (He.ga K "Yard") "bridge" (He.fAd K ("Yard", some "bridge")) := He.meth_ok (T.says.fact 82 (f := .meth "Yard" "bridge") rfl)
theorem Tx.m_Ye (T : Tx K mg) : Meth K (He.ga K "Yard") "ends" (He.fAd K ("Yard", some "ends")) := He.meth_ok (T.says.fact 83 (f := .meth "Yard" "ends") rfl)
theorem Tx.z_enumerate (T : Tx K mg) : mg "enumerate" = none := T.free (T.says.fact 24 (f := .free "enumerate") rfl)
theorem Tx.z_isinstance (T : Tx K mg) : mg "isinstance" = none := T.free (T.says.fact 25 (f := .free "isinstance") rfl)
theorem Tx.z_int (T : Tx K mg) : mg "int" = none := T.free (T.says.fact 26 (f := .free "int") rfl)
theorem Tx.z_bool (T : Tx K mg) : mg "bool" = none := T.free (T.says.fact 27 (f := .free "bool") rfl)
theorem Tx.z_str (T : Tx K mg) : mg "str" = none := T.free (T.says.fact 28 (f := .free "str") rfl)
theorem Tx.z_len (T : Tx K mg) : mg "len" = none := T.free (T.says.fact 29 (f := .free "len") rfl)
theorem Tx.z_list (T : Tx K mg) : mg "list" = none := T.free (T.says.fact 30 (f := .free "list") rfl)
theorem Tx.z_tuple (T : Tx K mg) : mg "tuple" = none := T.free (T.says.fact 31 (f := .free "tuple") rfl)
theorem Tx.z_sorted (T : Tx K mg) : mg "sorted" = none := T.free (T.says.fact 32 (f := .free "sorted") rfl)
theorem Tx.z_set (T : Tx K mg) : mg "set" = none := T.free (T.says.fact 33 (f := .free "set") rfl)
theorem Tx.z_range (T : Tx K mg) : mg "range" = none := T.free (T.says.fact 34 (f := .free "range") rfl)
theorem Tx.z_min (T : Tx K mg) : mg "min" = none := T.free (T.says.fact 35 (f := .free "min") rfl)
theorem Tx.z_max (T : Tx K mg) : mg "max" = none := T.free (T.says.fact 36 (f := .free "max") rfl)
theorem Tx.i_MOST_BRIDGES (T : Tx K mg) : ∃ t, mg "MOST_BRIDGES" = some (.int 10 t) := T.int (T.says.fact 37 (f := .int "MOST_BRIDGES" 10) rfl)
theorem Tx.i_MOST_TIES (T : Tx K mg) : ∃ t, mg "MOST_TIES" = some (.int 16 t) := T.int (T.says.fact 38 (f := .int "MOST_TIES" 16) rfl)
theorem Tx.i_MOST_NUMBER (T : Tx K mg) : ∃ t, mg "MOST_NUMBER" = some (.int 999 t) := T.int (T.says.fact 39 (f := .int "MOST_NUMBER" 999) rfl)
theorem Tx.i_MOST_COST (T : Tx K mg) : ∃ t, mg "MOST_COST" = some (.int 1000 t) := T.int (T.says.fact 40 (f := .int "MOST_COST" 1000) rfl)
theorem Tx.mgB (T : Tx K mg) : mg "Bridge" = some (.ref (He.ga K "Bridge")) := T.glo (T.says.fact 41 (f := .glo "Bridge") rfl)
theorem Tx.clB (T : Tx K mg) : Cls K (He.ga K "Bridge") := He.cls_ok (T.says.fact 42 (f := .cls "Bridge") rfl)
theorem Tx.mkB (T : Tx K mg) : Mk K (He.ga K "Bridge") (He.fAd K ("Bridge", some "__init__")) := He.mkr_ok (T.says.fact 43 (f := .mkr "Bridge") rfl)
theorem Tx.mgY (T : Tx K mg) : mg "Yard" = some (.ref (He.ga K "Yard")) := T.glo (T.says.fact 44 (f := .glo "Yard") rfl)
theorem Tx.clY (T : Tx K mg) : Cls K (He.ga K "Yard") := He.cls_ok (T.says.fact 45 (f := .cls "Yard") rfl)
theorem Tx.mkY (T : Tx K mg) : Mk K (He.ga K "Yard") (He.fAd K ("Yard", some "__init__")) := He.mkr_ok (T.says.fact 46 (f := .mkr "Yard") rfl)
theorem Tx.b_own (T : Tx K mg) : NoAttr K (He.ga K "Bridge") "own" := He.noat_ok (T.says.fact 47 (f := .noat "Bridge" "own") rfl)
theorem Tx.b_lived (T : Tx K mg) : NoAttr K (He.ga K "Bridge") "lived" := He.noat_ok (T.says.fact 48 (f := .noat "Bridge" "lived") rfl)
theorem Tx.b_most (T : Tx K mg) : NoAttr K (He.ga K "Bridge") "most" := He.noat_ok (T.says.fact 49 (f := .noat "Bridge" "most") rfl)
theorem Tx.b_tied (T : Tx K mg) : NoAttr K (He.ga K "Bridge") "tied" := He.noat_ok (T.says.fact 50 (f := .noat "Bridge" "tied") rfl)
theorem Tx.b_kept (T : Tx K mg) : NoAttr K (He.ga K "Bridge") "kept" := He.noat_ok (T.says.fact 51 (f := .noat "Bridge" "kept") rfl)
theorem Tx.b_shown (T : Tx K mg) : NoAttr K (He.ga K "Bridge") "shown" := He.noat_ok (T.says.fact 52 (f := .noat "Bridge" "shown") rfl)
theorem Tx.b_version (T : Tx K mg) : NoAttr K (He.ga K "Bridge") "version" := He.noat_ok (T.says.fact 53 (f := .noat "Bridge" "version") rfl)
theorem Tx.b_ticked (T : Tx K mg) : NoAttr K (He.ga K "Bridge") "ticked" := He.noat_ok (T.says.fact 54 (f := .noat "Bridge" "ticked") rfl)
theorem Tx.y_plan (T : Tx K mg) : NoAttr K (He.ga K "Yard") "plan" := He.noat_ok (T.says.fact 55 (f := .noat "Yard" "plan") rfl)
theorem Tx.y_oldest (T : Tx K mg) : NoAttr K (He.ga K "Yard") "oldest" := He.noat_ok (T.says.fact 56 (f := .noat "Yard" "oldest") rfl)
theorem Tx.y_lives (T : Tx K mg) : NoAttr K (He.ga K "Yard") "lives" := He.noat_ok (T.says.fact 57 (f := .noat "Yard" "lives") rfl)
theorem Tx.y_there (T : Tx K mg) : NoAttr K (He.ga K "Yard") "there" := He.noat_ok (T.says.fact 58 (f := .noat "Yard" "there") rfl)
theorem Tx.y_cut (T : Tx K mg) : NoAttr K (He.ga K "Yard") "cut" := He.noat_ok (T.says.fact 59 (f := .noat "Yard" "cut") rfl)
theorem Tx.y_letters (T : Tx K mg) : NoAttr K (He.ga K "Yard") "letters" := He.noat_ok (T.says.fact 60 (f := .noat "Yard" "letters") rfl)
theorem Tx.f_ow (T : Tx K mg) : ∃ fd, FnP K "open_ways" "open_ways" s_ow (He.fAd K ("open_ways", none)) fd := T.says.def_ 0 (d := d_ow) rfl
theorem Tx.f_ot (T : Tx K mg) : ∃ fd, FnP K "open_ties" "open_ties" s_ot (He.fAd K ("open_ties", none)) fd := T.says.def_ 1 (d := d_ot) rfl
theorem Tx.f_nu (T : Tx K mg) : ∃ fd, FnP K "need_up" "need_up" s_nu (He.fAd K ("need_up", none)) fd := T.says.def_ 2 (d := d_nu) rfl
theorem Tx.f_ca (T : Tx K mg) : ∃ fd, FnP K "carried" "carried" s_ca (He.fAd K ("carried", none)) fd := T.says.def_ 3 (d := d_ca) rfl
theorem Tx.f_po (T : Tx K mg) : ∃ fd, FnP K "part_of" "part_of" s_po (He.fAd K ("part_of", none)) fd := T.says.def_ 4 (d := d_po) rfl
theorem Tx.f_iw (T : Tx K mg) : ∃ fd, FnP K "is_within" "is_within" s_iw (He.fAd K ("is_within", none)) fd := T.says.def_ 5 (d := d_iw) rfl
theorem Tx.f_nb (T : Tx K mg) : ∃ fd, FnP K "need_bridges" "need_bridges" s_nb (He.fAd K ("need_bridges", none)) fd := T.says.def_ 6 (d := d_nb) rfl
theorem Tx.f_tf (T : Tx K mg) : ∃ fd, FnP K "tie_of" "tie_of" s_tf (He.fAd K ("tie_of", none)) fd := T.says.def_ 7 (d := d_tf) rfl
theorem Tx.f_mn (T : Tx K mg) : ∃ fd, FnP K "make_net" "make_net" s_mn (He.fAd K ("make_net", none)) fd := T.says.def_ 8 (d := d_mn) rfl
theorem Tx.f_ne (T : Tx K mg) : ∃ fd, FnP K "neighbours" "neighbours" s_ne (He.fAd K ("neighbours", none)) fd := T.says.def_ 9 (d := d_ne) rfl
theorem Tx.f_nw (T : Tx K mg) : ∃ fd, FnP K "newer" "newer" s_nw (He.fAd K ("newer", none)) fd := T.says.def_ 10 (d := d_nw) rfl
theorem Tx.f_ic (T : Tx K mg) : ∃ fd, FnP K "is_count" "is_count" s_ic (He.fAd K ("is_count", none)) fd := T.says.def_ 11 (d := d_ic) rfl
theorem Tx.f_sh (T : Tx K mg) : ∃ fd, FnP K "is_shaped" "is_shaped" s_sh (He.fAd K ("is_shaped", none)) fd := T.says.def_ 12 (d := d_sh) rfl
theorem Tx.f_lc (T : Tx K mg) : ∃ fd, FnP K "_law_cell_at" "_law_cell_at" s_lc (He.fAd K ("_law_cell_at", none)) fd := T.says.def_ 13 (d := d_lc) rfl
theorem Tx.f_lr (T : Tx K mg) : ∃ fd, FnP K "_law_row" "_law_row" s_lr (He.fAd K ("_law_row", none)) fd := T.says.def_ 14 (d := d_lr) rfl
theorem Tx.f_lt (T : Tx K mg) : ∃ fd, FnP K "_law_take" "_law_take" s_lt (He.fAd K ("_law_take", none)) fd := T.says.def_ 15 (d := d_lt) rfl
theorem Tx.f_ln (T : Tx K mg) : ∃ fd, FnP K "_law_net" "_law_net" s_ln (He.fAd K ("_law_net", none)) fd := T.says.def_ 16 (d := d_ln) rfl
theorem Tx.f_lu (T : Tx K mg) : ∃ fd, FnP K "_law_turned" "_law_turned" s_lu (He.fAd K ("_law_turned", none)) fd := T.says.def_ 17 (d := d_lu) rfl
theorem Tx.f_ld (T : Tx K mg) : ∃ fd, FnP K "_law_drawn" "_law_drawn" s_ld (He.fAd K ("_law_drawn", none)) fd := T.says.def_ 18 (d := d_ld) rfl
theorem Tx.f_lq (T : Tx K mg) : ∃ fd, FnP K "_law_round" "_law_round" s_lq (He.fAd K ("_law_round", none)) fd := T.says.def_ 19 (d := d_lq) rfl
theorem Tx.f_lm (T : Tx K mg) : ∃ fd, FnP K "_law_moved" "_law_moved" s_lm (He.fAd K ("_law_moved", none)) fd := T.says.def_ 20 (d := d_lm) rfl
theorem Tx.f_la (T : Tx K mg) : ∃ fd, FnP K "_law_made" "_law_made" s_la (He.fAd K ("_law_made", none)) fd := T.says.def_ 21 (d := d_la) rfl
theorem Tx.f_lg (T : Tx K mg) : ∃ fd, FnP K "_law_right" "_law_right" s_lg (He.fAd K ("_law_right", none)) fd := T.says.def_ 22 (d := d_lg) rfl
theorem Tx.f_lw (T : Tx K mg) : ∃ fd, FnP K "law" "law" s_lw (He.fAd K ("law", none)) fd := T.says.def_ 23 (d := d_lw) rfl
theorem Tx.f_Bi (T : Tx K mg) : ∃ fd, FnP K "__init__" "Bridge.__init__" s_Bi (He.fAd K ("Bridge", some "__init__")) fd := T.says.def_ 24 (d := d_Bi) rfl
theorem Tx.f_Bh (T : Tx K mg) : ∃ fd, FnP K "hear" "Bridge.hear" s_Bh (He.fAd K ("Bridge", some "hear")) fd := T.says.def_ 25 (d := d_Bh) rfl
theorem Tx.f_Bu (T : Tx K mg) : ∃ fd, FnP K "up" "Bridge.up" s_Bu (He.fAd K ("Bridge", some "up")) fd := T.says.def_ 26 (d := d_Bu) rfl
theorem Tx.f_Bd (T : Tx K mg) : ∃ fd, FnP K "down" "Bridge.down" s_Bd (He.fAd K ("Bridge", some "down")) fd := T.says.def_ 27 (d := d_Bd) rfl
theorem Tx.f_Bs (T : Tx K mg) : ∃ fd, FnP K "stamp" "Bridge.stamp" s_Bs (He.fAd K ("Bridge", some "stamp")) fd := T.says.def_ 28 (d := d_Bs) rfl
theorem Tx.f_Bg (T : Tx K mg) : ∃ fd, FnP K "grow_older" "Bridge.grow_older" s_Bg (He.fAd K ("Bridge", some "grow_older")) fd := T.says.def_ 29 (d := d_Bg) rfl
theorem Tx.f_Bl (T : Tx K mg) : ∃ fd, FnP K "least_label" "Bridge.least_label" s_Bl (He.fAd K ("Bridge", some "least_label")) fd := T.says.def_ 30 (d := d_Bl) rfl
theorem Tx.f_Bo (T : Tx K mg) : ∃ fd, FnP K "letter_over" "Bridge.letter_over" s_Bo (He.fAd K ("Bridge", some "letter_over")) fd := T.says.def_ 31 (d := d_Bo) rfl
theorem Tx.f_Bt (T : Tx K mg) : ∃ fd, FnP K "tick" "Bridge.tick" s_Bt (He.fAd K ("Bridge", some "tick")) fd := T.says.def_ 32 (d := d_Bt) rfl
theorem Tx.f_Be (T : Tx K mg) : ∃ fd, FnP K "end" "Bridge.end" s_Be (He.fAd K ("Bridge", some "end")) fd := T.says.def_ 33 (d := d_Be) rfl
theorem Tx.f_Yi (T : Tx K mg) : ∃ fd, FnP K "__init__" "Yard.__init__" s_Yi (He.fAd K ("Yard", some "__init__")) fd := T.says.def_ 34 (d := d_Yi) rfl
theorem Tx.f_Yn (T : Tx K mg) : ∃ fd, FnP K "net" "Yard.net" s_Yn (He.fAd K ("Yard", some "net")) fd := T.says.def_ 35 (d := d_Yn) rfl
theorem Tx.f_Yu (T : Tx K mg) : ∃ fd, FnP K "is_up" "Yard.is_up" s_Yu (He.fAd K ("Yard", some "is_up")) fd := T.says.def_ 36 (d := d_Yu) rfl
theorem Tx.f_Yc (T : Tx K mg) : ∃ fd, FnP K "can" "Yard.can" s_Yc (He.fAd K ("Yard", some "can")) fd := T.says.def_ 37 (d := d_Yc) rfl
theorem Tx.f_Yd (T : Tx K mg) : ∃ fd, FnP K "deed" "Yard.deed" s_Yd (He.fAd K ("Yard", some "deed")) fd := T.says.def_ 38 (d := d_Yd) rfl
theorem Tx.f_Ya (T : Tx K mg) : ∃ fd, FnP K "across" "Yard.across" s_Ya (He.fAd K ("Yard", some "across")) fd := T.says.def_ 39 (d := d_Ya) rfl
theorem Tx.f_Ym (T : Tx K mg) : ∃ fd, FnP K "come" "Yard.come" s_Ym (He.fAd K ("Yard", some "come")) fd := T.says.def_ 40 (d := d_Ym) rfl
theorem Tx.f_Yt (T : Tx K mg) : ∃ fd, FnP K "turn_tie" "Yard.turn_tie" s_Yt (He.fAd K ("Yard", some "turn_tie")) fd := T.says.def_ 41 (d := d_Yt) rfl
theorem Tx.f_Yo (T : Tx K mg) : ∃ fd, FnP K "open_ties" "Yard.open_ties" s_Yo (He.fAd K ("Yard", some "open_ties")) fd := T.says.def_ 42 (d := d_Yo) rfl
theorem Tx.f_Yf (T : Tx K mg) : ∃ fd, FnP K "fall_bridge" "Yard.fall_bridge" s_Yf (He.fAd K ("Yard", some "fall_bridge")) fd := T.says.def_ 43 (d := d_Yf) rfl
theorem Tx.f_Yb (T : Tx K mg) : ∃ fd, FnP K "back_bridge" "Yard.back_bridge" s_Yb (He.fAd K ("Yard", some "back_bridge")) fd := T.says.def_ 44 (d := d_Yb) rfl
theorem Tx.f_Yr (T : Tx K mg) : ∃ fd, FnP K "road" "Yard.road" s_Yr (He.fAd K ("Yard", some "road")) fd := T.says.def_ 45 (d := d_Yr) rfl
theorem Tx.f_Yw (T : Tx K mg) : ∃ fd, FnP K "down" "Yard.down" s_Yw (He.fAd K ("Yard", some "down")) fd := T.says.def_ 46 (d := d_Yw) rfl
theorem Tx.f_Yg (T : Tx K mg) : ∃ fd, FnP K "bridge" "Yard.bridge" s_Yg (He.fAd K ("Yard", some "bridge")) fd := T.says.def_ 47 (d := d_Yg) rfl
theorem Tx.f_Ye (T : Tx K mg) : ∃ fd, FnP K "ends" "Yard.ends" s_Ye (He.fAd K ("Yard", some "ends")) fd := T.says.def_ 48 (d := d_Ye) rfl
end
/-! the law's place: 42; the other names of the top: 35 -/
def lawAt : Nat := 42
def others0 : List Str := ["_wall", "ShutError", "NoNet", "NoDeed", "NoFrame", "open_ways", "open_ties", "need_up", "carried", "part_of", "is_within", "need_bridges", "tie_of", "make_net", "neighbours", "newer", "Bridge", "is_count", "is_shaped", "Yard"]
def others1 : List Str := ["_law_cell_at", "_law_row", "_law_take", "_law_net", "_law_turned", "_law_drawn", "_law_round", "_law_moved", "_law_made", "_law_right", "__name__", "MOST_BRIDGES", "MOST_TIES", "MOST_NUMBER", "MOST_COST"]
def others : List Str := others0 ++ others1

/-! ### a def that keeps its promise, as a caller wants it -/
structure Cal (P : Program) (w : World) (K : PySem.W.Frag) (mg : Str → Option Value) (base : Heap) (k : Nat) (f : Addr) (ps : List Str) (sp : Sp) : Prop where
  ex : ∃ fd, FnOk P w K mg base CX0 k f fd ps sp ∧ Binds K fd ps []
  kp : PySem.W.keepIn K (.ref f) = true
section
variable {P : Program} {w : World} {K : PySem.W.Frag} {mg : Str → Option Value} {base : Heap}
theorem Cal.mk2 {x qual : Str} {st : Stmt} {f : Addr} {fd : FuncData} {N ps : List Str} {k : Nat} {sp : Sp} (F : FnP K x qual st f fd) (S : FnScope N ps (defScope st))
    (hb : ∀ (kV doc pm : Value) (an : Option Addr) (cdv ct : Value) (us : List Value), us.length = ps.length → bindArgs (PySem.W.fnOf x qual (defArgs st) (defBody st) (defScope st) .none kV doc pm an cdv ct) ⟨us, []⟩ = pure (ps.zip us))
    (len : ∀ vs H Q E, sp vs H Q E → vs.length = ps.length)
    (hbody : ∀ (cdv : Value) (A : Around) (outer : List Env) (s : Shared) (H : Hp) (vs : List V) (Q : VK) (E : XK), Room k (A.deeper (envOfC qual (defScope st) s.heap.objs.size f cdv)) → sp vs H Q E →
      ∃ t, PSs (cxOf CX0 P w K mg base N qual (defScope st) f cdv A outer s H E).nox (defBody st) t ∧ t { nx := fun _ H' => Q .non H', rt := Q } (start N vs) H) : Cal P w K mg base (k + 1) f ps sp :=
  ⟨⟨fd, FunD.ok F S len (fun cdv A outer s H vs Q E hr h => by
    obtain ⟨t, h1, h2⟩ := hbody cdv A outer s H vs Q E hr h
    exact ⟨t, PSs.nox h1, h2⟩), FunD.bindsN F hb⟩, F.kp⟩
theorem Cal.mono {f : Addr} {ps : List Str} {j k : Nat} {sp : Sp} (c : Cal P w K mg base j f ps sp) (h : j ≤ k) : Cal P w K mg base k f ps sp := by
  obtain ⟨⟨fd, F, b⟩, kp⟩ := c
  exact ⟨⟨fd, F.mono h, b⟩, kp⟩
end
section
variable {X : Cx} {k : Nat} {f C : Addr} {ps : List Str} {sp : Sp} {x m : Str} {p pos apos : Pos} {e o : Expr} {es : List Expr} {ta : TE} {t : TA}
theorem pc_call (c : Cal X.prog X.w X.K X.mg X.base k f ps sp) (hr : Room k X.A) (hg : Gl X x) (hm : X.mg x = some (.ref f)) (ha : PA X (e :: es) t) (hdb : (x == ("__debug__" : Str)) = false := by decide)
    (he : starEach (e :: es) X.env = (false, eval e X.env) :: starEach es X.env := by rfl) (hpl : (backTo pos (starEach es X.env)).any (·.1) = false := by rfl) : PE X (.Call (.Name x p) (e :: es) [] pos) (tCall sp [] E0 t) := by
  obtain ⟨⟨fd, F, b⟩, kp⟩ := c
  exact pe_call F hr hg hm kp b .nil pass0 ha hdb he hpl
theorem pc_meth {pl : Sem Bool} (he : PE X o ta) (cl : Cls X.K C) (hm : Meth X.K C m f) (c : Cal X.prog X.w X.K X.mg X.base k f ps sp) (hr : Room k X.A) (ha : PA X (e :: es) t)
    (hst : starEach (e :: es) X.env = (false, eval e X.env) :: starEach es X.env := by rfl) (hpl : (backTo pos (starEach es X.env)).any (·.1) = false := by rfl)
    (ht : eval (.Call (.Attribute o m apos) (e :: es) [] pos) X.env = (do
      let ov ← eval o X.env
      standAt apos.atName
      let (f, first) ← holding [ov] (getMethod ov m pl)
      callWith pos f first (backTo pos (starEach (e :: es) X.env)) (backToKw pos (keywordEach [] X.env))) := by rfl) : PE X (.Call (.Attribute o m apos) (e :: es) [] pos) (tMeth C m sp [] E0 ta t) := by
  obtain ⟨⟨fd, F, b⟩, kp⟩ := c
  exact pe_meth he cl hm F hr b .nil pass0 ha hst hpl ht
theorem pc_meth0 {pl : Sem Bool} (he : PE X o ta) (cl : Cls X.K C) (hm : Meth X.K C m f) (c : Cal X.prog X.w X.K X.mg X.base k f ps sp) (hr : Room k X.A)
    (ht : eval (.Call (.Attribute o m apos) [] [] pos) X.env = (do
      let ov ← eval o X.env
      standAt apos.atName
      let (f, first) ← holding [ov] (getMethod ov m pl)
      callWith pos f first (backTo pos (starEach [] X.env)) (backToKw pos (keywordEach [] X.env))) := by rfl) : PE X (.Call (.Attribute o m apos) [] [] pos) (tMeth C m sp [] E0 ta tNil) := by
  obtain ⟨⟨fd, F, b⟩, kp⟩ := c
  exact pe_meth0 he cl hm F hr b .nil pass0 ht
theorem pc_make (M : Mk X.K C f) (c : Cal X.prog X.w X.K X.mg X.base k f ps sp) (hr : Room (k + 1) X.A) (hg : Gl X x) (hm : X.mg x = some (.ref C)) (ha : PA X (e :: es) t) (hdb : (x == ("__debug__" : Str)) = false := by decide)
    (he : starEach (e :: es) X.env = (false, eval e X.env) :: starEach es X.env := by rfl) (hpl : (backTo pos (starEach es X.env)).any (·.1) = false := by rfl) : PE X (.Call (.Name x p) (e :: es) [] pos) (tMake C sp [] E0 t) := by
  obtain ⟨⟨fd, F, b⟩, kp⟩ := c
  exact pe_make M F hr hg hm b .nil pass0 ha hdb he hpl
end
end Sw

set_option Elab.async false
set_option linter.all false
set_option maxRecDepth 100000
set_option maxHeartbeats 0
/-! Sw: the top's run, by one look of the kernel. -/
namespace Sw
open PySem PySem.Spec PyProof.Rows L2
abbrev Rw : PySem.W.OpenRow := PySem.W.OpenLaw.row PySem.Challenge.rw_shutways_k52_whole_parts
abbrev hk : PySem.W.Hook := He.hookD 5 fa fn
def ob (s : PySem.W.SharedT) : He.AlD := He.obsDG 5 fa fn (HandSHeadRun.getT s)
theorem ob_eq (s : PySem.W.SharedT) : ob s = hk.obs s.abs := He.obsDG_eq (HandSHeadRun.getT_eq s)
theorem run (w : World) : HandSHeadRun.RunEq Rw (PySem.W.view Rw.prog [lawAt]) hk ob 4000 others w := by
  intro os
  kernel_rfl
end Sw

set_option Elab.async false
set_option linter.all false
set_option maxRecDepth 100000
set_option maxHeartbeats 4000000
/-! Sw: rules that the hand layer lacks: enumerate of a tuple, set of a list of ints, a list's slice by a step of one or minus one, > of tuples, min and max of a tuple of ints. -/
namespace Sw
open PySem PySem.Spec PyProof.Rows L2

/-! ### enumerate(t), t a tuple -/
/-- the tuple at a, each item in a new pair -/
def ItE (K : PySem.W.Frag) (a : Addr) : It :=
  ⟨fun i H => ∃ xs x, SqT K H a xs ∧ xs[i]? = some x,
   fun i H v H' => ∃ T x, v = .ref T ∧ H T = none ∧ H' = upd H T (.tup [.int (i : Nat), x]) ∧ ∀ xs, SqT K H a xs → xs[i]? = some x,
   fun i H => ∃ xs, SqT K H a xs ∧ xs.length = i⟩
abbrev tnE (a e it : Addr) : Nat → Heap → Prop := fun i h => (∃ old, IsEnum h e it ((i : Nat) : Int) old) ∧ h.IsTupleIter it a i ∧ e ≠ it ∧ a ≠ it ∧ a ≠ e
theorem turn_enumT {P : Program} {w : World} {K : PySem.W.Frag} {elts : List Expr} {kk : Nat} {tpos : Pos} (a e it : Addr) : Turn P w K (.Tuple elts kk tpos) (ItE K a) [e, it] e (tnE a e it) where
  mem := List.mem_cons_self
  obj := fun i h st b hb => by
    obtain ⟨⟨old, he⟩, ⟨o, ho, hc, hd⟩, _⟩ := st
    rcases List.mem_cons.mp hb with z | hb
    · subst z; exact ⟨_, he, fun v q => nomatch q⟩
    · have z := List.mem_singleton.mp hb
      subst z; exact ⟨o, ho, fun v q => by rw [hd] at q; cases q⟩
  keep := fun i h h' st k => by
    obtain ⟨⟨old, he⟩, hi, hne⟩ := st
    exact ⟨⟨old, k e List.mem_cons_self _ he⟩, hi.at fun o q => k it (List.mem_cons_of_mem _ List.mem_cons_self) o q, hne⟩
  item := by
    intro X hP hw hK hc i pins s σ H E I hf st hg
    subst hP hw hK
    obtain ⟨⟨old, he⟩, hit, hne, hai, hae⟩ := st
    obtain ⟨xs, x, hq, hx⟩ := hg
    obtain ⟨its, rv, p, hz⟩ := I.tuple hq
    have hlt : i < its.toArray.size := by
      have h1 := (List.getElem?_eq_some_iff.mp hx).1
      have h2 := rv.length
      simp only [List.size_toArray]
      omega
    have hel : e < s.heap.objs.size := Heap.lt_size he
    have hal : a < s.heap.objs.size := p.lt
    have hil : it < s.heap.objs.size := by obtain ⟨_, q, _⟩ := hit; exact Heap.lt_size q
    have hA : X.A.in1.handled = none := I.ok.hd hc
    have D : Draws X.prog X.w X.A.in1 it [it, a] its.toArray.size (fun j v => its.toArray[j]? = some v) (fun j h => h.IsTupleIter it a j ∧ h.IsTuple a its.toArray) := Draws.tuple hA it a hai its.toArray
    refine PySem.wpAny_pyNext_enum_itemC (n := its.toArray.size) D he ⟨hit, p⟩ hlt hne ?_ fun u h' tk hP ho hst hT hsz hk => ?_
    · intro hm
      rcases List.mem_cons.mp hm with z | hm
      · exact hne z
      · exact hae (List.mem_singleton.mp hm).symm
    · refine ⟨_, rfl, wpAny_letOwnedTupleGo_enum (s := { s with heap := h', toks := tk + 1 }) ho fun h2 he2 sb => ?_⟩
      obtain ⟨u2, hu2, ru⟩ := rv.get hx
      have eu : u = u2 := by
        have h1 : its[i]? = some u := by simpa using hP
        rw [hu2] at h1
        exact (Option.some.inj h1).symm
      subst eu
      have hT2 : h2.get? s.heap.objs.size = some { cls := .type "tuple", data := .seq #[.int i tk, u] } := (sb.2 _ (Nat.ne_of_gt hel)).trans hT
      have new : ObjOk X.prog X.w (upd H s.heap.objs.size (.tup [.int (i : Nat), x])) h2 s.heap.objs.size (.tup [.int (i : Nat), x]) :=
        ⟨by show 2 ≤ sizeLine; decide, [.int i tk, u], .cons ⟨_, rfl⟩ (.cons ru .nil), ⟨_, hT2, rfl, _, rfl⟩⟩
      have kk : ∀ b o, b ∉ [e, it] → s.heap.get? b = some o → h2.get? b = some o := fun b o hb q => by
        have hbe : b ≠ e := fun z => hb (by rw [z]; exact List.mem_cons_self)
        have hbi : b ≠ it := fun z => hb (by rw [z]; exact List.mem_cons_of_mem _ List.mem_cons_self)
        exact (sb.2 b hbe).trans (hk b o hbe hbi q)
      have I1 := I.turnedNew (t' := tk + 1) (ch := [e, it]) kk hf (Nat.le_refl _) new
      refine ⟨.ref s.heap.objs.size, _, I1, rfl, ⟨_, x, rfl, I.hok.fresh (Nat.le_refl _), rfl, fun ys hy => by rw [I.tuple_inj hy hq]; exact hx⟩, ⟨⟨u, ?_⟩, hst.1.at fun o q => (sb.2 it (Ne.symm hne)).trans q, hne, hai, hae⟩, fun b hb => ?_⟩
      · have e1 : ((i + 1 : Nat) : Int) = (i : Int) + 1 := by omega
        rw [e1]; exact he2
      · have hb2 : b < s.heap.objs.size := by
          rcases List.mem_cons.mp hb with z | hb
          · rw [z]; exact hel
          · rw [List.mem_singleton.mp hb]; exact hil
        rw [upd_ne (Nat.ne_of_lt hb2)]
        exact (hf b hb).1
  done := by
    intro X hP hw hK hc i pins s σ H E I hf st hg
    subst hP hw hK
    obtain ⟨⟨old, he⟩, hit, hne, hai, hae⟩ := st
    obtain ⟨xs, hq, hx⟩ := hg
    obtain ⟨its, rv, p, hz⟩ := I.tuple hq
    obtain ⟨f0, f1, f2, f3, f4, f5⟩ := hf it (List.mem_cons_of_mem _ List.mem_cons_self)
    have en : its.toArray.size = i := by
      have h2 := rv.length
      simp only [List.size_toArray]
      omega
    have hA : X.A.in1.handled = none := I.ok.hd hc
    have D : Draws X.prog X.w X.A.in1 it [it, a] its.toArray.size (fun j v => its.toArray[j]? = some v) (fun j h => h.IsTupleIter it a j ∧ h.IsTuple a its.toArray) := Draws.tuple hA it a hai its.toArray
    refine PySem.wpAny_pyNext_enum_endD D he (by rw [en]; exact ⟨hit, p⟩) fun h' eb => ⟨rfl, ?_⟩
    exact I.turned (t' := s.toks) (fun b o hb q => eb b o hb q) f0 f1 f3 f4 f5
  self := fun A i s Q E st h => by
    obtain ⟨⟨_, he⟩, _⟩ := st
    exact wpAny_pyIter_enum he h
theorem enum_new_tup (t : Addr) (items : Array Value) (n : Nat) (dd : Option Addr) (sl : Array (Option Value)) :
    Meets (Builtin.«enumerate.__new__» ⟨[.type "enumerate", .ref t], []⟩) (fun _ R s => s.heap.get? t = some { cls := .type "tuple", dict := dd, data := .seq items n, slots := sl } ∧
      R (.ok (.ret (.ref (s.heap.push { cls := .type "tuple_iterator", data := .fields #[.ref t, .int 0 0] }).objs.size)))
        { s with heap := (s.heap.push { cls := .type "tuple_iterator", data := .fields #[.ref t, .int 0 0] }).push { cls := .type "enumerate", data := .fields #[.none, .bool false, .ref s.heap.objs.size, rawInt 0, .none, .none] } }) :=
  .of_wp fun prog w A R s h => by
    obtain ⟨hp, g, d, tk, os⟩ := s
    obtain ⟨ht, h⟩ := h
    have sub0 := sub_enumerate
    have isT : Heap.IsTuple (Shared.heap ⟨hp, g, d, tk, os⟩) t items := ⟨_, ht, rfl, n, rfl⟩
    wp_walk using AutoSeq1.wpAny_loadPart' ht
    refine wpAny_stack_any fun st => wpAny_pure ?_
    split
    · rename_i c _ _ _ _ _
      cases (c == Value.type "enumerate")
      all_goals
        wp_walk using AutoSeq1.wpAny_loadPart' ht, wpAny_pyIter_tuple isT
        exact ⟨_, rfl, h⟩
    · wp_walk using AutoSeq1.wpAny_loadPart' ht, wpAny_pyIter_tuple isT
      exact ⟨_, rfl, h⟩
theorem call_enum_tup {prog : Program} {w : World} {A : Around} {E : Value → Shared → Prop} {s : Shared} {t : Addr} {items : Array Value} {Q : Value → Shared → Prop} (isT : s.heap.IsTuple t items)
    (h : ∀ h', IsEnum h' (s.heap.objs.size + 1) s.heap.objs.size 0 .none → h'.IsTupleIter s.heap.objs.size t 0 → (∀ b o, s.heap.get? b = some o → h'.get? b = some o) → Q (.ref (s.heap.objs.size + 1)) { s with heap := h' }) :
    wpAny (model prog w) A (call (.type "enumerate") [.ref t]) Q E s := by
  obtain ⟨⟨c, dd, dt, sl⟩, ht, hc, n, hd⟩ := isT
  have hc' : c = .type "tuple" := hc
  have hd' : dt = .seq items n := hd
  subst hc' hd'
  refine callType_new F.called_enumerate (by decide) (F.typeCall_enumerate_1 _) (F.newCall_enumerate_1 _) (fun obj => F.args_object_init_2 obj _) F.entry_enumerate_new (enum_new_tup t items n dd sl) ⟨ht, ?_⟩
  have sz : (s.heap.push { cls := .type "tuple_iterator", data := .fields #[.ref t, .int 0 0] }).objs.size = s.heap.objs.size + 1 := Heap.size_push ..
  show _ ∧ _
  rw [sz]
  have he : IsEnum ((s.heap.push { cls := .type "tuple_iterator", data := .fields #[.ref t, .int 0 0] }).push { cls := .type "enumerate", data := .fields #[.none, .bool false, .ref s.heap.objs.size, rawInt 0, .none, .none] }) (s.heap.objs.size + 1) s.heap.objs.size 0 .none := by
    have g := Heap.get?_push_size (s.heap.push { cls := .type "tuple_iterator", data := .fields #[.ref t, .int 0 0] }) (o := { cls := .type "enumerate", data := .fields #[.none, .bool false, .ref s.heap.objs.size, rawInt 0, .none, .none] }) rfl
    rw [sz] at g
    exact g
  exact ⟨⟨_, he, rfl⟩, h _ he ⟨_, Heap.get?_push_of_some _ (Heap.get?_push_size _ rfl), rfl, rfl⟩ fun b o x => Heap.get?_push_of_some _ (Heap.get?_push_of_some _ x)⟩
def iEnumT (K : PySem.W.Frag) (ta : TA) : TI := fun σ H R => ta σ H fun vs H1 => ∃ a xs, vs = [.ref a] ∧ SqT K H1 a xs ∧ R (ItE K a) H1
theorem pi_enumT {X : Cx} {e : Expr} {ta : TA} {p pos tpos : Pos} {elts : List Expr} {kk : Nat} (hg : Gl X "enumerate") (hm : X.mg "enumerate" = none) (ha : PA X [e] ta) (hs : starEach [e] X.env = [(false, eval e X.env)] := by rfl) :
    PI X (.Tuple elts kk tpos) (.Call (.Name "enumerate" p) [e] [] pos) (iEnumT X.K ta) := by
  refine ⟨fun pins s σ H R I h => ?_⟩
  refine Call_ (ld_blt I hg hm boot_enumerate (PyProof.Rows.callWith_type1 (thn (ha.run pos pins s σ H _ I h) fun us s1 ⟨vs, H1, I1, r1, q1⟩ => ?_) hs rfl))
  obtain ⟨a, xs, ex, hq, q⟩ := q1
  subst ex
  rw [Vals.ref1 r1]
  obtain ⟨its, rv, p2, hz⟩ := I1.tuple hq
  have hal : a < s1.heap.objs.size := p2.lt
  refine call_enum_tup (show s1.heap.IsTuple a its.toArray from p2) fun h' he hit hk => wpAny_pyIter_enum he ?_
  have I2 : Inv X pins σ H1 { s1 with heap := h' } := I1.kept (t' := s1.toks) hk
  refine ⟨s1.heap.objs.size + 1, [s1.heap.objs.size + 1, s1.heap.objs.size], _, _, H1, rfl, I2, turn_enumT a (s1.heap.objs.size + 1) s1.heap.objs.size, ⟨⟨.none, he⟩, hit, Nat.succ_ne_self _, Nat.ne_of_lt hal, Nat.ne_of_lt (Nat.lt_succ_of_lt hal)⟩, fun b hb => ?_, q⟩
  have hle : s1.heap.objs.size ≤ b := by
    rcases List.mem_cons.mp hb with z | hb
    · rw [z]; exact Nat.le_succ _
    · rw [List.mem_singleton.mp hb]; exact Nat.le_refl _
  exact I1.fpOk hle (I1.hok.fresh hle)
/-- a loop over enumerate of a tuple that stands still -/
theorem for_enumT {K : PySem.W.Frag} {a : Addr} {xs : List V} {g : TG} {tb : TS} {D : Ends} {σ : L2.St} {H : Hp} (Pv : Nat → L2.St → Hp → Prop) (h0 : Pv 0 σ H) (hl : ∀ i σ H, i ≤ xs.length → Pv i σ H → SqT K H a xs)
    (hs : ∀ i x σ H T, xs[i]? = some x → Pv i σ H → H T = none → g (.ref T) σ (upd H T (.tup [.int (i : Nat), x])) fun σ2 H2 => tb { D with nx := Pv (i + 1), ct := Pv (i + 1), bk := D.nx } σ2 H2) (hd : ∀ σ H, Pv xs.length σ H → D.nx σ H) :
    ∃ W : Nat → Nat → L2.St → Hp → Prop, (∃ m, W 0 m σ H) ∧ ∀ i m σ H, W i m σ H →
      ((ItE K a).stop i H ∧ D.nx σ H) ∨ ((ItE K a).go i H ∧ ∃ N : L2.St → Hp → Prop, (∀ σ' H', N σ' H' → ∃ m', m' < m ∧ W (i + 1) m' σ' H') ∧ ∀ x H', (ItE K a).yld i H x H' → g x σ H' fun σ2 H2 => tb { D with nx := N, ct := N, bk := D.nx } σ2 H2) := by
  refine ⟨fun i m σ H => m = xs.length - i ∧ i ≤ xs.length ∧ Pv i σ H, ⟨xs.length, by simp, Nat.zero_le _, h0⟩, fun i m σ H hW => ?_⟩
  obtain ⟨rfl, hi, hp⟩ := hW
  have hq := hl i σ H hi hp
  by_cases hlt : i < xs.length
  · refine .inr ⟨⟨xs, xs[i], hq, List.getElem?_eq_getElem hlt⟩, Pv (i + 1), fun σ' H' p' => ⟨xs.length - (i + 1), by omega, rfl, hlt, p'⟩, fun v H' y => ?_⟩
    obtain ⟨T, x, rfl, hT, rfl, hx⟩ := y
    exact hs i x σ H T (hx xs hq) hp hT
  · have e : i = xs.length := by omega
    subst e
    exact .inl ⟨⟨xs, hq, rfl⟩, hd σ H hp⟩
/-! ### xs[::e], e one or minus one -/
def kStep (K : PySem.W.Frag) (x : V) (Q : VK) : Option Int → Hp → Prop := fun o H => ∃ a xs, x = .ref a ∧ SqL K H a xs ∧ (o = some 1 ∨ o = some (-1)) ∧ ∀ p ys, H p = none → (ys = xs ∨ ys = xs.reverse) → Q (.ref p) (upd H p (.lst ys))
def tStep (K : PySem.W.Frag) (te ts : TE) : TE := fun σ H Q => te σ H fun x H1 => tPart ts σ H1 (kStep K x Q)
theorem pick_one (its : List Value) : slicePick its.toArray none none (some 1) = its.toArray := by
  have e : slicePick its.toArray none none (some 1) = slicePick its.toArray none none none := rfl
  rw [e, slicePick_cut]
  show (List.take (its.length - 0) (List.drop 0 its)).toArray = its.toArray
  rw [List.drop_zero, Nat.sub_zero, List.take_length]
theorem pe_step {X : Cx} {e st : Expr} {te ts : TE} {p3 pos : Pos} (he : PE X e te) (hst : PE X st ts) :
    PE X (.Subscript e (.Slice none none (some st) p3) pos) (tStep X.K te ts) := by
  refine ⟨fun pins s σ H Q I h => ?_⟩
  refine Subscript_ (thn (he.run pins s σ H _ I h) fun v s1 ⟨x, H1, I1, r1, q1⟩ => ?_)
  refine wpAny_Slice (thn (po_none.run pins s1 σ H1 (fun o H2 => o = none ∧ H2 = H1) I1 ⟨rfl, rfl⟩) fun vl s2 ⟨l, H2, I2, pl, el, e2⟩ => ?_)
  subst el e2
  refine thn (po_none.run pins s2 σ H2 (fun o H3 => o = none ∧ H3 = H2) I2 ⟨rfl, rfl⟩) fun vu s3 ⟨u, H3, I3, pu, eu, e3⟩ => ?_
  subst eu e3
  refine thn ((po_some hst).run pins s3 σ H3 (kStep X.K x Q) I3 q1) fun vs s4 ⟨o, H4, I4, ps, a, xs, ex, hx, hc, q⟩ => ?_
  subst ex
  cases r1
  have I5 : Inv X pins σ H4 { s4 with heap := s4.heap.push { cls := .type "slice", data := .fields #[vl, vu, vs] } } := I4.kept (t' := s4.toks) fun b ob z => Heap.get?_push_of_some _ z
  obtain ⟨its, r, ht, hz⟩ := I5.list hx
  have hlen := r.length
  have h0 : o ≠ some 0 := by
    rcases hc with c | c <;> rw [c] <;> decide
  have hsz : its.toArray.size ≤ sizeLine := by rw [List.size_toArray]; omega
  show wpAny (model X.prog X.w) X.A (subscriptTail e (.Slice none none (some st) p3) (.ref a) (.ref s4.heap.objs.size)) (EP X pins σ Q) X.xe { s4 with heap := s4.heap.push { cls := .type "slice", data := .fields #[vl, vu, vs] } }
  refine tail_any (ops := [.ref a, .ref s4.heap.objs.size]) ht.isList.typeIs (PySem.slot_list_getitem.lookup) ?_ (by with_unfolding_all rfl)
  refine wpAny_getItem_list_slice ht.isList (Heap.IsSliceOf.new _ vl vu vs) pl pu ps h0 ?_ hsz
  have key : ∃ (ys : List V) (us : List Value), slicePick its.toArray none none o = us.toArray ∧ Vals ys us ∧ (ys = xs ∨ ys = xs.reverse) := by
    rcases hc with c | c
    · exact ⟨xs, its, by rw [c]; exact pick_one its, r, .inl rfl⟩
    · exact ⟨xs.reverse, its.reverse, by rw [c, PySem.W.krv_pick], r.reverse, .inr rfl⟩
  obtain ⟨ys, us, e1, r2, c2⟩ := key
  rw [e1]
  have hz2 : ys.length ≤ sizeLine := by
    rcases c2 with c | c
    · rw [c]; exact hz
    · rw [c, List.length_reverse]; exact hz
  refine ⟨.ref _, _, I5.laid (t' := s4.toks) (o := .lst ys) (fun b ob z => Heap.get?_push_of_some _ z) (Nat.le_refl _) ?_, rfl, q _ ys (I5.hok.fresh (Nat.le_refl _)) c2⟩
  exact ⟨hz2, us, 0, r2, Heap.get?_push_size _ rfl⟩

/-! ### t > u of tuples of ints: some answer -/
def rGtT (K : PySem.W.Frag) : R2 := fun x y H Q => ∃ (a b : Addr) (ns ms : List Int), x = .ref a ∧ y = .ref b ∧ SqT K H a (ns.map V.int) ∧ SqT K H b (ms.map V.int) ∧ ∀ k, Q (.bl k) H
theorem op_gtT {X : Cx} (hu : X.A.units < cLine) : OpR X (compareOp .Gt) (rGtT X.K) := by
  intro pins s σ H x y v u Q I rx ry h
  obtain ⟨a, b, ns, ms, rfl, rfl, ha, hb, q⟩ := h
  cases rx
  cases ry
  obtain ⟨its, r1, p1, _⟩ := I.tuple ha
  obtain ⟨its2, r2, p2, _⟩ := I.tuple hb
  have i1 : IntsAre its ns := Vals.ints r1
  have i2 : IntsAre its2 ms := Vals.ints r2
  have g1 : ∀ j (h1 : j < its.toArray.size), ∃ t, its.toArray[j] = .int (ns.getD j 0) t := fun j h1 => PyProof.Rows.IntsAre.int_at i1 _ _ (by simp at h1; simp [h1])
  have g2 : ∀ j (h1 : j < its2.toArray.size), ∃ t, its2.toArray[j] = .int (ms.getD j 0) t := fun j h1 => PyProof.Rows.IntsAre.int_at i2 _ _ (by simp at h1; simp [h1])
  have R := Ob.RcOp.tuples_gt (A := X.A) (s := s) (e := fun j => decide (ns.getD j 0 = ms.getD j 0)) (r := fun j => decide (ns.getD j 0 > ms.getD j 0)) p1 p2 hu (fun j h1 h2 => by
    obtain ⟨t, et⟩ := g1 j h1
    obtain ⟨t', et'⟩ := g2 j h2
    rw [et, et']
    have z : (ns.getD j 0 == ms.getD j 0) = decide (ns.getD j 0 = ms.getD j 0) := by rw [Bool.beq_eq_decide_eq]
    rw [← z]
    exact SeqAt.EqAt.int_int _ _ _ _) (fun j h1 h2 _ => by
    obtain ⟨t, et⟩ := g1 j h1
    obtain ⟨t', et'⟩ := g2 j h2
    rw [et, et']
    exact Ob.RcOp.gt_int _ _ _ _)
  exact R X.prog X.w X.xe (EP X pins σ Q) ⟨.bl _, H, I, rfl, q _⟩

/-! ### min and max of a tuple of two ints -/
def rTwo (K : PySem.W.Frag) (f : Int → Int → Int) : List V → Hp → VK → Prop := fun vs H Q => ∃ (a : Addr) (i j : Int), vs = [V.ref a] ∧ SqT K H a [.int i, .int j] ∧ Q (.int (f i j)) H
theorem holds_two {h : Heap} {i j : Int} {t u : Tok} : PySem.W.HoldAll h [Value.int i t, Value.int j u] [i, j] := ⟨_, .cons (.int i t) (.cons (.int j u) .nil)⟩
theorem cr_min2T {X : Cx} (hc : X.calm = true) (hu : X.A.units + 64 < cLine) : CallR X (.builtin "min") (rTwo X.K fun i j => if j < i then j else i) := by
  intro pins s σ H vs us Q I r h
  obtain ⟨a, i, j, rfl, ht, q⟩ := h
  obtain ⟨its, rv, pt, _⟩ := I.tuple ht
  rw [Vals.ref1 r]
  obtain ⟨t, u, rfl⟩ := Vals.int2 rv
  refine PySem.W.min_tuple_datum (x := i) (xs := [j]) (I.ok.hd hc) (show s.heap.IsTuple a _ from pt) holds_two (by show X.A.units + 1 + 0 < cLine; omega) fun k v h' tk _ ho hk => ?_
  have e : PySem.W.minOf i [j] = if j < i then j else i := by
    show (if PySem.W.DatumOrd.lt j i = true then j else i) = _
    by_cases c : j < i
    · rw [if_pos c, if_pos (show PySem.W.DatumOrd.lt j i = true from decide_eq_true c)]
    · rw [if_neg c, if_neg (show ¬ PySem.W.DatumOrd.lt j i = true from by show ¬ decide (j < i) = true; simpa using c)]
  rw [e] at ho
  obtain ⟨as, ro⟩ := ho
  have ev : ∃ tk2, v = .int (if j < i then j else i) tk2 := by
    generalize (if j < i then j else i) = z at ro
    cases ro
    exact ⟨_, rfl⟩
  obtain ⟨tk2, rfl⟩ := ev
  exact ⟨.int _, H, I.kept hk, ⟨_, rfl⟩, q⟩
theorem cr_max2T {X : Cx} (hc : X.calm = true) (hu : X.A.units + 64 < cLine) : CallR X (.builtin "max") (rTwo X.K fun i j => if i < j then j else i) := by
  intro pins s σ H vs us Q I r h
  obtain ⟨a, i, j, rfl, ht, q⟩ := h
  obtain ⟨its, rv, pt, _⟩ := I.tuple ht
  rw [Vals.ref1 r]
  obtain ⟨t, u, rfl⟩ := Vals.int2 rv
  refine PySem.W.max_tuple_datum (x := i) (xs := [j]) (I.ok.hd hc) (show s.heap.IsTuple a _ from pt) holds_two (by show X.A.units + 1 + 0 < cLine; omega) fun k v h' tk _ ho hk => ?_
  have e : PySem.W.maxOf i [j] = if i < j then j else i := by
    show (if PySem.W.DatumOrd.lt i j = true then j else i) = _
    by_cases c : i < j
    · rw [if_pos c, if_pos (show PySem.W.DatumOrd.lt i j = true from decide_eq_true c)]
    · rw [if_neg c, if_neg (show ¬ PySem.W.DatumOrd.lt i j = true from by show ¬ decide (i < j) = true; simpa using c)]
  rw [e] at ho
  obtain ⟨as, ro⟩ := ho
  have ev : ∃ tk2, v = .int (if i < j then j else i) tk2 := by
    generalize (if i < j then j else i) = z at ro
    cases ro
    exact ⟨_, rfl⟩
  obtain ⟨tk2, rfl⟩ := ev
  exact ⟨.int _, H, I.kept hk, ⟨_, rfl⟩, q⟩
/-! ### a block parted: what holds between -/
def tCutS (t u : TS) : TS := fun D σ H => ∃ Mid : L2.St → Hp → Prop, t { D with nx := Mid } σ H ∧ ∀ σ' H', Mid σ' H' → u D σ' H'
theorem pss_cutS {X : Cx} {st : Stmt} {rest : List Stmt} {t u : TS} (h1 : PS X st t) (h2 : PSs X rest u) : PSs X (st :: rest) (tCutS t u) := by
  refine ⟨fun pins s σ H D I h => ?_⟩
  obtain ⟨Mid, ht, hu⟩ := h
  refine wpAny_execs_cons (thn (h1.run pins s σ H { D with nx := Mid } I ht) fun f s1 q => ?_)
  cases f with
  | next =>
    obtain ⟨σ', H', I', q⟩ := q
    exact h2.run pins s1 σ' H' D I' (hu σ' H' q)
  | ret v => exact q
  | brk => exact q
  | cont => exact q
/-! ### loops over a locked dict -/
theorem for_items {d : Addr} {o : Obj} {kvs : List (Key × V)} {g : TG} {tb : TS} {D : Ends} {σ : L2.St} {H : Hp} (Pv : Nat → L2.St → Hp → Prop) (h0 : Pv 0 σ H) (hl : ∀ i σ H, i ≤ kvs.length → Pv i σ H → H d = some (.frz o (.dK kvs)))
    (hs : ∀ i k v σ H T, kvs[i]? = some (k, v) → Pv i σ H → H T = none → g (.ref T) σ (upd H T (.tup [kV k, v])) fun σ2 H2 => tb { D with nx := Pv (i + 1), ct := Pv (i + 1), bk := D.nx } σ2 H2) (hd : ∀ σ H, Pv kvs.length σ H → D.nx σ H) :
    ∃ W : Nat → Nat → L2.St → Hp → Prop, (∃ m, W 0 m σ H) ∧ ∀ i m σ H, W i m σ H →
      ((Iti d o kvs).stop i H ∧ D.nx σ H) ∨ ((Iti d o kvs).go i H ∧ ∃ N : L2.St → Hp → Prop, (∀ σ' H', N σ' H' → ∃ m', m' < m ∧ W (i + 1) m' σ' H') ∧ ∀ x H', (Iti d o kvs).yld i H x H' → g x σ H' fun σ2 H2 => tb { D with nx := N, ct := N, bk := D.nx } σ2 H2) := by
  refine ⟨fun i m σ H => m = kvs.length - i ∧ i ≤ kvs.length ∧ Pv i σ H, ⟨kvs.length, by simp, Nat.zero_le _, h0⟩, fun i m σ H hW => ?_⟩
  obtain ⟨rfl, hi, hp⟩ := hW
  have hq := hl i σ H hi hp
  by_cases hlt : i < kvs.length
  · refine .inr ⟨⟨hq, hlt⟩, Pv (i + 1), fun σ' H' p' => ⟨kvs.length - (i + 1), by omega, rfl, hlt, p'⟩, fun x H' y => ?_⟩
    obtain ⟨T, k, v, hx, rfl, hT, rfl⟩ := y
    exact hs i k v σ H T hx hp hT
  · have e : i = kvs.length := by omega
    subst e
    exact .inl ⟨⟨hq, Nat.le_refl _⟩, hd σ H hp⟩
theorem for_keys {d : Addr} {o : Obj} {kvs : List (Key × V)} {g : TG} {tb : TS} {D : Ends} {σ : L2.St} {H : Hp} (Pv : Nat → L2.St → Hp → Prop) (h0 : Pv 0 σ H) (hl : ∀ i σ H, i ≤ kvs.length → Pv i σ H → H d = some (.frz o (.dK kvs)))
    (hs : ∀ i k v σ H, kvs[i]? = some (k, v) → Pv i σ H → g (kV k) σ H fun σ2 H2 => tb { D with nx := Pv (i + 1), ct := Pv (i + 1), bk := D.nx } σ2 H2) (hd : ∀ σ H, Pv kvs.length σ H → D.nx σ H) :
    ∃ W : Nat → Nat → L2.St → Hp → Prop, (∃ m, W 0 m σ H) ∧ ∀ i m σ H, W i m σ H →
      ((Itk d o kvs).stop i H ∧ D.nx σ H) ∨ ((Itk d o kvs).go i H ∧ ∃ N : L2.St → Hp → Prop, (∀ σ' H', N σ' H' → ∃ m', m' < m ∧ W (i + 1) m' σ' H') ∧ ∀ x H', (Itk d o kvs).yld i H x H' → g x σ H' fun σ2 H2 => tb { D with nx := N, ct := N, bk := D.nx } σ2 H2) := by
  refine ⟨fun i m σ H => m = kvs.length - i ∧ i ≤ kvs.length ∧ Pv i σ H, ⟨kvs.length, by simp, Nat.zero_le _, h0⟩, fun i m σ H hW => ?_⟩
  obtain ⟨rfl, hi, hp⟩ := hW
  have hq := hl i σ H hi hp
  by_cases hlt : i < kvs.length
  · refine .inr ⟨⟨hq, hlt⟩, Pv (i + 1), fun σ' H' p' => ⟨kvs.length - (i + 1), by omega, rfl, hlt, p'⟩, fun x H' y => ?_⟩
    obtain ⟨rfl, k, v, hx, rfl⟩ := y
    exact hs i k v σ _ hx hp
  · have e : i = kvs.length := by omega
    subst e
    exact .inl ⟨⟨hq, Nat.le_refl _⟩, hd σ H hp⟩
end Sw

set_option Elab.async false
set_option linter.all false
set_option maxRecDepth 100000
set_option maxHeartbeats 4000000
set_option maxHeartbeats 4000000 in
/-! Sw: the set of a list of ints. -/
namespace Sw
open PySem PySem.Spec PyProof.Rows L2
/-! ### set(xs), xs a list of ints -/
section
variable {P : Program} {w : World} {A : Around} {E : Value → Shared → Prop} {s : Shared}
/-- the set that is to be filled -/
abbrev set0 (w : World) : Obj := { cls := .type "set", dict := none, data := .set #[] 0 (.fresh 0 0 (!w.params.followText "set-order")) }
theorem call_set_lst {l : Addr} {its : Array Value} (ns : List Int) {Q : Value → Shared → Prop} (hh : A.handled = none) (isL : s.heap.IsList l its) (hints : IntsAre its.toList ns) (few : ns.length + 1 < scanBound)
    (h : ∀ (h' : Heap) (tk c : Nat), SetR w h' s.heap.objs.size (fun j => decide (j ∈ ns)) c → c ≤ ns.length → (∀ b o, s.heap.get? b = some o → h'.get? b = some o) → Q (.ref s.heap.objs.size) { s with heap := h', toks := tk }) :
    wpAny (model P w) A (call (.type "set") [.ref l]) Q E s := by
  have size_eq : its.size = ns.length := by
    have q := IntsAre.length hints
    rwa [Array.length_toList] at q
  obtain ⟨c0, tl0, mro0⟩ := F.called_set.mro
  have made0 := F.called_set.made
  have sub0 := F.called_set.sub
  have nt0 := F.called_set.notType
  have cc0 := F.called_set.canCreate
  have tc0 := F.typeCall_set_1 (.ref l)
  refine wpAny_call (codeAny_of_tree ?_)
  show wpAny _ _ (callAny (.type "set") _) _ _ _
  refine wpAny_pure ⟨Code.quiet_builtin _ (by decide +kernel), codeAny_builtin F.entry_type_call ?_⟩
  rw [Around.under_plain (weight_type_call_type "set" [.ref l] []) rfl]
  repeat (any_goals (first | assumption | wp_step))
  refine codeAny_mono (code_set_led1 (.ref l) (E := E) (Q₁ := fun ob s1 => ob = .ref s.heap.objs.size ∧ s1 = { s with heap := s.heap.push (set0 w) }) ⟨rfl, rfl⟩) fun r s1 hr => ?_
  cases r with
  | error e => exact hr
  | ok fl =>
    cases fl with
    | ret ob =>
      obtain ⟨rfl, rfl⟩ := hr
      have atS : (s.heap.push (set0 w)).get? s.heap.objs.size = some (set0 w) := Heap.get?_push_size _ rfl
      have tyS : Shared.TypeIs { s with heap := s.heap.push (set0 w) } (.ref s.heap.objs.size) "set" := ⟨_, atS, rfl⟩
      have look0 := F.called_set.init.lookup
      have bind0 := F.called_set.init.bind (.ref s.heap.objs.size)
      repeat (any_goals (first | assumption | wp_step))
      refine codeAny_mono (codeAny_call_builtin (R := wants (fun r s2 => r = .none ∧ ∃ h' tk c, s2 = { s with heap := h', toks := tk } ∧ SetR w h' s.heap.objs.size (fun j => decide (j ∈ ns)) c ∧ c ≤ ns.length ∧
          (∀ b o, s.heap.get? b = some o → h'.get? b = some o)) E) F.called_set.init.plain F.entry_set_init (check_set_init_1 tyS ?_)) fun r2 s2 hr2 => ?_
      · obtain ⟨⟨oc, od, odt, osl⟩, atl, cl, nl, dl⟩ := isL
        have cl' : oc = .type "list" := cl
        have dl' : odt = .seq its nl := dl
        subst cl' dl'
        have atl2 : (s.heap.push (set0 w)).get? l = some { cls := .type "list", dict := od, data := .seq its nl, slots := osl } := Heap.get?_push_of_some _ atl
        have ss1 := F.sub_list_set
        have ss2 := F.sub_list_frozenset
        have nd0 : (Value.type "list" == Value.type "dict") = false := by decide
        have isL1 : (s.heap.push (set0 w)).IsList l its := ⟨_, atl2, rfl, nl, rfl⟩
        unfold Builtin.«set.__init__» noKeywords Builtin.Frozenset.updateFrom
        generalize hPI : pyIter = PI
        wp_walk
        subst hPI
        refine wpAny_pyIter_list isL1 ?_
        refine wpAny_bind (wpAny_runValue ?_)
        have ltl : l < s.heap.objs.size := Heap.lt_size atl
        have h3 : A.in1.in1.in1.handled = none := by simp [hh]
        have sz1 : (s.heap.push (set0 w)).objs.size = s.heap.objs.size + 1 := Heap.size_push ..
        have ne1 : l ≠ (s.heap.push (set0 w)).objs.size := by rw [sz1]; exact Nat.ne_of_lt (Nat.lt_succ_of_lt ltl)
        have nin : s.heap.objs.size ∉ [(s.heap.push (set0 w)).objs.size, l] := by
          intro hm
          rcases List.mem_cons.mp hm with z | hm
          · rw [sz1] at z; exact absurd z (Nat.ne_of_lt (Nat.lt_succ_self _))
          · exact absurd (List.mem_singleton.mp hm) (Nat.ne_of_gt ltl)
        have vals : ∀ (i : Nat) (v : Value), its[i]? = some v → ∃ k t, ns[i]? = some k ∧ v = .int k t := fun i v hv => by
          have hi : i < ns.length := by rw [← size_eq]; exact (Array.getElem?_eq_some_iff.mp hv).1
          obtain ⟨t, e⟩ := PyProof.Rows.IntsAre.int_at hints i v (by rw [Array.getElem?_toList]; exact hv)
          exact ⟨ns[i], t, List.getElem?_eq_getElem hi, by rw [e, List.getD_eq_getElem?_getD, List.getElem?_eq_getElem hi]; rfl⟩
        refine set_update_ints ((Walks.list h3 _ l ne1 its).toS) s.heap.objs.size nin ns size_eq few vals (its.size - 0) 0 _ (by omega) (Nat.zero_le _) ⟨⟨_, Heap.get?_push_size _ rfl, rfl, rfl⟩, (isL1.push _)⟩ ?hS0 ?hR
        case hS0 => exact ⟨0, Nat.le_refl 0, setR_new_at (Heap.get?_push_of_some _ atS)⟩
        case hR =>
          intro s3 c3 hm hc3 hS3
          obtain ⟨h4, g4, d4, t4, o4⟩ := s3
          have eg : g4 = s.gens := hm.gens
          have ed : d4 = s.drawn := hm.drawn
          have eo : o4 = s.os := hm.os
          subst eg ed eo
          rw [size_eq] at hc3
          show wpAny _ _ _ _ _ _
          refine wpAny_pure ?_
          show wpAny _ _ (ret Value.none) _ _ _
          refine wpAny_pure ⟨rfl, h4, t4, c3, rfl, hS3, hc3, fun b o e => ?_⟩
          have b0 : b < s.heap.objs.size := Heap.lt_size e
          refine hm.heap b o (fun hb => ?_) (Heap.get?_push_of_some _ (Heap.get?_push_of_some _ e))
          rcases List.mem_cons.mp hb with z | hb
          · exact absurd z (Nat.ne_of_lt b0)
          · have z := List.mem_singleton.mp hb
            rw [sz1] at z
            exact absurd z (Nat.ne_of_lt (Nat.lt_succ_of_lt b0))
      · cases r2 with
        | error e => exact hr2
        | ok f2 =>
          cases f2 with
          | ret r =>
            obtain ⟨rfl, h', tk, c', rfl, hS', hc', hk'⟩ := hr2
            repeat (any_goals (first | assumption | wp_step))
            exact h _ _ _ hS' hc' hk'
          | _ => exact hr2.elim
    | _ => exact hr.elim
end
def rSetOfI (K : PySem.W.Frag) (w : World) : List V → Hp → VK → Prop := fun xs H Q => ∃ (l : Addr) (ns : List Int), xs = [V.ref l] ∧ SqL K H l (ns.map V.int) ∧ ns.length ≤ 1000 ∧
  ∀ a c, H a = none → c ≤ ns.length → Q (.ref a) (upd H a (SetO w a (fun j => decide (j ∈ ns)) c))
theorem cr_setOfI {X : Cx} (hc : X.calm = true) : CallR X (.type "set") (rSetOfI X.K X.w) := by
  intro pins s σ H xs us Q I r h
  obtain ⟨l, ns, rfl, hl, hf, q⟩ := h
  rw [Vals.ref1 r]
  obtain ⟨its, rv, pl, hz⟩ := I.list hl
  have hb : ns.length + 1 < scanBound := Nat.lt_of_le_of_lt (Nat.succ_le_succ hf) (by decide)
  refine call_set_lst (P := X.prog) (w := X.w) ns (I.ok.hd hc) pl.isList (by simpa using rv.ints) hb fun h' tk c R hc' k => ?_
  exact ⟨.ref s.heap.objs.size, upd H s.heap.objs.size (SetO X.w s.heap.objs.size (fun j => decide (j ∈ ns)) c), I.laid (t' := tk) k (Nat.le_refl _) (setO_new R), rfl, q _ c (I.hok.fresh (Nat.le_refl _)) hc'⟩
end Sw

set_option Elab.async false
set_option linter.all false
set_option maxRecDepth 100000
set_option maxHeartbeats 4000000
/-! Sw: how the plain data lie in the heap. -/
namespace Sw
open PySem PySem.Spec PyProof.Rows L2

/-- all tuples stand -/
def TupK (H H' : Hp) : Prop := ∀ a xs, H a = some (.tup xs) → H' a = some (.tup xs)
theorem TupK.refl (H : Hp) : TupK H H := fun _ _ h => h
theorem TupK.trans {A B C : Hp} (x : TupK A B) (y : TupK B C) : TupK A C := fun a xs h => y a xs (x a xs h)
theorem TupK.of {H H' : Hp} (s : Same H H') : TupK H H' := fun a xs h => s a _ h
theorem same_new {H : Hp} {p : Addr} {o : HO} (hp : H p = none) : Same H (upd H p o) := fun b u e => by rw [upd_ne (ne_of_none e hp)]; exact e
theorem tupK_upd {H : Hp} {p : Addr} {o : HO} (h : ∀ xs, H p ≠ some (.tup xs)) : TupK H (upd H p o) := fun a xs e => by
  have hne : a ≠ p := fun z => h xs (z ▸ e)
  rw [upd_ne hne]; exact e

/-! ### pairs, letters, labels -/
def PairAt (H : Hp) (v : V) (z : Stp) : Prop := ∃ a, v = .ref a ∧ H a = some (.tup [.int z.1, .int z.2])
def OptAt (H : Hp) (v : V) : Option Stp → Prop
  | none => v = .non
  | some z => PairAt H v z
def LtrAt (H : Hp) (v : V) (L : Ltr) : Prop := ∃ a n s r g, v = .ref a ∧ H a = some (.tup [n, s, .int L.root, .int L.cost, .int L.age, r, g]) ∧ PairAt H n L.num ∧ PairAt H s L.stp ∧ OptAt H r L.rests ∧ OptAt H g L.agrees
def upV : Option Int → V
  | none => .non
  | some p => .int p
def LblAt (H : Hp) (v : V) (l : Lbl) : Prop := ∃ a r, v = .ref a ∧ H a = some (.tup [.int l.root, .int l.cost, upV l.up, r]) ∧ OptAt H r l.rests
theorem PairAt.keep {H H' : Hp} {v : V} {z : Stp} (k : TupK H H') (h : PairAt H v z) : PairAt H' v z := by
  obtain ⟨a, e, h⟩ := h
  exact ⟨a, e, k a _ h⟩
theorem OptAt.keep {H H' : Hp} {v : V} (k : TupK H H') : ∀ {o : Option Stp}, OptAt H v o → OptAt H' v o
  | none, h => h
  | some _, h => PairAt.keep k h
theorem LtrAt.keep {H H' : Hp} {v : V} {L : Ltr} (k : TupK H H') (h : LtrAt H v L) : LtrAt H' v L := by
  obtain ⟨a, n, s, r, g, e, h, h1, h2, h3, h4⟩ := h
  exact ⟨a, n, s, r, g, e, k a _ h, h1.keep k, h2.keep k, h3.keep k, h4.keep k⟩
theorem LblAt.keep {H H' : Hp} {v : V} {l : Lbl} (k : TupK H H') (h : LblAt H v l) : LblAt H' v l := by
  obtain ⟨a, r, e, h, h1⟩ := h
  exact ⟨a, r, e, k a _ h, h1.keep k⟩
def stpD : Option Stp → PyData
  | none => .none
  | some z => .tuple [.int z.1, .int z.2]
def upD : Option Int → PyData
  | none => .none
  | some p => .int p
def lblD (l : Lbl) : PyData := .tuple [.int l.root, .int l.cost, upD l.up, stpD l.rests]
theorem PairAt.dp {K : PySem.W.Frag} {H : Hp} {v : V} {z : Stp} (h : PairAt H v z) : Dp K H v (stpD (some z)) := by
  obtain ⟨a, rfl, h⟩ := h
  exact .tup (SqT.of h) (.cons (.int _) (.cons (.int _) .nil))
theorem OptAt.dp {K : PySem.W.Frag} {H : Hp} {v : V} : ∀ {o : Option Stp}, OptAt H v o → Dp K H v (stpD o)
  | none, h => by
    have e : v = .non := h
    subst e
    exact .non
  | some _, h => PairAt.dp h
theorem upV_dp {K : PySem.W.Frag} {H : Hp} : ∀ o : Option Int, Dp K H (upV o) (upD o)
  | none => .non
  | some _ => .int _
theorem LblAt.dp {K : PySem.W.Frag} {H : Hp} {v : V} {l : Lbl} (h : LblAt H v l) : Dp K H v (lblD l) := by
  obtain ⟨a, r, rfl, h, h1⟩ := h
  exact .tup (SqT.of h) (.cons (.int _) (.cons (.int _) (.cons (upV_dp _) (.cons h1.dp .nil))))
theorem int_beq (i j : Int) : (i == j) = decide (i = j) := by rw [Bool.beq_eq_decide_eq]
theorem stp_eqv : ∀ a b : Option Stp, PyData.eqv (stpD a) (stpD b) = decide (a = b)
  | none, none => rfl
  | none, some z => by show false = _; simp
  | some z, none => by show false = _; simp
  | some (x, y), some (x', y') => by
    show (x == x' && (y == y' && true)) = decide (some (x, y) = some (x', y'))
    rw [Bool.eq_iff_iff]
    simp
theorem up_eqv : ∀ a b : Option Int, PyData.eqv (upD a) (upD b) = decide (a = b)
  | none, none => rfl
  | none, some z => by show false = _; simp
  | some z, none => by show false = _; simp
  | some x, some y => by
    show (x == y) = decide (some x = some y)
    rw [Bool.eq_iff_iff]
    simp
theorem lbl_eqv (a b : Lbl) : PyData.eqv (lblD a) (lblD b) = decide (a = b) := by
  obtain ⟨r, c, u, s⟩ := a
  obtain ⟨r', c', u', s'⟩ := b
  show (r == r' && (c == c' && (PyData.eqv (upD u) (upD u') && (PyData.eqv (stpD s) (stpD s') && true)))) = _
  rw [up_eqv, stp_eqv, Bool.eq_iff_iff]
  simp [and_assoc]
theorem stpD_shaped (a : Option Stp) : SeqAt.shaped (stpD a) = true := by cases a <;> rfl
theorem lblD_shaped (l : Lbl) : SeqAt.shaped (lblD l) = true := by
  obtain ⟨r, c, u, s⟩ := l
  cases u <;> cases s <;> rfl

/-! ### dicts with int keys as maps -/
def OptR {α : Type} (R : V → α → Prop) : Option V → Option α → Prop
  | none, none => True
  | some v, some x => R v x
  | _, _ => False
theorem OptR.imp {α : Type} {R R' : V → α → Prop} : ∀ {a : Option V} {b : Option α}, OptR R a b → (∀ v x, b = some x → R v x → R' v x) → OptR R' a b
  | none, none, _, _ => True.intro
  | some _, some _, h, f => f _ _ rfl h
  | none, some _, h, _ => h.elim
  | some _, none, h, _ => h.elim
abbrev ik (p : Int) : Key := Sum.inl p
structure MapAt {α : Type} (R : Int → V → α → Prop) (kvs : List (Key × V)) (m : Int → Option α) : Prop where
  nd : (kvs.map (·.1)).Nodup
  int : ∀ kv, kv ∈ kvs → ∃ p, kv.1 = ik p
  val : ∀ p, OptR (R p) (valV kvs (ik p)) (m p)
section
variable {α : Type} {R R' : Int → V → α → Prop} {kvs : List (Key × V)} {m : Int → Option α} {p : Int} {v : V} {x : α}
theorem MapAt.empty : MapAt R [] (fun _ => none) := ⟨List.nodup_nil, (fun _ h => by cases h), fun _ => True.intro⟩
theorem MapAt.imp (h : MapAt R kvs m) (f : ∀ p v x, m p = some x → R p v x → R' p v x) : MapAt R' kvs m := ⟨h.nd, h.int, fun p => (h.val p).imp fun v x e r => f p v x e r⟩
theorem MapAt.some_ (h : MapAt R kvs m) (e : m p = some x) : ∃ v, valV kvs (ik p) = some v ∧ R p v x := by
  have hv := h.val p
  rw [e] at hv
  cases q : valV kvs (ik p) with
  | none => rw [q] at hv; exact hv.elim
  | some v => rw [q] at hv; exact ⟨v, rfl, hv⟩
theorem MapAt.none_ (h : MapAt R kvs m) (e : m p = none) : valV kvs (ik p) = none := by
  have hv := h.val p
  rw [e] at hv
  cases q : valV kvs (ik p) with
  | none => rfl
  | some v => rw [q] at hv; exact hv.elim
theorem MapAt.isSome (h : MapAt R kvs m) (p : Int) : (valV kvs (ik p)).isSome = (m p).isSome := by
  cases e : m p with
  | none => rw [h.none_ e]; rfl
  | some x =>
    obtain ⟨v, hv, _⟩ := h.some_ e
    rw [hv]; rfl
theorem MapAt.of_val (h : MapAt R kvs m) (e : valV kvs (ik p) = some v) : ∃ x, m p = some x ∧ R p v x := by
  have hv := h.val p
  rw [e] at hv
  cases q : m p with
  | none => rw [q] at hv; exact hv.elim
  | some x => rw [q] at hv; exact ⟨x, rfl, hv⟩
theorem valV_mem {κ : Type} [DecidableEq κ] : ∀ {kvs : List (κ × V)} {k : κ} {v : V}, (kvs.map (·.1)).Nodup → (k, v) ∈ kvs → valV kvs k = some v
  | [], _, _, _, h => by cases h
  | (k', v') :: r, k, v, nd, h => by
    obtain ⟨n1, n2⟩ := List.nodup_cons.mp (show (k' :: r.map (·.1)).Nodup from nd)
    rcases List.mem_cons.mp h with e | h
    · cases e
      exact valV_pos rfl
    · have hne : ¬ k' = k := fun e => n1 (by rw [e]; exact List.mem_map.mpr ⟨_, h, rfl⟩)
      rw [valV_neg (p := (k', v')) hne]
      exact valV_mem n2 h
theorem MapAt.mem (h : MapAt R kvs m) {k : Key} (e : (k, v) ∈ kvs) : ∃ p x, k = ik p ∧ m p = some x ∧ R p v x := by
  obtain ⟨p, hp⟩ := h.int _ e
  have hp' : k = ik p := hp
  subst hp'
  obtain ⟨x, hx, r⟩ := h.of_val (valV_mem h.nd e)
  exact ⟨p, x, rfl, hx, r⟩
theorem keys_putK {k : Key} : ((putK kvs k v).map (·.1)).Nodup ↔ (kvs.map (·.1)).Nodup := by
  unfold putK
  by_cases c : (kvs.any fun kv => decide (kv.1 = k)) = true
  · rw [if_pos c, List.map_map]
    have e : ((fun x : Key × V => x.1) ∘ fun kv : Key × V => if kv.1 = k then (kv.1, v) else kv) = fun x => x.1 := by
      funext kv
      show (if kv.1 = k then (kv.1, v) else kv).1 = kv.1
      split <;> rfl
    rw [e]
  · rw [if_neg c, List.map_append]
    constructor
    · intro h
      exact (List.nodup_append.mp h).1
    · intro h
      refine List.nodup_append.mpr ⟨h, by simp, fun a ha b hb e => ?_⟩
      have eb : b = k := by simpa using hb
      subst eb
      subst e
      obtain ⟨kv, hkv, e⟩ := List.mem_map.mp ha
      exact c (List.any_eq_true.mpr ⟨kv, hkv, decide_eq_true e⟩)
theorem mem_putK {k : Key} {kv : Key × V} (h : kv ∈ putK kvs k v) : kv.1 = k ∨ ∃ w, w ∈ kvs ∧ w.1 = kv.1 := by
  unfold putK at h
  by_cases c : (kvs.any fun kv => decide (kv.1 = k)) = true
  · rw [if_pos c] at h
    obtain ⟨w, hw, e⟩ := List.mem_map.mp h
    right
    refine ⟨w, hw, ?_⟩
    rw [← e]
    split <;> rfl
  · rw [if_neg c] at h
    rcases List.mem_append.mp h with h | h
    · exact .inr ⟨kv, h, rfl⟩
    · left
      have e : kv = (k, v) := by simpa using h
      rw [e]
theorem MapAt.put (h : MapAt R kvs m) (r : R p v x) : MapAt R (putK kvs (ik p) v) (setAt m p (some x)) := by
  refine ⟨keys_putK.mpr h.nd, fun kv hkv => ?_, fun q => ?_⟩
  · rcases mem_putK hkv with e | ⟨w, hw, e⟩
    · exact ⟨p, e⟩
    · obtain ⟨q, hq⟩ := h.int w hw
      exact ⟨q, e ▸ hq⟩
  · rw [valV_put]
    by_cases c : q = p
    · subst c
      rw [if_pos rfl, setAt_same]
      exact r
    · have c' : ¬ ik q = ik p := fun e => c (Sum.inl.inj e)
      rw [if_neg c', setAt_ne c]
      exact h.val q
theorem valV_drop {κ : Type} [DecidableEq κ] (k j : κ) : ∀ kvs : List (κ × V), valV (dropK kvs k) j = if j = k then none else valV kvs j
  | [] => by split <;> rfl
  | q :: r => by
    by_cases e : q.1 = k
    · rw [dropK_pos e, valV_drop k j r]
      by_cases c : j = k
      · rw [if_pos c, if_pos c]
      · rw [if_neg c, if_neg c, valV_neg fun z => c (z.symm.trans e)]
    · rw [dropK_neg e]
      by_cases c : q.1 = j
      · rw [valV_pos c, valV_pos c, if_neg fun z => e (c.trans z)]
      · rw [valV_neg c, valV_neg c, valV_drop k j r]
theorem MapAt.drop (h : MapAt R kvs m) (p : Int) : MapAt R (dropK kvs (ik p)) (setAt m p none) := by
  refine ⟨nd_dropK h.nd, fun kv hkv => h.int kv (dropK_mem hkv), fun q => ?_⟩
  rw [valV_drop]
  by_cases c : q = p
  · subst c
    rw [if_pos rfl, setAt_same]
    exact True.intro
  · have c' : ¬ ik q = ik p := fun e => c (Sum.inl.inj e)
    rw [if_neg c', setAt_ne c]
    exact h.val q
theorem MapAt.drop_none (h : MapAt R kvs m) (e : m p = none) : MapAt R kvs (setAt m p none) := ⟨h.nd, h.int, fun q => by
  by_cases c : q = p
  · subst c; rw [setAt_same, h.none_ e]; exact True.intro
  · rw [setAt_ne c]; exact h.val q⟩
theorem nd_leK {κ : Type} [DecidableEq κ] : ∀ {l W : List κ}, l.Nodup → (∀ x, x ∈ l → x ∈ W) → l.length ≤ W.length
  | [], _, _, _ => Nat.zero_le _
  | x :: l, W, hn, hs => by
    have hx : x ∈ W := hs x List.mem_cons_self
    have hl : l.length ≤ (W.erase x).length := nd_leK (List.nodup_cons.mp hn).2 fun y hy => by
      have hne : y ≠ x := fun e => (List.nodup_cons.mp hn).1 (e ▸ hy)
      exact (List.mem_erase_of_ne hne).mpr (hs y (List.mem_cons_of_mem _ hy))
    have he : (W.erase x).length = W.length - 1 := List.length_erase_of_mem hx
    have hp : 0 < W.length := List.length_pos_of_mem hx
    simp only [List.length_cons]
    omega
theorem MapAt.few (h : MapAt R kvs m) (l : List Int) (hl : ∀ p x, m p = some x → p ∈ l) : kvs.length ≤ l.length := by
  have h1 : (kvs.map (·.1)).length ≤ (l.map ik).length := nd_leK h.nd fun k hk => by
    obtain ⟨kv, hkv, e⟩ := List.mem_map.mp hk
    obtain ⟨p, x, ek, hm, _⟩ := h.mem (k := kv.1) (v := kv.2) hkv
    exact List.mem_map.mpr ⟨p, hl p x hm, by rw [← e]; exact ek.symm⟩
  simpa using h1
def upTo (n : Nat) : List Int := (List.range n).map fun (i : Nat) => (i : Int)
theorem mem_upTo {n : Nat} {p : Int} : p ∈ upTo n ↔ 0 ≤ p ∧ p < n := by
  unfold upTo
  rw [List.mem_map]
  constructor
  · rintro ⟨i, hi, e⟩
    have := List.mem_range.mp hi
    omega
  · rintro ⟨h0, h1⟩
    exact ⟨p.toNat, List.mem_range.mpr (by omega), by omega⟩
theorem MapAt.few_to (h : MapAt R kvs m) (n : Nat) (hl : ∀ p x, m p = some x → 0 ≤ p ∧ p < n) : kvs.length ≤ n := by
  have h1 := h.few (upTo n) fun p x e => mem_upTo.mpr (hl p x e)
  unfold upTo at h1
  rwa [List.length_map, List.length_range] at h1
/-- its keys as ints -/
theorem MapAt.keys (h : MapAt R kvs m) : ∃ ks : List Int, kvs.map (·.1) = ks.map Sum.inl ∧ ks.Nodup ∧ ∀ p, p ∈ ks ↔ (m p).isSome = true := by
  have key : ∀ l : List (Key × V), (∀ kv, kv ∈ l → ∃ p, kv.1 = ik p) → ∃ ks : List Int, l.map (·.1) = ks.map Sum.inl := by
    intro l
    induction l with
    | nil => intro _; exact ⟨[], rfl⟩
    | cons a l ih =>
      intro hl
      obtain ⟨ks, e⟩ := ih fun kv hkv => hl kv (List.mem_cons_of_mem _ hkv)
      obtain ⟨p, hp⟩ := hl a List.mem_cons_self
      exact ⟨p :: ks, by rw [List.map_cons, List.map_cons, e, hp]⟩
  obtain ⟨ks, e⟩ := key kvs h.int
  refine ⟨ks, e, ?_, fun p => ?_⟩
  · have nd := h.nd
    rw [e] at nd
    exact (List.pairwise_map.mp nd).imp fun hab c => hab (congrArg Sum.inl c)
  · rw [← h.isSome p]
    constructor
    · intro hp
      have hk : ik p ∈ kvs.map (·.1) := by rw [e]; exact List.mem_map.mpr ⟨p, hp, rfl⟩
      obtain ⟨kv, hkv, ek⟩ := List.mem_map.mp hk
      have : valV kvs kv.1 = some kv.2 := valV_mem h.nd hkv
      rw [ek] at this
      rw [this]; rfl
    · intro hs
      cases q : valV kvs (ik p) with
      | none => rw [q] at hs; cases hs
      | some v =>
        have hk := valV_in q
        rw [e] at hk
        obtain ⟨p', hp', ep⟩ := List.mem_map.mp hk
        have : p' = p := Sum.inl.inj ep
        rw [← this]; exact hp'
end
end Sw

/-! Sw: a bridge and a yard in the heap. -/
namespace Sw
open PySem PySem.Spec PyProof.Rows L2

/-! ### a bridge -/
def bfs (B : Br) (dt dk : Addr) (sh : V) : List (Str × V) := [("own", .int B.own), ("lived", .int B.life), ("most", .int B.most), ("tied", .ref dt), ("kept", .ref dk), ("shown", sh), ("version", .int B.ver), ("ticked", .int B.tick)]
section
variable {B : Br} {dt dk : Addr} {sh : V}
theorem bf_own : (bfs B dt dk sh).lookup ("own" : Str) = some (.int B.own) := rfl
theorem bf_lived : (bfs B dt dk sh).lookup ("lived" : Str) = some (.int B.life) := rfl
theorem bf_most : (bfs B dt dk sh).lookup ("most" : Str) = some (.int B.most) := rfl
theorem bf_tied : (bfs B dt dk sh).lookup ("tied" : Str) = some (.ref dt) := rfl
theorem bf_kept : (bfs B dt dk sh).lookup ("kept" : Str) = some (.ref dk) := rfl
theorem bf_shown : (bfs B dt dk sh).lookup ("shown" : Str) = some sh := rfl
theorem bf_version : (bfs B dt dk sh).lookup ("version" : Str) = some (.int B.ver) := rfl
theorem bf_ticked : (bfs B dt dk sh).lookup ("ticked" : Str) = some (.int B.tick) := rfl
theorem bf_len : (bfs B dt dk sh).length < 1000 := by show 8 < 1000; decide
theorem bp_kept (x : Addr) : putF "kept" (.ref x) (bfs B dt dk sh) = bfs B dt x sh := rfl
theorem bp_shown (x : V) (l : Lbl) : putF "shown" x (bfs B dt dk sh) = bfs { B with lbl := l } dt dk x := rfl
theorem bp_version (i : Int) : putF "version" (.int i) (bfs B dt dk sh) = bfs { B with ver := i } dt dk sh := rfl
theorem bp_ticked (i : Int) : putF "ticked" (.int i) (bfs B dt dk sh) = bfs { B with tick := i } dt dk sh := rfl
theorem bn_stamp : (bfs B dt dk sh).lookup ("stamp" : Str) = none := rfl
end
def TiedV (H : Hp) (v : V) (x : Int × Int) : Prop := ∃ a, v = .ref a ∧ H a = some (.tup [.int x.1, .int x.2])
def KeptV (H : Hp) (v : V) (x : Ltr × Int) : Prop := ∃ a lv, v = .ref a ∧ H a = some (.tup [lv, .int x.2]) ∧ LtrAt H lv x.1
theorem TiedV.keep {H H' : Hp} {v : V} {x : Int × Int} (k : TupK H H') (h : TiedV H v x) : TiedV H' v x := by
  obtain ⟨a, e, h⟩ := h
  exact ⟨a, e, k a _ h⟩
theorem KeptV.keep {H H' : Hp} {v : V} {x : Ltr × Int} (k : TupK H H') (h : KeptV H v x) : KeptV H' v x := by
  obtain ⟨a, lv, e, h, h1⟩ := h
  exact ⟨a, lv, e, k a _ h, h1.keep k⟩
structure Br.Ok (B : Br) : Prop where
  few : ∀ p x, B.tied p = some x → 0 ≤ p ∧ p < (16 : Nat)
  sub : ∀ p x, B.kept p = some x → ∃ y, B.tied p = some y
structure BrAt (K : PySem.W.Frag) (H : Hp) (a dt dk : Addr) (B : Br) : Prop where
  ob : ∃ dx sh, H a = some (.ins (CB K) dx (bfs B dt dk sh)) ∧ LblAt H sh B.lbl
  td : ∃ kvs, H dt = some (.dK kvs) ∧ MapAt (fun _ => TiedV H) kvs B.tied
  kd : ∃ kvs, H dk = some (.dK kvs) ∧ MapAt (fun _ => KeptV H) kvs B.kept
  ne : dt ≠ dk
section
variable {K : PySem.W.Frag} {H H' : Hp} {a dt dk : Addr} {B : Br}
theorem BrAt.keep (h : BrAt K H a dt dk B) (t : TupK H H') (k : ∀ b o, b = a ∨ b = dt ∨ b = dk → H b = some o → H' b = some o) : BrAt K H' a dt dk B := by
  obtain ⟨⟨dx, sh, h1, h2⟩, ⟨kt, h3, h4⟩, ⟨kk, h5, h6⟩, hne⟩ := h
  exact ⟨⟨dx, sh, k _ _ (.inl rfl) h1, h2.keep t⟩, ⟨kt, k _ _ (.inr (.inl rfl)) h3, h4.imp fun _ _ _ _ r => r.keep t⟩, ⟨kk, k _ _ (.inr (.inr rfl)) h5, h6.imp fun _ _ _ _ r => r.keep t⟩, hne⟩
theorem BrAt.same (h : BrAt K H a dt dk B) (s : Same H H') : BrAt K H' a dt dk B := h.keep (.of s) fun b o _ e => s b o e
theorem BrAt.nat (h : BrAt K H a dt dk B) : a ≠ dt := by
  obtain ⟨⟨dx, sh, h1, _⟩, ⟨kt, h3, _⟩, _, _⟩ := h
  exact ne_of h1 h3 (by intro z; cases z)
theorem BrAt.nak (h : BrAt K H a dt dk B) : a ≠ dk := by
  obtain ⟨⟨dx, sh, h1, _⟩, _, ⟨kk, h5, _⟩, _⟩ := h
  exact ne_of h1 h5 (by intro z; cases z)
end

/-! ### a net, the road -/
def TieAt (H : Hp) (v : V) (t : Tie) : Prop := ∃ a, v = .ref a ∧ H a = some (.tup [.int t.1, .int t.2.1, .int t.2.2])
def MsgAt (H : Hp) (v : V) (m : Msg) : Prop := ∃ a lv, v = .ref a ∧ H a = some (.tup [.int m.src, .int m.dst, .int m.place, lv]) ∧ LtrAt H lv m.ltr
structure NetAt (H : Hp) (np ab at_ : Addr) (tv : List V) (N : Net) : Prop where
  ob : H np = some (.tup [.ref ab, .ref at_])
  bs : H ab = some (.tup (N.bs.map V.int))
  ts : H at_ = some (.tup tv)
  tie : Paired (TieAt H) tv N.ts
theorem TieAt.keep {H H' : Hp} {v : V} {t : Tie} (k : TupK H H') (h : TieAt H v t) : TieAt H' v t := by
  obtain ⟨a, e, h⟩ := h
  exact ⟨a, e, k a _ h⟩
theorem MsgAt.keep {H H' : Hp} {v : V} {m : Msg} (k : TupK H H') (h : MsgAt H v m) : MsgAt H' v m := by
  obtain ⟨a, lv, e, h, h1⟩ := h
  exact ⟨a, lv, e, k a _ h, h1.keep k⟩
theorem NetAt.keep {H H' : Hp} {np ab at_ : Addr} {tv : List V} {N : Net} (k : TupK H H') (h : NetAt H np ab at_ tv N) : NetAt H' np ab at_ tv N :=
  ⟨k _ _ h.ob, k _ _ h.bs, k _ _ h.ts, Paired.mapP h.tie fun _ _ r => r.keep k⟩
theorem paired_at {α β : Type} {R : α → β → Prop} : ∀ {l : List α} {m : List β}, Paired R l m → ∀ {i : Nat} {y : β}, m[i]? = some y → ∃ x, l[i]? = some x ∧ R x y
  | _, _, .nil, i, y, h => by simp at h
  | _, _, .cons r t, 0, y, h => by
    have e := Option.some.inj h
    subst e
    exact ⟨_, rfl, r⟩
  | _, _, .cons r t, i + 1, y, h => by
    obtain ⟨x, hx, rx⟩ := paired_at t (i := i) (by simpa using h)
    exact ⟨x, by simpa using hx, rx⟩
theorem paired_at' {α β : Type} {R : α → β → Prop} : ∀ {l : List α} {m : List β}, Paired R l m → ∀ {i : Nat} {x : α}, l[i]? = some x → ∃ y, m[i]? = some y ∧ R x y
  | _, _, .nil, i, y, h => by simp at h
  | _, _, .cons r t, 0, y, h => by
    have e := Option.some.inj h
    subst e
    exact ⟨_, rfl, r⟩
  | _, _, .cons r t, i + 1, y, h => by
    obtain ⟨x, hx, rx⟩ := paired_at' t (i := i) (by simpa using h)
    exact ⟨x, by simpa using hx, rx⟩
theorem paired_app {α β : Type} {R : α → β → Prop} : ∀ {l l2 : List α} {m m2 : List β}, Paired R l m → Paired R l2 m2 → Paired R (l ++ l2) (m ++ m2)
  | _, _, _, _, .nil, h => h
  | _, _, _, _, .cons r t, h => .cons r (paired_app t h)
theorem paired_erase {α β : Type} {R : α → β → Prop} : ∀ {l : List α} {m : List β} (i : Nat), Paired R l m → Paired R (l.eraseIdx i) (m.eraseIdx i)
  | _, _, _, .nil => .nil
  | _, _, 0, .cons r t => t
  | _, _, i + 1, .cons r t => .cons r (paired_erase i t)
theorem NetAt.tieAt {H : Hp} {np ab at_ : Addr} {tv : List V} {N : Net} (h : NetAt H np ab at_ tv N) {p : Int} {t : Tie} (e : tieAt N.ts p = some t) : ∃ a, atI tv p = some (.ref a) ∧ H a = some (.tup [.int t.1, .int t.2.1, .int t.2.2]) := by
  obtain ⟨h0, h1, _⟩ := tieAt_lt e
  obtain ⟨t', e1, e2, e3⟩ := tieAt_some h0 h1
  rw [e] at e1
  cases e1
  obtain ⟨v, hv, a, rfl, ha⟩ := paired_at h.tie e2
  exact ⟨a, at_of e3 hv, ha⟩

/-! ### a yard -/
def yfs (np : Addr) (old : Int) (dl dth dc ll : Addr) : List (Str × V) := [("plan", .ref np), ("oldest", .int old), ("lives", .ref dl), ("there", .ref dth), ("cut", .ref dc), ("letters", .ref ll)]
def cutM (c : Int → Bool) : Int → Option Unit := fun p => if c p = true then some () else none
structure Lay where
  dx : Addr
  np : Addr
  ab : Addr
  at_ : Addr
  tv : List V
  dl : Addr
  dth : Addr
  dc : Addr
  ba : Int → Addr
  bt : Int → Addr
  bk : Int → Addr
  ro : Addr → Nat × Int
structure YdL (K : PySem.W.Frag) (H : Hp) (y ll : Addr) (L : Lay) (S : Yd) : Prop where
  ob : H y = some (.ins (CY K) L.dx (yfs L.np S.oldest L.dl L.dth L.dc ll))
  net : NetAt H L.np L.ab L.at_ L.tv S.net
  liv : ∃ kvs, H L.dl = some (.dK kvs) ∧ MapAt (fun _ v (x : Int) => v = .int x) kvs S.lives
  thr : ∃ kvs, H L.dth = some (.dK kvs) ∧ MapAt (fun b v (_ : Br) => v = .ref (L.ba b)) kvs S.there
  brs : ∀ b B, S.there b = some B → BrAt K H (L.ba b) (L.bt b) (L.bk b) B
  cutd : ∃ kvs, H L.dc = some (.dK kvs) ∧ MapAt (fun _ v (_ : Unit) => v = .bl true) kvs (cutM S.cut)
  road : ∃ vs, H ll = some (.lst vs) ∧ Paired (MsgAt H) vs S.road
  ry : L.ro y = (6, 0)
  r0 : L.ro L.dl = (0, 0)
  r1 : L.ro L.dth = (1, 0)
  r2 : L.ro L.dc = (2, 0)
  rb : ∀ b B, S.there b = some B → L.ro (L.ba b) = (3, b) ∧ L.ro (L.bt b) = (4, b) ∧ L.ro (L.bk b) = (5, b)
/-- what stands there for the yard: no list but the road, no tuple -/
structure YKeep (ll : Addr) (H H' : Hp) : Prop where
  tup : TupK H H'
  oth : ∀ b o, H b = some o → (∀ xs, o = .lst xs → b = ll) → H' b = some o
theorem yk_of {ll : Addr} {H H' : Hp} (s : Same H H') : YKeep ll H H' := ⟨.of s, fun b o e _ => s b o e⟩
section
variable {K : PySem.W.Frag} {H H' : Hp} {y ll : Addr} {L : Lay} {S : Yd}
theorem YdL.keep (h : YdL K H y ll L S) (k : YKeep ll H H') : YdL K H' y ll L S := by
  obtain ⟨kl, h1, h2⟩ := h.liv
  obtain ⟨kt, h3, h4⟩ := h.thr
  obtain ⟨kc, h5, h6⟩ := h.cutd
  obtain ⟨vs, h7, h8⟩ := h.road
  refine ⟨k.oth _ _ h.ob (fun xs e => by cases e), h.net.keep k.tup, ⟨kl, k.oth _ _ h1 (fun xs e => by cases e), h2⟩, ⟨kt, k.oth _ _ h3 (fun xs e => by cases e), h4⟩, fun b B hB => ?_, ⟨kc, k.oth _ _ h5 (fun xs e => by cases e), h6⟩, ⟨vs, k.oth _ _ h7 (fun xs e => rfl), Paired.mapP h8 fun _ _ r => r.keep k.tup⟩, h.ry, h.r0, h.r1, h.r2, h.rb⟩
  obtain ⟨⟨dx, sh, g1, g2⟩, ⟨kt', g3, g4⟩, ⟨kk, g5, g6⟩, hne⟩ := h.brs b B hB
  exact ⟨⟨dx, sh, k.oth _ _ g1 (fun xs e => by cases e), g2.keep k.tup⟩, ⟨kt', k.oth _ _ g3 (fun xs e => by cases e), g4.imp fun _ _ _ _ r => r.keep k.tup⟩, ⟨kk, k.oth _ _ g5 (fun xs e => by cases e), g6.imp fun _ _ _ _ r => r.keep k.tup⟩, hne⟩
theorem YdL.same (h : YdL K H y ll L S) (s : Same H H') : YdL K H' y ll L S := h.keep (yk_of s)
theorem ro_ne {ro : Addr → Nat × Int} {a b : Addr} {x z : Nat × Int} (h : ro a = x) (g : ro b = z) (n : x ≠ z) : a ≠ b := fun e => n (by rw [← h, ← g, e])
/-- the bridge b alone has changed -/
theorem YdL.bridge (h : YdL K H y ll L S) {b : Int} {B B' : Br} {dk' : Addr} (hB : S.there b = some B) (t : TupK H H') (hdk : dk' = L.bk b ∨ H dk' = none)
    (k : ∀ c o, H c = some o → c ≠ L.ba b → c ≠ L.bt b → c ≠ L.bk b → H' c = some o) (hB' : BrAt K H' (L.ba b) (L.bt b) dk' B') :
    YdL K H' y ll { L with bk := fun c => if c = b then dk' else L.bk c, ro := fun c => if c = dk' then (5, b) else L.ro c } { S with there := setAt S.there b (some B') } := by
  obtain ⟨kl, h1, h2⟩ := h.liv
  obtain ⟨kt, h3, h4⟩ := h.thr
  obtain ⟨kc, h5, h6⟩ := h.cutd
  obtain ⟨vs, h7, h8⟩ := h.road
  obtain ⟨e1, e2, e3⟩ := h.rb b B hB
  have hb := h.brs b B hB
  -- an address that is tracked and of another role is none of the three, nor the new one
  have far : ∀ {c o r}, H c = some o → L.ro c = r → r ≠ (3, b) → r ≠ (4, b) → r ≠ (5, b) → H' c = some o ∧ c ≠ dk' := fun {c o r} hc hr n3 n4 n5 => by
    refine ⟨k c o hc (ro_ne hr e1 n3) (ro_ne hr e2 n4) (ro_ne hr e3 n5), ?_⟩
    rcases hdk with e | e
    · rw [e]; exact ro_ne hr e3 n5
    · exact ne_of_none hc e
  have lk : ∀ {o}, H ll = some (.lst o) → H' ll = some (.lst o) := fun {o} hl => by
    obtain ⟨⟨dx, sh, g1, _⟩, ⟨k1, g3, _⟩, ⟨k2, g5, _⟩, _⟩ := hb
    exact k ll _ hl (ne_of hl g1 (by intro z; cases z)) (ne_of hl g3 (by intro z; cases z)) (ne_of hl g5 (by intro z; cases z))
  have q0 := far h1 h.r0 (by intro z; cases z) (by intro z; cases z) (by intro z; cases z)
  have q1 := far h3 h.r1 (by intro z; cases z) (by intro z; cases z) (by intro z; cases z)
  have q2 := far h5 h.r2 (by intro z; cases z) (by intro z; cases z) (by intro z; cases z)
  have qy := far h.ob h.ry (by intro z; cases z) (by intro z; cases z) (by intro z; cases z)
  have tne : L.bt b ≠ dk' := hB'.ne
  have ane : L.ba b ≠ dk' := hB'.nak
  refine ⟨qy.1, h.net.keep t, ⟨kl, q0.1, h2⟩, ⟨kt, q1.1, ?_⟩, fun c C hC => ?_, ⟨kc, q2.1, h6⟩, ⟨vs, lk h7, Paired.mapP h8 fun _ _ r => r.keep t⟩, ?_, ?_, ?_, ?_, fun c C hC => ?_⟩
  · refine ⟨h4.nd, h4.int, fun p => ?_⟩
    show OptR _ _ (setAt S.there b (some B') p)
    by_cases ep : p = b
    · subst ep
      rw [setAt_same]
      obtain ⟨v, hv, rv⟩ := h4.some_ hB
      rw [hv]; exact rv
    · rw [setAt_ne ep]; exact (h4.val p).imp fun _ _ _ r => r
  · have hC' : setAt S.there b (some B') c = some C := hC
    show BrAt K H' (L.ba c) (L.bt c) (if c = b then dk' else L.bk c) C
    by_cases ec : c = b
    · subst ec
      rw [setAt_same] at hC'
      cases hC'
      rw [if_pos rfl]; exact hB'
    · rw [setAt_ne ec] at hC'
      rw [if_neg ec]
      obtain ⟨f1, f2, f3⟩ := h.rb c C hC'
      refine (h.brs c C hC').keep t fun d o hd ho => ?_
      have nn : ∀ {m n : Nat}, ((m, c) : Nat × Int) ≠ (n, b) := fun z => ec (congrArg Prod.snd z)
      rcases hd with z | z | z
      · subst z; exact (far ho f1 nn nn nn).1
      · subst z; exact (far ho f2 nn nn nn).1
      · subst z; exact (far ho f3 nn nn nn).1
  · show (if y = dk' then (5, b) else L.ro y) = _
    rw [if_neg qy.2]; exact h.ry
  · show (if L.dl = dk' then (5, b) else L.ro L.dl) = _
    rw [if_neg q0.2]; exact h.r0
  · show (if L.dth = dk' then (5, b) else L.ro L.dth) = _
    rw [if_neg q1.2]; exact h.r1
  · show (if L.dc = dk' then (5, b) else L.ro L.dc) = _
    rw [if_neg q2.2]; exact h.r2
  · have hC' : setAt S.there b (some B') c = some C := hC
    show (if L.ba c = dk' then (5, b) else L.ro (L.ba c)) = (3, c) ∧ (if L.bt c = dk' then (5, b) else L.ro (L.bt c)) = (4, c) ∧ (if (if c = b then dk' else L.bk c) = dk' then (5, b) else L.ro (if c = b then dk' else L.bk c)) = (5, c)
    by_cases ec : c = b
    · subst ec
      rw [if_neg ane, if_neg tne, if_pos rfl, if_pos rfl]
      exact ⟨e1, e2, rfl⟩
    · rw [setAt_ne ec] at hC'
      obtain ⟨f1, f2, f3⟩ := h.rb c C hC'
      have nn : ∀ {m n : Nat}, ((m, c) : Nat × Int) ≠ (n, b) := fun z => ec (congrArg Prod.snd z)
      obtain ⟨⟨dx, sh, g1, _⟩, ⟨k1, g3, _⟩, ⟨k2, g5, _⟩, _⟩ := h.brs c C hC'
      have w1 := (far g1 f1 nn nn nn).2
      have w2 := (far g3 f2 nn nn nn).2
      have w3 := (far g5 f3 nn nn nn).2
      rw [if_neg ec, if_neg w1, if_neg w2, if_neg w3]
      exact ⟨f1, f2, f3⟩
end
end Sw

/-! Sw: the walk of a bridge's small methods. -/
namespace Sw
open PySem PySem.Spec PyProof.Rows L2
section
variable {P : Program} {w : World} {K : PySem.W.Frag} {mg : Str → Option Value} {base : Heap}
theorem hu0 {A : Around} {k : Nat} (hr : Room k A) : A.units < cLine := hr.units0

/-! ### newer -/
def sp_nw : Sp := fun vs H Q _ => ∃ v u L M, vs = [v, u] ∧ LtrAt H v L ∧ LtrAt H u M ∧ ∀ k, Q (.bl k) H
theorem sc_nw : FnScope ["one", "other"] ["one", "other"] (defScope s_nw) := ⟨rfl, rfl, rfl, by decide +kernel, rfl, by decide +kernel, by decide +kernel⟩
theorem ok_nw (T : Tx K mg) : Cal P w K mg base 1 (He.fAd K ("newer", none)) ["one", "other"] sp_nw := by
  obtain ⟨fd, F⟩ := T.f_nw
  refine Cal.mk2 F sc_nw (fun _ _ _ _ _ _ us hl => match us, hl with | [_, _], _ => rfl) (fun vs H Q E h => ?_) (fun cdv A outer s H vs Q E hr h => ?_)
  · obtain ⟨v, u, L, M, rfl, _⟩ := h
    rfl
  · obtain ⟨v, u, L, M, rfl, ⟨a, n, s1, r, g, rfl, ha, ⟨na, rfl, hn⟩, _⟩, ⟨b, n2, s2, r2, g2, rfl, hb, ⟨nb, rfl, hn2⟩, _⟩, q⟩ := h
    refine ⟨_, pss_one (ps_ret (pe_cmpR (op_gtT (hu0 hr)) (pe_ix ix_tup (pv 0) pe_int (fun _ _ => rfl)) (pe_ix ix_tup (pv 1) pe_int (fun _ _ => rfl)) (nomark _))), ?_⟩
    refine ⟨_, rfl, a, _, _, _, rfl, rfl, SqT.of ha, rfl, _, rfl, b, _, _, _, rfl, rfl, SqT.of hb, rfl, na, nb, [L.num.1, L.num.2], [M.num.1, M.num.2], rfl, rfl, SqT.of hn, SqT.of hn2, fun k => q k⟩

/-! ### Bridge.stamp -/
def sp_Bs (K : PySem.W.Frag) : Sp := fun vs H Q _ => ∃ a dt dk B, vs = [.ref a] ∧ BrAt K H a dt dk B ∧ ∀ p, H p = none → Q (.ref p) (upd H p (.tup [.int B.life, .int B.ver]))
theorem sc_Bs : FnScope ["self"] ["self"] (defScope s_Bs) := ⟨rfl, rfl, rfl, by decide +kernel, rfl, by decide +kernel, by decide +kernel⟩
theorem ok_Bs (T : Tx K mg) : Cal P w K mg base 1 (He.fAd K ("Bridge", some "stamp")) ["self"] (sp_Bs K) := by
  obtain ⟨fd, F⟩ := T.f_Bs
  refine Cal.mk2 F sc_Bs (fun _ _ _ _ _ _ us hl => match us, hl with | [_], _ => rfl) (fun vs H Q E h => ?_) (fun cdv A outer s H vs Q E hr h => ?_)
  · obtain ⟨a, dt, dk, B, rfl, _⟩ := h
    rfl
  · obtain ⟨a, dt, dk, B, rfl, ⟨⟨dx, sh, ha, _⟩, _⟩, q⟩ := h
    refine ⟨_, pss_one (ps_ret (pe_tup (pa_cons (pe_fld (pv 0) rfl) (pa_cons (pe_fld (pv 0) rfl) pa_nil)))), ?_⟩
    refine ⟨_, rfl, a, _, dx, _, _, rfl, ha, T.clB, T.b_lived, rfl, _, rfl, a, _, dx, _, _, rfl, ha, T.clB, T.b_version, rfl, (by show 2 ≤ sizeLine; decide), q⟩

/-! ### Bridge.end -/
def kS : K4 → Str
  | .down => "down"
  | .shut => "shut"
  | .child => "child"
  | .parent => "parent"
def sp_Be (K : PySem.W.Frag) : Sp := fun vs H Q _ => ∃ a dt dk B p, vs = [.ref a, .int p] ∧ BrAt K H a dt dk B ∧ ∀ H', Same H H' → Q (.str (kS (endOf B p))) H'
theorem sc_Be : FnScope ["self", "place", "letter"] ["self", "place"] (defScope s_Be) := ⟨rfl, rfl, rfl, by decide +kernel, rfl, by decide +kernel, by decide +kernel⟩
theorem ok_Be (T : Tx K mg) : Cal P w K mg base 2 (He.fAd K ("Bridge", some "end")) ["self", "place"] (sp_Be K) := by
  obtain ⟨fd, F⟩ := T.f_Be
  have GS := ok_Bs (P := P) (w := w) (base := base) T
  refine Cal.mk2 F sc_Be (fun _ _ _ _ _ _ us hl => match us, hl with | [_, _], _ => rfl) (fun vs H Q E h => ?_) (fun cdv A outer s H vs Q E hr h => ?_)
  · obtain ⟨a, dt, dk, B, p, rfl, _⟩ := h
    rfl
  · obtain ⟨a, dt, dk, B, p, rfl, hB, q⟩ := h
    have hu := hu_of hr
    obtain ⟨⟨dx, sh, ha, hsh⟩, ⟨kt, hdt, mt⟩, ⟨kk, hdk, mk⟩, hne⟩ := id hB
    refine ⟨_, pss_cons (ps_if (pt_cmp (pc_dnotin hu (pv 1) (pe_fld (pv 0) rfl))) (pss_one (ps_ret pe_str)) pss_nil)
      (pss_cons (ps_if (pt_cmp (pc_dnotin hu (pv 1) (pe_fld (pv 0) rfl))) (pss_one (ps_ret pe_str)) pss_nil)
      (pss_cons (ps_set (i := 2) sc_Be.nd rfl (.inl rfl) (pe_ix ix_tup (pe_dget hu (pe_fld (pv 0) rfl) (pv 1) (fun _ _ => rfl)) pe_int (fun _ _ => rfl)))
      (pss_cons (ps_if (pt_cmpR op_eq (pv 1) (pe_ix ix_tup (pe_fld (pv 0) rfl) pe_int (fun _ _ => rfl)) (nomark _))
        (pss_one (ps_if (PW.pt (pw_and (pt_cmpR (op_eqD hr.units) (pe_ix ix_tup (pv 2) pe_int (fun _ _ => rfl)) (pc_meth0 (pv 0) T.clB T.m_Bs GS hr) (nomark _))
            (pw_and1 (pt_cmpR (op_eqD hr.units) (pe_ix ix_tup (pv 2) pe_int (fun _ _ => rfl)) (pe_ix ix_tup (pe_fld (pv 0) rfl) pe_int (fun _ _ => rfl)) (nomark _)))))
          (pss_one (ps_ret pe_str)) pss_nil))
        (pss_one (ps_if (pt_cmpR (op_eqD hr.units) (pe_ix ix_tup (pv 2) pe_int (fun _ _ => rfl)) (pc_meth0 (pv 0) T.clB T.m_Bs GS hr) (nomark _)) (pss_one (ps_ret pe_str)) pss_nil)))
      (pss_one (ps_ret pe_str))))), ?_⟩
    refine ⟨_, rfl, _, rfl, a, _, dx, _, _, rfl, ha, T.clB, T.b_tied, rfl, dt, _, rfl, DGet.k (k := ik p) hdt, _, rfl, ?_⟩
    cases et : B.tied p with
    | none =>
      rw [mt.none_ et]
      refine iteT ?_
      have e : endOf B p = .down := by unfold endOf; rw [et]
      rw [e] at q
      exact q H (Same.refl H)
    | some x =>
      obtain ⟨vt, hvt, _⟩ := mt.some_ et
      rw [hvt]
      refine iteF ?_
      refine ⟨_, rfl, _, rfl, a, _, dx, _, _, rfl, ha, T.clB, T.b_kept, rfl, dk, _, rfl, DGet.k (k := ik p) hdk, _, rfl, ?_⟩
      cases ek : B.kept p with
      | none =>
        rw [mk.none_ ek]
        refine iteT ?_
        have e : endOf B p = .shut := by unfold endOf; rw [et, ek]
        rw [e] at q
        exact q H (Same.refl H)
      | some z =>
        obtain ⟨Lt, age⟩ := z
        obtain ⟨vk, hvk, tk, lv, rfl, htk, hL⟩ := mk.some_ ek
        obtain ⟨la, ln, ls, lr, lg, rfl, hla, _, hls, hlr, hlg⟩ := id hL
        obtain ⟨sa, sr, rfl, hsa, hsr⟩ := id hsh
        rw [hvk]
        refine iteF ?_
        -- letter = self.kept[place][0]
        refine ⟨_, rfl, a, _, dx, _, _, rfl, ha, T.clB, T.b_kept, rfl, _, rfl, dk, _, rfl, by rw [← hvk]; exact DGet.k (k := ik p) hdk, tk, _, _, _, rfl, rfl, SqT.of htk, rfl, ?_⟩
        -- place == self.shown[2]
        refine ⟨_, rfl, _, rfl, a, _, dx, _, _, rfl, ha, T.clB, T.b_shown, rfl, sa, _, _, _, rfl, rfl, SqT.of hsa, rfl, (by cases B.lbl.up <;> rfl), _, rfl, ?_⟩
        have eup : decide (V.int p = upV B.lbl.up) = decide (B.lbl.up = some p) := by
          cases B.lbl.up with
          | none => simp [upV]
          | some u => simp [upV, eq_comm]
        rw [eup]
        by_cases c1 : B.lbl.up = some p
        · rw [decide_eq_true c1]
          refine iteT ?_
          -- letter[6] == self.stamp()
          refine ⟨_, rfl, la, _, _, _, rfl, rfl, SqT.of hla, rfl, _, rfl, a, dx, _, rfl, ha, rfl, a, dt, dk, B, rfl, hB, fun m hm => ?_⟩
          have s1 : Same H (upd H m (.tup [.int B.life, .int B.ver])) := same_new hm
          have pm : PairAt (upd H m (.tup [.int B.life, .int B.ver])) (.ref m) B.stp := ⟨m, rfl, upd_same⟩
          refine ⟨stpD Lt.agrees, stpD (some B.stp), (hlg.keep (.of s1)).dp, pm.dp, stpD_shaped _, stpD_shaped _, _, rfl, ?_⟩
          rw [stp_eqv]
          by_cases c2 : Lt.agrees = some B.stp
          · rw [decide_eq_true c2]
            refine iteT ?_
            refine ⟨_, rfl, la, _, _, _, rfl, rfl, SqT.of (s1 _ _ hla), rfl, _, rfl, a, _, dx, _, _, rfl, s1 _ _ ha, T.clB, T.b_shown, rfl, sa, _, _, _, rfl, rfl, SqT.of (s1 _ _ hsa), rfl,
              stpD (some Lt.stp), stpD B.lbl.rests, (hls.keep (.of s1)).dp, (hsr.keep (.of s1)).dp, stpD_shaped _, stpD_shaped _, _, rfl, ?_⟩
            rw [stp_eqv]
            by_cases c3 : some Lt.stp = B.lbl.rests
            · rw [decide_eq_true c3]
              refine iteT ?_
              have e : endOf B p = .child := by unfold endOf; rw [et, ek]; simp only; rw [if_pos c1, if_pos ⟨c2, c3.symm⟩]
              rw [e] at q
              exact q _ s1
            · rw [decide_eq_false c3]
              refine iteF ?_
              have e : endOf B p = .shut := by unfold endOf; rw [et, ek]; simp only; rw [if_pos c1, if_neg fun z => c3 z.2.symm]
              rw [e] at q
              exact q _ s1
          · rw [decide_eq_false c2]
            refine iteF ?_
            refine iteF ?_
            have e : endOf B p = .shut := by unfold endOf; rw [et, ek]; simp only; rw [if_pos c1, if_neg fun z => c2 z.1]
            rw [e] at q
            exact q _ s1
        · rw [decide_eq_false c1]
          refine iteF ?_
          refine ⟨_, rfl, la, _, _, _, rfl, rfl, SqT.of hla, rfl, _, rfl, a, dx, _, rfl, ha, rfl, a, dt, dk, B, rfl, hB, fun m hm => ?_⟩
          have s1 : Same H (upd H m (.tup [.int B.life, .int B.ver])) := same_new hm
          have pm : PairAt (upd H m (.tup [.int B.life, .int B.ver])) (.ref m) B.stp := ⟨m, rfl, upd_same⟩
          refine ⟨stpD Lt.rests, stpD (some B.stp), (hlr.keep (.of s1)).dp, pm.dp, stpD_shaped _, stpD_shaped _, _, rfl, ?_⟩
          rw [stp_eqv]
          by_cases c2 : Lt.rests = some B.stp
          · rw [decide_eq_true c2]
            refine iteT ?_
            have e : endOf B p = .parent := by unfold endOf; rw [et, ek]; simp only; rw [if_neg c1, if_pos c2]
            rw [e] at q
            exact q _ s1
          · rw [decide_eq_false c2]
            refine iteF ?_
            have e : endOf B p = .shut := by unfold endOf; rw [et, ek]; simp only; rw [if_neg c1, if_neg c2]
            rw [e] at q
            exact q _ s1
end
end Sw

/-! Sw: the walk of hear, up, down. -/
namespace Sw
open PySem PySem.Spec PyProof.Rows L2
section
variable {P : Program} {w : World} {K : PySem.W.Frag} {mg : Str → Option Value} {base : Heap}
theorem small16 {n : Nat} (h : n ≤ 16) : n < sizeLine := Nat.lt_of_le_of_lt h (by decide)
theorem Br.Ok.kfew {B : Br} (o : B.Ok) : ∀ p x, B.kept p = some x → 0 ≤ p ∧ p < (16 : Nat) := fun p x h => by
  obtain ⟨y, hy⟩ := o.sub p x h
  exact o.few p y hy

/-! ### Bridge.hear -/
def sp_Bh (K : PySem.W.Frag) : Sp := fun vs H Q _ => ∃ a dt dk B p lv Xl, vs = [.ref a, .int p, lv] ∧ BrAt K H a dt dk B ∧ B.Ok ∧ LtrAt H lv Xl ∧
  ∀ B' H', (B' = B ∨ ((∃ x, B.tied p = some x) ∧ B' = { B with kept := setAt B.kept p (some (Xl, Xl.age)) })) → BrAt K H' a dt dk B' → (∀ b o, H b = some o → b ≠ dk → H' b = some o) → Q .non H'
theorem sc_Bh : FnScope ["self", "place", "letter"] ["self", "place", "letter"] (defScope s_Bh) := ⟨rfl, rfl, rfl, by decide +kernel, rfl, by decide +kernel, by decide +kernel⟩
theorem ok_Bh (T : Tx K mg) : Cal P w K mg base 2 (He.fAd K ("Bridge", some "hear")) ["self", "place", "letter"] (sp_Bh K) := by
  obtain ⟨fd, F⟩ := T.f_Bh
  have GN := ok_nw (P := P) (w := w) (base := base) T
  refine Cal.mk2 F sc_Bh (fun _ _ _ _ _ _ us hl => match us, hl with | [_, _, _], _ => rfl) (fun vs H Q E h => ?_) (fun cdv A outer s H vs Q E hr h => ?_)
  · obtain ⟨a, dt, dk, B, p, lv, Xl, rfl, _⟩ := h
    rfl
  · obtain ⟨a, dt, dk, B, p, lv, Xl, rfl, hB, ok, hX, q⟩ := h
    have hu := hu_of hr
    obtain ⟨⟨dx, sh, ha, hsh⟩, ⟨kt, hdt, mt⟩, ⟨kk, hdk, mk⟩, hne⟩ := id hB
    refine ⟨_, pss_one (ps_if (pt_cmp (pc_din hu (pv 1) (pe_fld (pv 0) rfl)))
      (pss_one (ps_if (PW.pt (pw_or (pt_cmp (pc_dnotin hu (pv 1) (pe_fld (pv 0) rfl))) (pw_or1 (pt_val (pc_call GN hr rfl T.g_nw (pa_cons (pv 2) (pa_cons (pe_ix ix_tup (pe_dget hu (pe_fld (pv 0) rfl) (pv 1) (fun _ _ => rfl)) pe_int (fun _ _ => rfl)) pa_nil)))))))
        (pss_one (ps_dput hu (pe_fld (pv 0) rfl) (pv 1) (pe_tup (pa_cons (pv 2) (pa_cons (pe_ix ix_tup (pv 2) pe_int (fun _ _ => rfl)) pa_nil))) rfl)) pss_nil)) pss_nil), ?_⟩
    refine ⟨_, rfl, _, rfl, a, _, dx, _, _, rfl, ha, T.clB, T.b_tied, rfl, dt, _, rfl, DGet.k (k := ik p) hdt, _, rfl, ?_⟩
    cases et : B.tied p with
    | none =>
      rw [mt.none_ et]
      refine iteF ?_
      exact q B H (.inl rfl) hB fun b o e _ => e
    | some x =>
      obtain ⟨vt, hvt, _⟩ := mt.some_ et
      rw [hvt]
      refine iteT ?_
      have lk : kk.length ≤ 16 := mk.few_to 16 ok.kfew
      obtain ⟨la, ln, ls, lr, lg, rfl, hla, _⟩ := id hX
      -- the store
      have store : ∀ (D : Ends) (hD : ∀ σ' H', D.nx σ' H' = Q .non H'), (sDPut (tFld K (tVar 0) "kept") (tVar 1) (tTup (tCons (tVar 2) (tCons (tOp (rIxT K) (tVar 2) (tC (.int 4))) tNil)))) D [some (.ref a), some (.int p), some (.ref la)] H := fun D hD => by
        refine ⟨_, rfl, _, rfl, la, _, _, _, rfl, rfl, SqT.of hla, rfl, (by show 2 ≤ sizeLine; decide), fun m hm => ?_⟩
        have s1 : Same H (upd H m (.tup [.ref la, .int Xl.age])) := same_new hm
        refine ⟨_, rfl, a, _, dx, _, _, rfl, s1 _ _ ha, T.clB, T.b_kept, rfl, _, rfl, dk, _, rfl, DPut.k (k := ik p) (s1 _ _ hdk) (small16 lk), ?_⟩
        rw [hD]
        have t2 : TupK (upd H m (.tup [.ref la, .int Xl.age])) (upd (upd H m (.tup [.ref la, .int Xl.age])) dk (.dK (putK kk (ik p) (.ref m)))) := tupK_upd fun xs e => by rw [s1 _ _ hdk] at e; cases e
        have t1 := (TupK.of s1).trans t2
        have fr : ∀ b o, H b = some o → b ≠ dk → (upd (upd H m (.tup [.ref la, .int Xl.age])) dk (.dK (putK kk (ik p) (.ref m)))) b = some o := fun b o e n => by rw [upd_ne n]; exact s1 b o e
        refine q _ _ (.inr ⟨⟨x, et⟩, rfl⟩) ⟨⟨dx, sh, fr _ _ ha (hB.nak), hsh.keep t1⟩, ⟨kt, fr _ _ hdt hne, mt.imp fun _ _ _ _ r => r.keep t1⟩, ⟨_, upd_same, (mk.imp fun _ _ _ _ r => r.keep t1).put ⟨m, .ref la, rfl, ?_, hX.keep t1⟩⟩, hne⟩ fr
        have mne : m ≠ dk := fun z => by rw [z, hdk] at hm; cases hm
        rw [upd_ne mne]; exact upd_same
      refine ⟨_, rfl, _, rfl, a, _, dx, _, _, rfl, ha, T.clB, T.b_kept, rfl, dk, _, rfl, DGet.k (k := ik p) hdk, _, rfl, ?_⟩
      cases ek : B.kept p with
      | none =>
        rw [mk.none_ ek]
        refine iteT ?_
        refine iteT ?_
        exact store _ fun _ _ => rfl
      | some z =>
        obtain ⟨Lt, age⟩ := z
        obtain ⟨vk, hvk, tk, lv, rfl, htk, hL⟩ := mk.some_ ek
        rw [hvk]
        refine iteF ?_
        refine ⟨_, rfl, _, rfl, a, _, dx, _, _, rfl, ha, T.clB, T.b_kept, rfl, _, rfl, dk, _, rfl, by rw [← hvk]; exact DGet.k (k := ik p) hdk, tk, _, _, _, rfl, rfl, SqT.of htk, rfl, _, _, Xl, Lt, rfl, hX, hL, fun k => ⟨_, rfl, ?_⟩⟩
        cases k with
        | true => exact iteT (store _ fun _ _ => rfl)
        | false => exact iteF (q B H (.inl rfl) hB fun b o e _ => e)

/-! ### Bridge.up -/
def sp_Bu (K : PySem.W.Frag) : Sp := fun vs H Q _ => ∃ a dt dk B p c k, vs = [.ref a, .int p, .int c, .int k] ∧ BrAt K H a dt dk B ∧ B.Ok ∧
  ∀ H', BrAt K H' a dt dk (B.upAt p c k) → (∀ b o, H b = some o → b ≠ dt → H' b = some o) → Q .non H'
theorem sc_Bu : FnScope ["self", "place", "neighbour", "cost"] ["self", "place", "neighbour", "cost"] (defScope s_Bu) := ⟨rfl, rfl, rfl, by decide +kernel, rfl, by decide +kernel, by decide +kernel⟩
theorem ok_Bu (T : Tx K mg) : Cal P w K mg base 1 (He.fAd K ("Bridge", some "up")) ["self", "place", "neighbour", "cost"] (sp_Bu K) := by
  obtain ⟨fd, F⟩ := T.f_Bu
  refine Cal.mk2 F sc_Bu (fun _ _ _ _ _ _ us hl => match us, hl with | [_, _, _, _], _ => rfl) (fun vs H Q E h => ?_) (fun cdv A outer s H vs Q E hr h => ?_)
  · obtain ⟨a, dt, dk, B, p, c, k, rfl, _⟩ := h
    rfl
  · obtain ⟨a, dt, dk, B, p, c, k, rfl, hB, ok, q⟩ := h
    have hu := hu_of hr
    obtain ⟨⟨dx, sh, ha, hsh⟩, ⟨kt, hdt, mt⟩, ⟨kk, hdk, mk⟩, hne⟩ := id hB
    refine ⟨_, pss_one (ps_if (pt_cmp (pc_dnotin hu (pv 1) (pe_fld (pv 0) rfl))) (pss_one (ps_dput hu (pe_fld (pv 0) rfl) (pv 1) (pe_tup (pa_cons (pv 2) (pa_cons (pv 3) pa_nil))) rfl)) pss_nil), ?_⟩
    refine ⟨_, rfl, _, rfl, a, _, dx, _, _, rfl, ha, T.clB, T.b_tied, rfl, dt, _, rfl, DGet.k (k := ik p) hdt, _, rfl, ?_⟩
    cases et : B.tied p with
    | some x =>
      obtain ⟨vt, hvt, _⟩ := mt.some_ et
      rw [hvt]
      refine iteF ?_
      have e : B.upAt p c k = B := by unfold Br.upAt; rw [et]
      rw [e] at q
      exact q H hB fun b o e _ => e
    | none =>
      rw [mt.none_ et]
      refine iteT ?_
      have e : B.upAt p c k = { B with tied := setAt B.tied p (some (c, k)) } := by unfold Br.upAt; rw [et]
      rw [e] at q
      refine ⟨_, rfl, _, rfl, (by show 2 ≤ sizeLine; decide), fun m hm => ?_⟩
      have s1 : Same H (upd H m (.tup [.int c, .int k])) := same_new hm
      have lk : kt.length ≤ 16 := mt.few_to 16 ok.few
      refine ⟨_, rfl, a, _, dx, _, _, rfl, s1 _ _ ha, T.clB, T.b_tied, rfl, _, rfl, dt, _, rfl, DPut.k (k := ik p) (s1 _ _ hdt) (small16 lk), ?_⟩
      have t2 : TupK (upd H m (.tup [.int c, .int k])) (upd (upd H m (.tup [.int c, .int k])) dt (.dK (putK kt (ik p) (.ref m)))) := tupK_upd fun xs e => by rw [s1 _ _ hdt] at e; cases e
      have t1 := (TupK.of s1).trans t2
      have fr : ∀ b o, H b = some o → b ≠ dt → (upd (upd H m (.tup [.int c, .int k])) dt (.dK (putK kt (ik p) (.ref m)))) b = some o := fun b o e n => by rw [upd_ne n]; exact s1 b o e
      refine q _ ⟨⟨dx, sh, fr _ _ ha hB.nat, hsh.keep t1⟩, ⟨_, upd_same, (mt.imp fun _ _ _ _ r => r.keep t1).put ⟨m, rfl, ?_⟩⟩, ⟨kk, fr _ _ hdk (Ne.symm hne), mk.imp fun _ _ _ _ r => r.keep t1⟩, hne⟩ fr
      have mne : m ≠ dt := fun z => by rw [z, hdt] at hm; cases hm
      rw [upd_ne mne]; exact upd_same

/-! ### Bridge.down -/
def sp_Bd (K : PySem.W.Frag) : Sp := fun vs H Q _ => ∃ a dt dk B p, vs = [.ref a, .int p] ∧ BrAt K H a dt dk B ∧
  ∀ H', BrAt K H' a dt dk (B.downAt p) → (∀ b o, H b = some o → b ≠ dt → b ≠ dk → H' b = some o) → Q .non H'
theorem sc_Bd : FnScope ["self", "place"] ["self", "place"] (defScope s_Bd) := ⟨rfl, rfl, rfl, by decide +kernel, rfl, by decide +kernel, by decide +kernel⟩
theorem ok_Bd (T : Tx K mg) : Cal P w K mg base 1 (He.fAd K ("Bridge", some "down")) ["self", "place"] (sp_Bd K) := by
  obtain ⟨fd, F⟩ := T.f_Bd
  refine Cal.mk2 F sc_Bd (fun _ _ _ _ _ _ us hl => match us, hl with | [_, _], _ => rfl) (fun vs H Q E h => ?_) (fun cdv A outer s H vs Q E hr h => ?_)
  · obtain ⟨a, dt, dk, B, p, rfl, _⟩ := h
    rfl
  · obtain ⟨a, dt, dk, B, p, rfl, hB, q⟩ := h
    have hu := hu_of hr
    obtain ⟨⟨dx, sh, ha, hsh⟩, ⟨kt, hdt, mt⟩, ⟨kk, hdk, mk⟩, hne⟩ := id hB
    refine ⟨_, pss_cutS (ps_if (pt_cmp (pc_din hu (pv 1) (pe_fld (pv 0) rfl))) (pss_one (ps_expr (pe_dpop1 (pe_fld (pv 0) rfl) (pv 1) ⟨rfl, rfl, rfl, rfl⟩))) pss_nil)
      (pss_one (ps_if (pt_cmp (pc_din hu (pv 1) (pe_fld (pv 0) rfl))) (pss_one (ps_expr (pe_dpop1 (pe_fld (pv 0) rfl) (pv 1) ⟨rfl, rfl, rfl, rfl⟩))) pss_nil)), ?_⟩
    refine ⟨fun σ' H' => σ' = start ["self", "place"] [.ref a, .int p] ∧ BrAt K H' a dt dk { B with tied := setAt B.tied p none } ∧ (∀ b o, H b = some o → b ≠ dt → H' b = some o), ?_, ?_⟩
    · refine ⟨_, rfl, _, rfl, a, _, dx, _, _, rfl, ha, T.clB, T.b_tied, rfl, dt, _, rfl, DGet.k (k := ik p) hdt, _, rfl, ?_⟩
      cases et : B.tied p with
      | none =>
        rw [mt.none_ et]
        refine iteF ?_
        exact ⟨rfl, ⟨⟨dx, sh, ha, hsh⟩, ⟨kt, hdt, mt.drop_none et⟩, ⟨kk, hdk, mk⟩, hne⟩, fun b o e _ => e⟩
      | some x =>
        obtain ⟨vt, hvt, _⟩ := mt.some_ et
        rw [hvt]
        refine iteT ?_
        have t1 : TupK H (upd H dt (.dK (dropK kt (ik p)))) := tupK_upd fun xs e => by rw [hdt] at e; cases e
        have fr : ∀ b o, H b = some o → b ≠ dt → (upd H dt (.dK (dropK kt (ik p)))) b = some o := fun b o e n => by rw [upd_ne n]; exact e
        refine ⟨_, rfl, a, _, dx, _, _, rfl, ha, T.clB, T.b_tied, rfl, dt, rfl, .inl ⟨kt, .inl hdt⟩, _, rfl, kt, ik p, vt, hdt, rfl, hvt, ?_⟩
        exact ⟨rfl, ⟨⟨dx, sh, fr _ _ ha hB.nat, hsh.keep t1⟩, ⟨_, upd_same, (mt.imp fun _ _ _ _ r => r.keep t1).drop p⟩, ⟨kk, fr _ _ hdk (Ne.symm hne), mk.imp fun _ _ _ _ r => r.keep t1⟩, hne⟩, fr⟩
    · rintro σ' H1 ⟨rfl, hB1, fr1⟩
      obtain ⟨⟨dx, sh, ha, hsh⟩, ⟨kt, hdt, mt⟩, ⟨kk, hdk, mk⟩, hne⟩ := id hB1
      refine ⟨_, rfl, _, rfl, a, _, dx, _, _, rfl, ha, T.clB, T.b_kept, rfl, dk, _, rfl, DGet.k (k := ik p) hdk, _, rfl, ?_⟩
      cases ek : B.kept p with
      | none =>
        rw [mk.none_ (p := p) ek]
        refine iteF ?_
        exact q H1 ⟨⟨dx, sh, ha, hsh⟩, ⟨kt, hdt, mt⟩, ⟨kk, hdk, mk.drop_none ek⟩, hne⟩ fun b o e n _ => fr1 b o e n
      | some x =>
        obtain ⟨vk, hvk, _⟩ := mk.some_ (p := p) ek
        rw [hvk]
        refine iteT ?_
        have t1 : TupK H1 (upd H1 dk (.dK (dropK kk (ik p)))) := tupK_upd fun xs e => by rw [hdk] at e; cases e
        have fr : ∀ b o, H1 b = some o → b ≠ dk → (upd H1 dk (.dK (dropK kk (ik p)))) b = some o := fun b o e n => by rw [upd_ne n]; exact e
        refine ⟨_, rfl, a, _, dx, _, _, rfl, ha, T.clB, T.b_kept, rfl, dk, rfl, .inl ⟨kk, .inl hdk⟩, _, rfl, kk, ik p, vk, hdk, rfl, hvk, ?_⟩
        exact q _ ⟨⟨dx, sh, fr _ _ ha hB1.nak, hsh.keep t1⟩, ⟨kt, fr _ _ hdt hne, mt.imp fun _ _ _ _ r => r.keep t1⟩, ⟨_, upd_same, (mk.imp fun _ _ _ _ r => r.keep t1).drop p⟩, hne⟩ fun b o e n m => fr b o (fr1 b o e n) m
end
end Sw

/-! Sw: the walk of grow_older, least_label. -/
namespace Sw
open PySem PySem.Spec PyProof.Rows L2
section
variable {P : Program} {w : World} {K : PySem.W.Frag} {mg : Str → Option Value} {base : Heap}
/-- held letters that are left, with any ages -/
def Left (k k' : Int → Option (Ltr × Int)) : Prop := ∀ p X a', k' p = some (X, a') → ∃ a, k p = some (X, a)

/-! ### Bridge.grow_older -/
def sp_Bg (K : PySem.W.Frag) : Sp := fun vs H Q _ => ∃ a dt dk B, vs = [.ref a] ∧ BrAt K H a dt dk B ∧ B.Ok ∧
  ∀ dk' k' H', H dk' = none → Left B.kept k' → BrAt K H' a dt dk' { B with kept := k' } → (∀ b o, H b = some o → b ≠ a → H' b = some o) → Q .non H'
theorem sc_Bg : FnScope ["self", "left", "place", "letter", "age"] ["self"] (defScope s_Bg) := ⟨rfl, rfl, rfl, by decide +kernel, rfl, by decide +kernel, by decide +kernel⟩
theorem ok_Bg (T : Tx K mg) : Cal P w K mg base 1 (He.fAd K ("Bridge", some "grow_older")) ["self"] (sp_Bg K) := by
  obtain ⟨fd, F⟩ := T.f_Bg
  refine Cal.mk2 F sc_Bg (fun _ _ _ _ _ _ us hl => match us, hl with | [_], _ => rfl) (fun vs H Q E h => ?_) (fun cdv A outer s H vs Q E hr h => ?_)
  · obtain ⟨a, dt, dk, B, rfl, _⟩ := h
    rfl
  · obtain ⟨a, dt, dk, B, rfl, hB, ok, q⟩ := h
    have hu := hu_of hr
    obtain ⟨⟨dx, sh, ha, hsh⟩, ⟨kt, hdt, mt⟩, ⟨kk, hdk, mk⟩, hne⟩ := id hB
    refine ⟨_, pss_cons (ps_set (i := 1) sc_Bg.nd rfl (.inl rfl) pe_dnewK)
      (pss_cons (ps_lock (ps_for PassesOwn.never rfl (pi_items (pe_fld (pv 0) rfl)) (pg_tup rfl (pgs_cons (pg_name (i := 2) sc_Bg.nd rfl (.inl rfl)) (pgs_cons (pg_tup rfl (pgs_cons (pg_name (i := 3) sc_Bg.nd rfl (.inl rfl)) (pgs_cons (pg_name (i := 4) sc_Bg.nd rfl (.inl rfl)) pgs_nil))) pgs_nil)))
        (pss_one (ps_if (pt_cmpR op_lt (pe_op op_add (pv 4) pe_int) (pe_fld (pv 0) rfl) (nomark _)) (pss_one (ps_dput hu (pv 1) (pv 2) (pe_tup (pa_cons (pv 3) (pa_cons (pe_op op_add (pv 4) pe_int) pa_nil))) rfl)) pss_nil))))
      (pss_one (ps_fld (pv 0) (pv 1) rfl))), ?_⟩
    -- left = {}
    intro l hl
    have s1 : Same H (upd H l (.dK [])) := same_new hl
    have lne : l ≠ dk := fun z => by rw [z, hdk] at hl; cases hl
    refine ⟨dk, .dK kk, s1 _ _ hdk, True.intro, fun od => ?_⟩
    have hfz : ∀ b o, H b = some o → b ≠ dk → (upd (upd H l (.dK [])) dk (.frz od (.dK kk))) b = some o := fun b o e n => by rw [upd_ne n]; exact s1 b o e
    refine ⟨_, rfl, a, _, dx, _, _, rfl, hfz _ _ ha hB.nak, T.clB, T.b_kept, rfl, dk, od, kk, rfl, upd_same,
      for_items (fun i σ H2 => (∃ x2 x3 x4, σ = [some (.ref a), some (.ref l), x2, x3, x4]) ∧ (∀ b o, H b = some o → b ≠ dk → H2 b = some o) ∧ H2 dk = some (.frz od (.dK kk)) ∧ ∃ kl m', H2 l = some (.dK kl) ∧ MapAt (fun _ => KeptV H2) kl m' ∧ Left B.kept m')
        ⟨⟨none, none, none, rfl⟩, hfz, upd_same, [], fun _ => none, by rw [upd_ne lne, upd_same], MapAt.empty, fun _ _ _ e => by cases e⟩ (fun i σ H2 _ h => h.2.2.1) ?_ ?_⟩
    · rintro i k v σ H2 tp hi ⟨⟨x2, x3, x4, rfl⟩, fr, hfk, kl, m', hkl, ml, lf⟩ htp
      obtain ⟨p, ⟨Xl, ag⟩, rfl, hk, c, lv, rfl, hc, hX⟩ := mk.mem (List.mem_of_getElem? hi)
      have cne : c ≠ dk := fun z => by rw [z, hdk] at hc; cases hc
      have s2 : Same H2 (upd H2 tp (.tup [kV (ik p), .ref c])) := same_new htp
      have hc2 := s2 _ _ (fr _ _ hc cne)
      refine ⟨tp, _, rfl, SqT.of upd_same, rfl, _, _, rfl, _, _, rfl, c, _, rfl, SqT.of hc2, rfl, _, _, rfl, _, _, rfl, rfl, rfl, ?_⟩
      -- if age + 1 < self.most
      refine ⟨_, rfl, _, _, rfl, rfl, _, rfl, a, _, dx, _, _, rfl, s2 _ _ (fr _ _ ha hB.nak), T.clB, T.b_most, rfl, _, _, rfl, rfl, _, rfl, ?_⟩
      have tup0 : TupK H H2 := fun b xs e => fr b _ e fun z => by rw [z, hdk] at e; cases e
      refine ite2 (fun _ => ?_) (fun _ => ?_)
      · -- left[place] = (letter, age + 1)
        refine ⟨_, rfl, _, rfl, _, _, rfl, rfl, (by show 2 ≤ sizeLine; decide), fun n hn => ?_⟩
        have s3 := s2.trans (same_new (o := .tup [lv, .int (ag + 1)]) hn)
        have lk : kl.length ≤ 16 := ml.few_to 16 fun p x e => by
          obtain ⟨X1, a1⟩ := x
          obtain ⟨a2, e2⟩ := lf p X1 a1 e
          exact ok.kfew p _ e2
        refine ⟨_, rfl, _, rfl, l, _, rfl, DPut.k (k := ik p) (s3 _ _ hkl) (small16 lk), ?_⟩
        have t2 : TupK (upd (upd H2 tp (.tup [kV (ik p), .ref c])) n (.tup [lv, .int (ag + 1)])) (upd (upd (upd H2 tp (.tup [kV (ik p), .ref c])) n (.tup [lv, .int (ag + 1)])) l (.dK (putK kl (ik p) (.ref n)))) := tupK_upd fun xs e => by rw [s3 _ _ hkl] at e; cases e
        have t1 := (TupK.of s3).trans t2
        have nne : n ≠ l := fun z => by rw [z, s2 _ _ hkl] at hn; cases hn
        refine ⟨⟨_, _, _, rfl⟩, fun b o e nb => ?_, ?_, _, _, upd_same, (ml.imp fun _ _ _ _ r => r.keep t1).put (x := (Xl, ag + 1)) ⟨n, lv, rfl, by rw [upd_ne nne, upd_same], hX.keep (tup0.trans t1)⟩, fun p2 X2 a2 e2 => ?_⟩
        · have bl : b ≠ l := fun z => by rw [z, hl] at e; cases e
          rw [upd_ne bl]; exact s3 _ _ (fr b o e nb)
        · rw [upd_ne lne.symm]; exact s3 _ _ hfk
        · by_cases ep : p2 = p
          · subst ep
            rw [setAt_same] at e2
            cases e2
            exact ⟨ag, hk⟩
          · rw [setAt_ne ep] at e2
            exact lf p2 X2 a2 e2
      · exact ⟨⟨_, _, _, rfl⟩, fun b o e nb => s2 _ _ (fr b o e nb), s2 _ _ hfk, kl, m', s2 _ _ hkl, ml.imp fun _ _ _ _ r => r.keep (.of s2), lf⟩
    · rintro σ H2 ⟨⟨x2, x3, x4, rfl⟩, fr, hfk, kl, m', hkl, ml, lf⟩
      refine ⟨hfk, ?_⟩
      -- self.kept = left
      have t2 : TupK H2 (upd H2 dk (.dK kk)) := tupK_upd fun xs e => by rw [hfk] at e; cases e
      have fr2 : ∀ b o, H b = some o → (upd H2 dk (.dK kk)) b = some o := fun b o e => by
        by_cases z : b = dk
        · subst z; rw [upd_same, ← hdk]; exact e
        · rw [upd_ne z]; exact fr b o e z
      refine ⟨_, rfl, _, rfl, a, _, dx, _, rfl, fr2 _ _ ha, T.clB, T.b_kept, bf_len, ?_⟩
      have t3 : TupK (upd H2 dk (.dK kk)) (upd (upd H2 dk (.dK kk)) a (.ins (CB K) dx (bfs B dt l sh))) := tupK_upd fun xs e => by rw [fr2 _ _ ha] at e; cases e
      have t1 : TupK H (upd (upd H2 dk (.dK kk)) a (.ins (CB K) dx (bfs B dt l sh))) := (TupK.of fr2).trans t3
      have ale : l ≠ a := fun z => by rw [z, ha] at hl; cases hl
      refine q l m' _ hl lf ⟨⟨dx, sh, by rw [bp_kept]; exact upd_same, hsh.keep t1⟩, ⟨kt, ?_, mt.imp fun _ _ _ _ r => r.keep t1⟩, ⟨kl, ?_, ml.imp fun _ _ _ _ r => r.keep (t2.trans t3)⟩, fun z => by rw [← z, hdt] at hl; cases hl⟩ fun b o e n => ?_
      · rw [upd_ne (Ne.symm hB.nat)]; exact fr2 _ _ hdt
      · rw [upd_ne ale, upd_ne lne]; exact hkl
      · rw [upd_ne n]; exact fr2 _ _ e
end
end Sw

/-! Sw: the walk of least_label. -/
namespace Sw
open PySem PySem.Spec PyProof.Rows L2
section
variable {P : Program} {w : World} {K : PySem.W.Frag} {mg : Str → Option Value} {base : Heap}
/-- a label that itself or a held letter gives -/
def Gives (B : Br) (l : Lbl) : Prop := l = ⟨B.own, 0, none, none⟩ ∨ ∃ p X a c k, B.kept p = some (X, a) ∧ B.tied p = some (c, k) ∧ l = ⟨X.root, X.cost + k, some p, some X.stp⟩
def sp_Bl (K : PySem.W.Frag) : Sp := fun vs H Q _ => ∃ a dt dk B, vs = [.ref a] ∧ BrAt K H a dt dk B ∧ B.Ok ∧ ∀ v l H', Same H H' → LblAt H' v l → Gives B l → Q v H'
theorem sc_Bl : FnScope ["self", "best", "found", "place", "letter", "age", "neighbour", "cost", "rank"] ["self"] (defScope s_Bl) := ⟨rfl, rfl, rfl, by decide +kernel, rfl, by decide +kernel, by decide +kernel⟩
theorem ok_Bl (T : Tx K mg) : Cal P w K mg base 1 (He.fAd K ("Bridge", some "least_label")) ["self"] (sp_Bl K) := by
  obtain ⟨fd, F⟩ := T.f_Bl
  refine Cal.mk2 F sc_Bl (fun _ _ _ _ _ _ us hl => match us, hl with | [_], _ => rfl) (fun vs H Q E h => ?_) (fun cdv A outer s H vs Q E hr h => ?_)
  · obtain ⟨a, dt, dk, B, rfl, _⟩ := h
    rfl
  · obtain ⟨a, dt, dk, B, rfl, hB, ok, q⟩ := h
    have hu := hu_of hr
    obtain ⟨⟨dx, sh, ha, hsh⟩, ⟨kt, hdt, mt⟩, ⟨kk, hdk, mk⟩, hne⟩ := id hB
    refine ⟨_, pss_cons (ps_set (i := 1) sc_Bl.nd rfl (.inl rfl) (pe_tup (pa_cons (pe_fld (pv 0) rfl) (pa_cons pe_int (pa_cons (pe_un un_neg pe_int) (pa_cons (pe_un un_neg pe_int) pa_nil))))))
      (pss_cons (ps_set (i := 2) sc_Bl.nd rfl (.inl rfl) (pe_tup (pa_cons (pe_fld (pv 0) rfl) (pa_cons pe_int (pa_cons pe_non (pa_cons pe_non pa_nil))))))
      (pss_cons (ps_lock (ps_for PassesOwn.never rfl (pi_items (pe_fld (pv 0) rfl)) (pg_tup rfl (pgs_cons (pg_name (i := 3) sc_Bl.nd rfl (.inl rfl)) (pgs_cons (pg_tup rfl (pgs_cons (pg_name (i := 4) sc_Bl.nd rfl (.inl rfl)) (pgs_cons (pg_name (i := 5) sc_Bl.nd rfl (.inl rfl)) pgs_nil))) pgs_nil)))
        (pss_cons (ps_asg (pe_dget hu (pe_fld (pv 0) rfl) (pv 3) (fun _ _ => rfl)) (pg_tup rfl (pgs_cons (pg_name (i := 6) sc_Bl.nd rfl (.inl rfl)) (pgs_cons (pg_name (i := 7) sc_Bl.nd rfl (.inl rfl)) pgs_nil))))
        (pss_cons (ps_set (i := 8) sc_Bl.nd rfl (.inl rfl) (pe_tup (pa_cons (pe_ix ix_tup (pv 4) pe_int (fun _ _ => rfl)) (pa_cons (pe_op op_add (pe_ix ix_tup (pv 4) pe_int (fun _ _ => rfl)) (pv 7)) (pa_cons (pv 6) (pa_cons (pv 3) pa_nil))))))
        (pss_one (ps_if (pt_cmpR (op_ltT hr.units0) (pv 8) (pv 1) (nomark _))
          (pss_cons (ps_set (i := 1) sc_Bl.nd rfl (.inl rfl) (pv 8))
          (pss_one (ps_set (i := 2) sc_Bl.nd rfl (.inl rfl) (pe_tup (pa_cons (pe_ix ix_tup (pv 8) pe_int (fun _ _ => rfl)) (pa_cons (pe_ix ix_tup (pv 8) pe_int (fun _ _ => rfl)) (pa_cons (pv 3) (pa_cons (pe_ix ix_tup (pv 4) pe_int (fun _ _ => rfl)) pa_nil))))))))
          pss_nil))))))
      (pss_one (ps_ret (pv 2))))), ?_⟩
    -- best, found
    refine ⟨_, rfl, a, _, dx, _, _, rfl, ha, T.clB, T.b_own, rfl, _, rfl, _, rfl, (by show 4 ≤ sizeLine; decide), fun b1 hb1 => ?_⟩
    have s1 := same_new (o := .tup [.int B.own, .int 0, .int (-1), .int (-1)]) hb1
    refine ⟨_, rfl, a, _, dx, _, _, rfl, s1 _ _ ha, T.clB, T.b_own, rfl, (by show 4 ≤ sizeLine; decide), fun f1 hf1 => ?_⟩
    have s2 := s1.trans (same_new (o := .tup [.int B.own, .int 0, .non, .non]) hf1)
    have hb2 : (upd (upd H b1 (.tup [.int B.own, .int 0, .int (-1), .int (-1)])) f1 (.tup [.int B.own, .int 0, .non, .non])) b1 = some (.tup [.int B.own, .int 0, .int (-1), .int (-1)]) := same_new hf1 _ _ upd_same
    refine ⟨dk, .dK kk, s2 _ _ hdk, True.intro, fun od => ?_⟩
    have hfz : ∀ b o, H b = some o → b ≠ dk → (upd (upd (upd H b1 (.tup [.int B.own, .int 0, .int (-1), .int (-1)])) f1 (.tup [.int B.own, .int 0, .non, .non])) dk (.frz od (.dK kk))) b = some o := fun b o e n => by rw [upd_ne n]; exact s2 b o e
    have bne : b1 ≠ dk := fun z => by rw [z, hdk] at hb1; cases hb1
    have fne : f1 ≠ dk := fun z => by rw [z, s1 _ _ hdk] at hf1; cases hf1
    refine ⟨_, rfl, a, _, dx, _, _, rfl, hfz _ _ ha hB.nak, T.clB, T.b_kept, rfl, dk, od, kk, rfl, upd_same,
      for_items (fun i σ H2 => ∃ vb vf is l x3 x4 x5 x6 x7 x8, σ = [some (.ref a), some (.ref vb), some vf, x3, x4, x5, x6, x7, x8] ∧ H2 vb = some (.tup (is.map V.int)) ∧ LblAt H2 vf l ∧ Gives B l ∧ (∀ b o, H b = some o → b ≠ dk → H2 b = some o) ∧ H2 dk = some (.frz od (.dK kk)))
        ⟨b1, .ref f1, [B.own, 0, -1, -1], ⟨B.own, 0, none, none⟩, none, none, none, none, none, none, rfl, by rw [upd_ne bne]; exact hb2, ⟨f1, .non, rfl, by rw [upd_ne fne]; exact upd_same, rfl⟩, .inl rfl, hfz, upd_same⟩ (fun i σ H2 _ h => by obtain ⟨_, _, _, _, _, _, _, _, _, _, _, _, _, _, _, h⟩ := h; exact h) ?_ ?_⟩
    · rintro i k v σ H2 tp hi ⟨vb, vf, is, l, x3, x4, x5, x6, x7, x8, rfl, hvb, hvf, hg, fr, hfk⟩ htp
      obtain ⟨p, ⟨Xl, ag⟩, rfl, hk, c, lv, rfl, hc, hX⟩ := mk.mem (List.mem_of_getElem? hi)
      obtain ⟨⟨nb, co⟩, ht⟩ := ok.sub p _ hk
      obtain ⟨vt, hvt, ta, rfl, hta⟩ := mt.some_ ht
      have cne : c ≠ dk := fun z => by rw [z, hdk] at hc; cases hc
      have tne : ta ≠ dk := fun z => by rw [z, hdk] at hta; cases hta
      have tup0 : TupK H H2 := fun b xs e => fr b _ e fun z => by rw [z, hdk] at e; cases e
      have s3 : Same H2 (upd H2 tp (.tup [kV (ik p), .ref c])) := same_new htp
      refine ⟨tp, _, rfl, SqT.of upd_same, rfl, _, _, rfl, _, _, rfl, c, _, rfl, SqT.of (s3 _ _ (fr _ _ hc cne)), rfl, _, _, rfl, _, _, rfl, rfl, rfl, ?_⟩
      -- neighbour, cost = self.tied[place]
      refine ⟨_, rfl, a, _, dx, _, _, rfl, s3 _ _ (fr _ _ ha hB.nak), T.clB, T.b_tied, rfl, _, rfl, dt, _, rfl, by rw [← hvt]; exact DGet.k (k := ik p) (s3 _ _ (fr _ _ hdt hne)), ta, _, rfl, SqT.of (s3 _ _ (fr _ _ hta tne)), rfl, _, _, rfl, _, _, rfl, rfl, ?_⟩
      -- rank
      have hX3 : LtrAt (upd H2 tp (.tup [kV (ik p), .ref c])) lv Xl := hX.keep (tup0.trans (.of s3))
      obtain ⟨la, ln, ls, lr, lg, rfl, hla, _, hls, _, _⟩ := id hX3
      refine ⟨_, rfl, la, _, _, _, rfl, rfl, SqT.of hla, rfl, _, rfl, la, _, _, _, rfl, rfl, SqT.of hla, rfl, _, rfl, _, _, rfl, rfl, _, rfl, _, rfl, (by show 4 ≤ sizeLine; decide), fun r1 hr1 => ?_⟩
      have s4 := s3.trans (same_new (o := .tup [.int Xl.root, .int (Xl.cost + co), .int nb, .int p]) hr1)
      have hr2 : (upd (upd H2 tp (.tup [kV (ik p), .ref c])) r1 (.tup [.int Xl.root, .int (Xl.cost + co), .int nb, .int p])) r1 = some (.tup [.int Xl.root, .int (Xl.cost + co), .int nb, .int p]) := upd_same
      refine ⟨_, rfl, _, rfl, r1, vb, [Xl.root, Xl.cost + co, nb, p], is, rfl, rfl, SqT.of hr2, SqT.of (s4 _ _ hvb), _, rfl, ?_⟩
      refine ite2 (fun _ => ?_) (fun _ => ?_)
      · refine ⟨_, rfl, ?_⟩
        refine ⟨_, rfl, r1, _, _, _, rfl, rfl, SqT.of hr2, rfl, _, rfl, r1, _, _, _, rfl, rfl, SqT.of hr2, rfl, _, rfl, _, rfl, la, _, _, _, rfl, rfl, SqT.of (same_new hr1 _ _ hla), rfl, (by show 4 ≤ sizeLine; decide), fun g1 hg1 => ?_⟩
        have s5 := s4.trans (same_new (o := .tup [.int Xl.root, .int (Xl.cost + co), .int p, ls]) hg1)
        exact ⟨r1, .ref g1, [Xl.root, Xl.cost + co, nb, p], ⟨Xl.root, Xl.cost + co, some p, some Xl.stp⟩, _, _, _, _, _, _, rfl, same_new hg1 _ _ hr2, ⟨g1, ls, rfl, upd_same, hls.keep (.of ((same_new hr1).trans (same_new hg1)))⟩, .inr ⟨p, Xl, ag, nb, co, hk, ht, rfl⟩,
          fun b o e n => s5 _ _ (fr b o e n), s5 _ _ hfk⟩
      · exact ⟨vb, vf, is, l, _, _, _, _, _, _, rfl, s4 _ _ hvb, hvf.keep (.of s4), hg, fun b o e n => s4 _ _ (fr b o e n), s4 _ _ hfk⟩
    · rintro σ H2 ⟨vb, vf, is, l, x3, x4, x5, x6, x7, x8, rfl, hvb, hvf, hg, fr, hfk⟩
      refine ⟨hfk, _, rfl, ?_⟩
      have t2 : TupK H2 (upd H2 dk (.dK kk)) := tupK_upd fun xs e => by rw [hfk] at e; cases e
      refine q vf l _ (fun b o e => ?_) (hvf.keep t2) hg
      by_cases z : b = dk
      · subst z; rw [upd_same, ← hdk]; exact e
      · rw [upd_ne z]; exact fr b o e z
end
end Sw

/-! Sw: the walk of letter_over. -/
namespace Sw
open PySem PySem.Spec PyProof.Rows L2
section
variable {P : Program} {w : World} {K : PySem.W.Frag} {mg : Str → Option Value} {base : Heap}
def sp_Bo (K : PySem.W.Frag) : Sp := fun vs H Q _ => ∃ a dt dk B p, vs = [.ref a, .int p] ∧ BrAt K H a dt dk B ∧ (∀ u, B.lbl.up = some u → ∃ x, B.kept u = some x) ∧ ∀ v Xl H', Same H H' → LtrAt H' v Xl → LetterOf B p Xl → Q v H'
theorem sc_Bo : FnScope ["self", "place", "root", "cost", "up", "rests", "number", "age", "agrees"] ["self", "place"] (defScope s_Bo) := ⟨rfl, rfl, rfl, by decide +kernel, rfl, by decide +kernel, by decide +kernel⟩
theorem up_eq (p : Int) (o : Option Int) : decide (V.int p = upV o) = decide (o = some p) := by
  cases o with
  | none => simp [upV]
  | some u => simp [upV, eq_comm]
theorem up_scal (p : Int) (o : Option Int) : scal (.int p) (upV o) = true := by cases o <;> rfl
theorem ok_Bo (T : Tx K mg) : Cal P w K mg base 2 (He.fAd K ("Bridge", some "letter_over")) ["self", "place"] (sp_Bo K) := by
  obtain ⟨fd, F⟩ := T.f_Bo
  have GS := ok_Bs (P := P) (w := w) (base := base) T
  refine Cal.mk2 F sc_Bo (fun _ _ _ _ _ _ us hl => match us, hl with | [_, _], _ => rfl) (fun vs H Q E h => ?_) (fun cdv A outer s H vs Q E hr h => ?_)
  · obtain ⟨a, dt, dk, B, p, rfl, _⟩ := h
    rfl
  · obtain ⟨a, dt, dk, B, p, rfl, hB, hup, q⟩ := h
    have hu := hu_of hr
    obtain ⟨⟨dx, sh, ha, hsh⟩, ⟨kt, hdt, mt⟩, ⟨kk, hdk, mk⟩, hne⟩ := id hB
    refine ⟨_, pss_cons (ps_asg (pe_fld (pv 0) rfl) (pg_tup rfl (pgs_cons (pg_name (i := 2) sc_Bo.nd rfl (.inl rfl)) (pgs_cons (pg_name (i := 3) sc_Bo.nd rfl (.inl rfl)) (pgs_cons (pg_name (i := 4) sc_Bo.nd rfl (.inl rfl)) (pgs_cons (pg_name (i := 5) sc_Bo.nd rfl (.inl rfl)) pgs_nil))))))
      (pss_cons (ps_set (i := 6) sc_Bo.nd rfl (.inl rfl) (pe_tup (pa_cons (pe_fld (pv 0) rfl) (pa_cons (pe_fld (pv 0) rfl) pa_nil))))
      (pss_cons (ps_set (i := 7) sc_Bo.nd rfl (.inl rfl) pe_int)
      (pss_cutS (ps_if (pt_cmpR op_notN (pv 4) pe_non (nomark _)) (pss_one (ps_set (i := 7) sc_Bo.nd rfl (.inl rfl) (pe_op op_add (pe_ix ix_tup (pe_dget hu (pe_fld (pv 0) rfl) (pv 4) (fun _ _ => rfl)) pe_int (fun _ _ => rfl)) pe_int))) pss_nil)
      (pss_cons (ps_if (pt_cmpR op_eq (pv 1) (pv 4) (nomark _)) (pss_one (ps_ret (pe_tup (pa_cons (pv 6) (pa_cons (pc_meth0 (pv 0) T.clB T.m_Bs GS hr) (pa_cons (pv 2) (pa_cons (pv 3) (pa_cons (pv 7) (pa_cons (pv 5) (pa_cons pe_non pa_nil)))))))))) pss_nil)
      (pss_cons (ps_set (i := 8) sc_Bo.nd rfl (.inl rfl) pe_non)
      (pss_cutS (ps_if (PW.pt (pw_and (pt_cmp (pc_din hu (pv 1) (pe_fld (pv 0) rfl))) (pw_and1 (pt_cmpR (op_eqD hr.units) (pe_ix ix_tup (pe_ix ix_tup (pe_dget hu (pe_fld (pv 0) rfl) (pv 1) (fun _ _ => rfl)) pe_int (fun _ _ => rfl)) pe_int (fun _ _ => rfl)) (pc_meth0 (pv 0) T.clB T.m_Bs GS hr) (nomark _)))))
          (pss_one (ps_set (i := 8) sc_Bo.nd rfl (.inl rfl) (pe_ix ix_tup (pe_ix ix_tup (pe_dget hu (pe_fld (pv 0) rfl) (pv 1) (fun _ _ => rfl)) pe_int (fun _ _ => rfl)) pe_int (fun _ _ => rfl)))) pss_nil)
      (pss_one (ps_ret (pe_tup (pa_cons (pv 6) (pa_cons (pc_meth0 (pv 0) T.clB T.m_Bs GS hr) (pa_cons (pv 2) (pa_cons (pv 3) (pa_cons (pv 7) (pa_cons pe_non (pa_cons (pv 8) pa_nil)))))))))))))))), ?_⟩
    obtain ⟨sa, sr, rfl, hsa, hsr⟩ := id hsh
    -- root, cost, up, rests = self.shown
    refine ⟨_, rfl, a, _, dx, _, _, rfl, ha, T.clB, T.b_shown, rfl, sa, _, rfl, SqT.of hsa, rfl, _, _, rfl, _, _, rfl, _, _, rfl, _, _, rfl, rfl, ?_⟩
    -- number
    refine ⟨_, rfl, a, _, dx, _, _, rfl, ha, T.clB, T.b_lived, rfl, _, rfl, a, _, dx, _, _, rfl, ha, T.clB, T.b_ticked, rfl, (by show 2 ≤ sizeLine; decide), fun n1 hn1 => ?_⟩
    have s1 : Same H (upd H n1 (.tup [.int B.life, .int B.tick])) := same_new hn1
    -- age
    refine ⟨fun σ' H' => ∃ ag, σ' = [some (.ref a), some (.int p), some (.int B.lbl.root), some (.int B.lbl.cost), some (upV B.lbl.up), some sr, some (.ref n1), some (.int ag), none] ∧ H' = upd H n1 (.tup [.int B.life, .int B.tick]), ?_, ?_⟩
    · refine ⟨_, rfl, rfl, _, rfl, ?_⟩
      cases eu : B.lbl.up with
      | none => exact iteF ⟨0, rfl, rfl⟩
      | some u =>
        refine iteT ?_
        obtain ⟨⟨M, ag⟩, hk⟩ := hup u eu
        obtain ⟨vk, hvk, tk, lv, rfl, htk, _⟩ := mk.some_ hk
        exact ⟨_, rfl, a, _, dx, _, _, rfl, s1 _ _ ha, T.clB, T.b_kept, rfl, _, rfl, dk, _, rfl, by rw [← hvk]; exact DGet.k (k := ik u) (s1 _ _ hdk), tk, _, _, _, rfl, rfl, SqT.of (s1 _ _ htk), rfl, _, _, rfl, rfl, ag + 1, rfl, rfl⟩
    · rintro σ' H' ⟨ag, rfl, rfl⟩
      have hn2 : PairAt (upd H n1 (.tup [.int B.life, .int B.tick])) (.ref n1) (B.life, B.tick) := ⟨n1, rfl, upd_same⟩
      have hB1 := hB.same s1
      refine ⟨_, rfl, _, rfl, up_scal _ _, _, rfl, ?_⟩
      rw [up_eq]
      by_cases c1 : B.lbl.up = some p
      · rw [decide_eq_true c1]
        refine iteT ?_
        refine ⟨_, rfl, _, rfl, a, dx, _, rfl, s1 _ _ ha, rfl, a, dt, dk, B, rfl, hB1, fun m hm => ?_⟩
        have s2 := s1.trans (same_new (o := .tup [.int B.life, .int B.ver]) hm)
        refine ⟨_, rfl, _, rfl, _, rfl, _, rfl, (by show 7 ≤ sizeLine; decide), fun r1 hr1 => ?_⟩
        have s3 := (same_new (o := .tup [.int B.life, .int B.ver]) hm).trans (same_new (o := .tup [.ref n1, .ref m, .int B.lbl.root, .int B.lbl.cost, .int ag, sr, .non]) hr1)
        have hm2 : (upd (upd (upd H n1 (.tup [.int B.life, .int B.tick])) m (.tup [.int B.life, .int B.ver])) r1 (.tup [.ref n1, .ref m, .int B.lbl.root, .int B.lbl.cost, .int ag, sr, .non])) m = some (.tup [.int B.life, .int B.ver]) := same_new hr1 _ _ upd_same
        refine q _ ⟨(B.life, B.tick), (B.life, B.ver), B.lbl.root, B.lbl.cost, ag, B.lbl.rests, none⟩ _ (s1.trans s3) ⟨r1, _, _, _, _, rfl, upd_same, hn2.keep (.of s3), ⟨m, rfl, hm2⟩, hsr.keep (.of (s1.trans s3)), rfl⟩ ⟨rfl, rfl, rfl, ?_, fun z hz => by cases hz⟩
        rw [if_pos c1]
      · rw [decide_eq_false c1]
        refine iteF ?_
        refine ⟨fun σ' H' => ∃ gv g, σ' = [some (.ref a), some (.int p), some (.int B.lbl.root), some (.int B.lbl.cost), some (upV B.lbl.up), some sr, some (.ref n1), some (.int ag), some gv] ∧ OptAt H' gv g ∧ Same (upd H n1 (.tup [.int B.life, .int B.tick])) H' ∧ (∀ z, g = some z → ∃ M a0, B.kept p = some (M, a0) ∧ M.rests = some B.stp ∧ M.stp = z), ?_, ?_⟩
        · refine ⟨_, rfl, _, rfl, a, _, dx, _, _, rfl, s1 _ _ ha, T.clB, T.b_kept, rfl, dk, _, rfl, DGet.k (k := ik p) (s1 _ _ hdk), _, rfl, ?_⟩
          cases hk : B.kept p with
          | none =>
            rw [mk.none_ hk]
            refine iteF ?_
            refine iteF ?_
            exact ⟨.non, none, rfl, rfl, Same.refl _, fun z hz => by cases hz⟩
          | some x =>
            obtain ⟨M, ag2⟩ := x
            obtain ⟨vk, hvk, tk, lv, rfl, htk, hM⟩ := mk.some_ hk
            obtain ⟨la, ln, ls, lr, lg, rfl, hla, _, hls, hlr, _⟩ := id hM
            rw [hvk]
            refine iteT ?_
            refine ⟨_, rfl, a, _, dx, _, _, rfl, s1 _ _ ha, T.clB, T.b_kept, rfl, _, rfl, dk, _, rfl, by rw [← hvk]; exact DGet.k (k := ik p) (s1 _ _ hdk), tk, _, _, _, rfl, rfl, SqT.of (s1 _ _ htk), rfl, la, _, _, _, rfl, rfl, SqT.of (s1 _ _ hla), rfl, _, rfl, a, dx, _, rfl, s1 _ _ ha, rfl, a, dt, dk, B, rfl, hB1, fun m hm => ?_⟩
            have s2 := same_new (o := .tup [.int B.life, .int B.ver]) hm
            have pm : PairAt (upd (upd H n1 (.tup [.int B.life, .int B.tick])) m (.tup [.int B.life, .int B.ver])) (.ref m) B.stp := ⟨m, rfl, upd_same⟩
            refine ⟨stpD M.rests, stpD (some B.stp), (hlr.keep (.of (s1.trans s2))).dp, pm.dp, stpD_shaped _, stpD_shaped _, _, rfl, ?_⟩
            rw [stp_eqv]
            by_cases c2 : M.rests = some B.stp
            · rw [decide_eq_true c2]
              refine iteT ?_
              have s3 := s1.trans s2
              exact ⟨_, rfl, a, _, dx, _, _, rfl, s3 _ _ ha, T.clB, T.b_kept, rfl, _, rfl, dk, _, rfl, by rw [← hvk]; exact DGet.k (k := ik p) (s3 _ _ hdk), tk, _, _, _, rfl, rfl, SqT.of (s3 _ _ htk), rfl, la, _, _, _, rfl, rfl, SqT.of (s3 _ _ hla), rfl,
                ls, some M.stp, rfl, hls.keep (.of s3), s2, fun z hz => ⟨M, ag2, rfl, c2, Option.some.inj hz⟩⟩
            · rw [decide_eq_false c2]
              refine iteF ?_
              exact ⟨.non, none, rfl, rfl, s2, fun z hz => by cases hz⟩
        · rintro σ' H2 ⟨gv, g, rfl, hg, s2, hz⟩
          have s12 := s1.trans s2
          refine ⟨_, rfl, _, rfl, a, dx, _, rfl, s12 _ _ ha, rfl, a, dt, dk, B, rfl, hB.same s12, fun m hm => ?_⟩
          refine ⟨_, rfl, _, rfl, _, rfl, _, rfl, (by show 7 ≤ sizeLine; decide), fun r1 hr1 => ?_⟩
          have s3 := (same_new (o := .tup [.int B.life, .int B.ver]) hm).trans (same_new (o := .tup [.ref n1, .ref m, .int B.lbl.root, .int B.lbl.cost, .int ag, .non, gv]) hr1)
          have hm2 : (upd (upd H2 m (.tup [.int B.life, .int B.ver])) r1 (.tup [.ref n1, .ref m, .int B.lbl.root, .int B.lbl.cost, .int ag, .non, gv])) m = some (.tup [.int B.life, .int B.ver]) := same_new hr1 _ _ upd_same
          refine q _ ⟨(B.life, B.tick), (B.life, B.ver), B.lbl.root, B.lbl.cost, ag, none, g⟩ _ (s12.trans s3) ⟨r1, _, _, _, _, rfl, upd_same, hn2.keep (.of (s2.trans s3)), ⟨m, rfl, hm2⟩, rfl, hg.keep (.of s3)⟩ ⟨rfl, rfl, rfl, ?_, fun z h => ⟨c1, hz z h⟩⟩
          rw [if_neg c1]
end
end Sw

/-! Sw: the walk of tick. -/
namespace Sw
open PySem PySem.Spec PyProof.Rows L2
section
variable {P : Program} {w : World} {K : PySem.W.Frag} {mg : Str → Option Value} {base : Heap}
def PostAt (H : Hp) (v : V) (x : Int × Ltr) : Prop := ∃ a lv, v = .ref a ∧ H a = some (.tup [.int x.1, lv]) ∧ LtrAt H lv x.2
theorem PostAt.keep {H H' : Hp} {v : V} {x : Int × Ltr} (k : TupK H H') (h : PostAt H v x) : PostAt H' v x := by
  obtain ⟨a, lv, e, h, h1⟩ := h
  exact ⟨a, lv, e, k a _ h, h1.keep k⟩
def sp_Bt (K : PySem.W.Frag) : Sp := fun vs H Q _ => ∃ a dt dk B, vs = [.ref a] ∧ BrAt K H a dt dk B ∧ B.Ok ∧
  ∀ B' dk' tp vs' ms H', H dk' = none → TickOk B B' → BrAt K H' a dt dk' B' → H tp = none → H' tp = some (.lst vs') → Paired (PostAt H') vs' ms → (∀ x, x ∈ ms → (∃ y, B.tied x.1 = some y) ∧ LetterOf B' x.1 x.2) → ms.length ≤ 16 →
    (∀ b o, H b = some o → b ≠ a → H' b = some o) → Q (.ref tp) H'
theorem sc_Bt : FnScope ["self", "found", "told", "place"] ["self"] (defScope s_Bt) := ⟨rfl, rfl, rfl, by decide +kernel, rfl, by decide +kernel, by decide +kernel⟩
theorem ok_Bt (T : Tx K mg) : Cal P w K mg base 3 (He.fAd K ("Bridge", some "tick")) ["self"] (sp_Bt K) := by
  obtain ⟨fd, F⟩ := T.f_Bt
  have GG := ok_Bg (P := P) (w := w) (base := base) T
  have GL := ok_Bl (P := P) (w := w) (base := base) T
  have GO := ok_Bo (P := P) (w := w) (base := base) T
  refine Cal.mk2 F sc_Bt (fun _ _ _ _ _ _ us hl => match us, hl with | [_], _ => rfl) (fun vs H Q E h => ?_) (fun cdv A outer s H vs Q E hr h => ?_)
  · obtain ⟨a, dt, dk, B, rfl, _⟩ := h
    rfl
  · obtain ⟨a, dt, dk, B, rfl, hB, ok, q⟩ := h
    have hu := hu_of hr
    have hr1 : Room 1 _ := hr.mono (by decide)
    refine ⟨_, pss_cons (ps_expr (pc_meth0 (pv 0) T.clB T.m_Bg GG hr1))
      (pss_cons (ps_set (i := 1) sc_Bt.nd rfl (.inl rfl) (pc_meth0 (pv 0) T.clB T.m_Bl GL hr1))
      (pss_cutS (ps_if (pt_cmpR (op_neD hr.units) (pv 1) (pe_fld (pv 0) rfl) (nomark _)) (pss_cons (ps_fld (pv 0) (pv 1) rfl) (pss_one (ps_fldaug (pv 0) pe_int in_add))) pss_nil)
      (pss_cons (ps_set (i := 2) sc_Bt.nd rfl (.inl rfl) (pe_lst pa_nil))
      (pss_cons (ps_for PassesOwn.never rfl (pi_list (pe_callB (call_sortedDI rfl) (by rfl) T.z_sorted boot_sorted (pa_cons (pe_fld (pv 0) rfl) pa_nil))) (pg_name (i := 3) sc_Bt.nd rfl (.inl rfl))
        (pss_one (ps_expr (pe_bm PySem.F.plainAttrs_list PySem.F.slot_list_append PySem.F.type_list_append mt_append (pv 2) (pa_cons (pe_tup (pa_cons (pv 3) (pa_cons (pc_meth (pv 0) T.clB T.m_Bo GO hr (pa_cons (pv 3) pa_nil)) pa_nil))) pa_nil)))))
      (pss_cons (ps_fldaug (pv 0) pe_int in_add)
      (pss_one (ps_ret (pv 2)))))))), ?_⟩
    obtain ⟨⟨dx, sh, ha, hsh⟩, ⟨kt, hdt, mt⟩, ⟨kk, hdk, mk⟩, hne⟩ := id hB
    -- self.grow_older()
    refine ⟨_, rfl, a, dx, _, rfl, ha, rfl, a, dt, dk, B, rfl, hB, ok, fun dk1 k1 H1 hdk1 lf hB1 fr1 => ?_⟩
    have ok1 : Br.Ok { B with kept := k1 } := ⟨ok.few, fun p x hx => by
      obtain ⟨X1, a1⟩ := x
      obtain ⟨a2, e2⟩ := lf p X1 a1 hx
      exact ok.sub p _ e2⟩
    obtain ⟨⟨dx1, sh1, ha1, hsh1⟩, ⟨kt1, hdt1, mt1⟩, ⟨kk1, hk1, mk1⟩, hne1⟩ := id hB1
    -- found = self.least_label()
    refine ⟨_, rfl, a, dx1, _, rfl, ha1, rfl, a, dt, dk1, { B with kept := k1 }, rfl, hB1, ok1, fun v l H2 s2 hl hg => ?_⟩
    have hB2 := hB1.same s2
    -- the label, the version
    refine ⟨fun σ' H' => σ' = [some (.ref a), some v, none, none] ∧ BrAt K H' a dt dk1 { B with kept := k1, lbl := l, ver := if l = B.lbl then B.ver else B.ver + 1 } ∧ ∀ b o, H2 b = some o → b ≠ a → H' b = some o, ?_, ?_⟩
    · refine ⟨_, rfl, _, rfl, a, _, dx1, _, _, rfl, s2 _ _ ha1, T.clB, T.b_shown, rfl, lblD l, lblD B.lbl, hl.dp, (hsh1.keep (.of s2)).dp, lblD_shaped _, lblD_shaped _, _, rfl, ?_⟩
      rw [lbl_eqv]
      by_cases c : l = B.lbl
      · rw [decide_eq_true c]
        refine iteF ?_
        refine ⟨rfl, ?_, fun b o e _ => e⟩
        rw [if_pos c, c]
        exact hB2
      · rw [decide_eq_false c]
        refine iteT ?_
        refine ⟨_, rfl, _, rfl, a, _, dx1, _, rfl, s2 _ _ ha1, T.clB, T.b_shown, bf_len, ?_⟩
        refine ⟨_, rfl, a, _, dx1, _, _, rfl, upd_same, T.clB, T.b_version, rfl, _, _, rfl, rfl, dx1, _, upd_same, bf_len, ?_⟩
        refine ⟨rfl, ?_, fun b o e n => by rw [upd_ne n, upd_ne n]; exact e⟩
        rw [if_neg c, upd_upd]
        have t1 : TupK H2 (upd H2 a (.ins (CB K) dx1 (bfs { B with kept := k1, lbl := l, ver := B.ver + 1 } dt dk1 v))) := tupK_upd fun xs e => by rw [s2 _ _ ha1] at e; cases e
        exact ⟨⟨dx1, v, upd_same, hl.keep t1⟩, ⟨kt1, by rw [upd_ne (Ne.symm hB2.nat)]; exact s2 _ _ hdt1, (mt1.imp fun _ _ _ _ r => r.keep (.of s2)).imp fun _ _ _ _ r => r.keep t1⟩, ⟨kk1, by rw [upd_ne (Ne.symm hB2.nak)]; exact s2 _ _ hk1, (mk1.imp fun _ _ _ _ r => r.keep (.of s2)).imp fun _ _ _ _ r => r.keep t1⟩, hne1⟩
    · rintro σ' H3 ⟨rfl, hB3, fr3⟩
      obtain ⟨⟨dx3, sh3, ha3, hsh3⟩, ⟨kt3, hdt3, mt3⟩, ⟨kk3, hk3, mk3⟩, hne3⟩ := id hB3
      have tk : TickOk B { B with kept := k1, lbl := l, ver := if l = B.lbl then B.ver else B.ver + 1 } := ⟨rfl, rfl, rfl, lf, hg, rfl⟩
      have hup : ∀ u, l.up = some u → ∃ x, k1 u = some x := fun u hu2 => by
        rcases hg with e | ⟨p, X1, a1, c, k, hk, _, e⟩
        · rw [e] at hu2; cases hu2
        · rw [e] at hu2
          cases hu2
          exact ⟨_, hk⟩
      -- told = []
      refine ⟨(by show 0 ≤ sizeLine; decide), fun tp htp => ?_⟩
      have s4 : Same H3 (upd H3 tp (.lst [])) := same_new htp
      obtain ⟨ks, hks, nks, mks⟩ := mt3.keys
      have lks : kt3.length = ks.length := by
        have e := congrArg List.length hks
        rwa [List.length_map, List.length_map] at e
      have l16 : kt3.length ≤ 16 := mt3.few_to 16 ok.few
      -- for place in sorted(self.tied)
      refine ⟨_, rfl, a, _, dx3, _, _, rfl, s4 _ _ ha3, T.clB, T.b_tied, rfl, dt, kt3, ks, rfl, .inl (s4 _ _ hdt3), hks, by omega, fun ys p perm rise hp => ⟨p, rfl, ⟨_, SqL.of upd_same⟩, ?_⟩⟩
      have s5 := s4.trans (same_new (o := .lst (ys.map V.int)) hp)
      have hpt : p ≠ tp := fun z => by rw [z, upd_same] at hp; cases hp
      have lys : ys.length = ks.length := perm.length_eq
      refine for_list (K := K) (a := p) (xs := ys.map V.int) (fun i σ H' => ∃ x3 vs' ms, σ = [some (.ref a), some v, some (.ref tp), x3] ∧ H' tp = some (.lst vs') ∧ vs'.length = i ∧ Paired (PostAt H') vs' ms ∧ (∀ x, x ∈ ms → (∃ y, B.tied x.1 = some y) ∧ LetterOf { B with kept := k1, lbl := l, ver := if l = B.lbl then B.ver else B.ver + 1 } x.1 x.2) ∧
          (∀ b o, (upd (upd H3 tp (.lst [])) p (.lst (ys.map V.int))) b = some o → b ≠ tp → H' b = some o))
        ⟨none, [], [], rfl, by rw [upd_ne hpt.symm]; exact upd_same, rfl, .nil, (fun x hx => by cases hx), fun b o e _ => e⟩ (fun i σ H' _ h => by obtain ⟨_, _, _, _, _, _, _, _, fr⟩ := h; exact SqL.of (fr _ _ upd_same hpt)) ?_ ?_
      · rintro i y σ H' hi ⟨x3, vs', ms, rfl, htv, hli, pr, hms, fr⟩
        obtain ⟨z, hz, rfl⟩ : ∃ z, ys[i]? = some z ∧ y = V.int z := by
          rw [List.getElem?_map] at hi
          cases e : ys[i]? with
          | none => rw [e] at hi; cases hi
          | some z => rw [e] at hi; exact ⟨z, rfl, (Option.some.inj hi).symm⟩
        have hil : i < ys.length := (List.getElem?_eq_some_iff.mp hz).1
        have hzk : ∃ x, B.tied z = some x := Option.isSome_iff_exists.mp ((mks z).mp (perm.mem_iff.mp (List.mem_of_getElem? hz)))
        have old : ∀ b o, H3 b = some o → H' b = some o := fun b o e => fr b o (s5 b o e) fun w => by rw [w, htp] at e; cases e
        have hB5 : BrAt K H' a dt dk1 { B with kept := k1, lbl := l, ver := if l = B.lbl then B.ver else B.ver + 1 } := hB3.same old
        refine ⟨_, rfl, .inl ⟨rfl, _, .inl (.inl htv)⟩, _, rfl, _, rfl, a, dx3, _, rfl, old _ _ ha3, rfl, _, rfl, a, dt, dk1, _, z, rfl, hB5, hup, fun lv Xl H6 s6 hX hof => ⟨(by show 2 ≤ sizeLine; decide), fun m hm => ?_⟩⟩
        have s7 := s6.trans (same_new (o := .tup [.int z, lv]) hm)
        refine ⟨tp, vs', .ref m, rfl, rfl, s7 _ _ htv, small16 (by omega), ?_⟩
        have t8 : TupK (upd H6 m (.tup [.int z, lv])) (upd (upd H6 m (.tup [.int z, lv])) tp (.lst (vs' ++ [.ref m]))) := tupK_upd fun xs e => by rw [s7 _ _ htv] at e; cases e
        have t7 := (TupK.of s7).trans t8
        have mne : m ≠ tp := fun w => by rw [w, s6 _ _ htv] at hm; cases hm
        refine ⟨_, _, ms ++ [(z, Xl)], rfl, upd_same, by rw [List.length_append]; simp [hli], paired_app (Paired.mapP pr fun _ _ r => r.keep t7) (.cons ⟨m, lv, rfl, by rw [upd_ne mne]; exact upd_same, hX.keep ((TupK.of (same_new hm)).trans t8)⟩ .nil), fun x hx => ?_, fun b o e n => by rw [upd_ne n]; exact s7 _ _ (fr b o e n)⟩
        rcases List.mem_append.mp hx with hx | hx
        · exact hms x hx
        · have e : x = (z, Xl) := by simpa using hx
          subst e
          exact ⟨hzk, hof⟩
      · rintro σ H' ⟨x3, vs', ms, rfl, htv, hli, pr, hms, fr⟩
        have old : ∀ b o, H3 b = some o → H' b = some o := fun b o e => fr b o (s5 b o e) fun w => by rw [w, htp] at e; cases e
        -- self.ticked += 1
        refine ⟨_, rfl, a, _, dx3, _, _, rfl, old _ _ ha3, T.clB, T.b_ticked, rfl, _, _, rfl, rfl, dx3, _, old _ _ ha3, bf_len, ?_⟩
        refine ⟨_, rfl, ?_⟩
        have t9 : TupK H' (upd H' a (.ins (CB K) dx3 (putF "ticked" (.int (B.tick + 1)) (bfs { B with kept := k1, lbl := l, ver := if l = B.lbl then B.ver else B.ver + 1 } dt dk1 sh3)))) := tupK_upd fun xs e => by rw [old _ _ ha3] at e; cases e
        have t3 := (TupK.of old).trans t9
        have tpa : tp ≠ a := fun w => by rw [w, ha3] at htp; cases htp
        have h0 : ∀ b, H2 b = none → H b = none := fun b e => by
          cases e2 : H b with
          | none => rfl
          | some o =>
            by_cases z : b = a
            · subst z; rw [s2 _ _ ha1] at e; cases e
            · rw [s2 _ _ (fr1 b o e2 z)] at e; cases e
        have h2 : ∀ b, H3 b = none → H2 b = none := fun b e => by
          cases e2 : H2 b with
          | none => rfl
          | some o =>
            by_cases z : b = a
            · subst z; rw [ha3] at e; cases e
            · rw [fr3 b o e2 z] at e; cases e
        refine q { B with kept := k1, lbl := l, ver := if l = B.lbl then B.ver else B.ver + 1, tick := B.tick + 1 } dk1 tp vs' ms _ hdk1 ⟨rfl, rfl, rfl, lf, hg, rfl⟩ ?_ (h0 _ (h2 _ htp)) (by rw [upd_ne tpa]; exact htv) (Paired.mapP pr fun _ _ r => r.keep t9) (fun x hx => ?_) ?_ fun b o e n => ?_
        · exact ⟨⟨dx3, sh3, upd_same, hsh3.keep t3⟩, ⟨kt3, by rw [upd_ne (Ne.symm hB3.nat)]; exact old _ _ hdt3, mt3.imp fun _ _ _ _ r => r.keep t3⟩, ⟨kk3, by rw [upd_ne (Ne.symm hB3.nak)]; exact old _ _ hk3, mk3.imp fun _ _ _ _ r => r.keep t3⟩, hne3⟩
        · obtain ⟨h1, h2⟩ := hms x hx
          exact ⟨h1, ⟨h2.stp, h2.root, h2.cost, h2.rests, h2.agrees⟩⟩
        · have e := Paired.length pr
          rw [List.length_map] at hli
          omega
        · rw [upd_ne n]; exact old _ _ (fr3 _ _ (s2 _ _ (fr1 b o e n)) n)
end
end Sw

/-! Sw: the walk of Bridge.__init__, neighbours. -/
namespace Sw
open PySem PySem.Spec PyProof.Rows L2
section
variable {P : Program} {w : World} {K : PySem.W.Frag} {mg : Str → Option Value} {base : Heap}
theorem upd_none {H : Hp} {a b : Addr} {o : HO} (h : upd H a o b = none) : b ≠ a ∧ H b = none := by
  by_cases e : b = a
  · subst e; rw [upd_same] at h; cases h
  · rw [upd_ne e] at h; exact ⟨e, h⟩
def Fresh (n l g : Int) (nbs : List Tie) (B : Br) : Prop := B.own = n ∧ B.life = l ∧ B.most = g ∧ B.ver = 0 ∧ B.lbl = ⟨n, 0, none, none⟩ ∧ (∀ p, B.kept p = none) ∧ ∀ p c k, B.tied p = some (c, k) → (p, c, k) ∈ nbs
def sp_Bi (K : PySem.W.Frag) : Sp := fun vs H Q _ => ∃ x dx n l tl g tvs nbs, vs = [.ref x, .int n, .int l, .ref tl, .int g] ∧ H x = some (.ins (CB K) dx []) ∧ H tl = some (.lst tvs) ∧ Paired (TieAt H) tvs nbs ∧ tvs.length ≤ 1000 ∧
  ∀ B dt dk H', H dt = none → H dk = none → Fresh n l g nbs B → BrAt K H' x dt dk B → (∀ b o, H b = some o → b ≠ x → H' b = some o) → Q .non H'
theorem sc_Bi : FnScope ["self", "number", "life", "ties", "greatest", "place", "neighbour", "cost"] ["self", "number", "life", "ties", "greatest"] (defScope s_Bi) := ⟨rfl, rfl, rfl, by decide +kernel, rfl, by decide +kernel, by decide +kernel⟩
theorem ok_Bi (T : Tx K mg) : Cal P w K mg base 1 (He.fAd K ("Bridge", some "__init__")) ["self", "number", "life", "ties", "greatest"] (sp_Bi K) := by
  obtain ⟨fd, F⟩ := T.f_Bi
  refine Cal.mk2 F sc_Bi (fun _ _ _ _ _ _ us hl => match us, hl with | [_, _, _, _, _], _ => rfl) (fun vs H Q E h => ?_) (fun cdv A outer s H vs Q E hr h => ?_)
  · obtain ⟨x, dx, n, l, tl, g, tvs, nbs, rfl, _⟩ := h
    rfl
  · obtain ⟨x, dx, n, l, tl, g, tvs, nbs, rfl, hx, htl, pr, hlen, q⟩ := h
    have hu := hu_of hr
    refine ⟨_, pss_cons (ps_fld (pv 0) (pv 1) rfl) (pss_cons (ps_fld (pv 0) (pv 2) rfl) (pss_cons (ps_fld (pv 0) (pv 4) rfl)
      (pss_cons (ps_fld (pv 0) pe_dnewK rfl) (pss_cons (ps_fld (pv 0) pe_dnewK rfl)
      (pss_cons (ps_fld (pv 0) (pe_tup (pa_cons (pv 1) (pa_cons pe_int (pa_cons pe_non (pa_cons pe_non pa_nil))))) rfl)
      (pss_cons (ps_fld (pv 0) pe_int rfl) (pss_cons (ps_fld (pv 0) pe_int rfl)
      (pss_one (ps_for PassesOwn.never rfl (pi_list (pv 3)) (pg_tup rfl (pgs_cons (pg_name (i := 5) sc_Bi.nd rfl (.inl rfl)) (pgs_cons (pg_name (i := 6) sc_Bi.nd rfl (.inl rfl)) (pgs_cons (pg_name (i := 7) sc_Bi.nd rfl (.inl rfl)) pgs_nil))))
        (pss_one (ps_dput hu (pe_fld (pv 0) rfl) (pv 5) (pe_tup (pa_cons (pv 6) (pa_cons (pv 7) pa_nil))) rfl))))))))))), ?_⟩
    refine ⟨_, rfl, _, rfl, x, _, dx, [], rfl, hx, T.clB, T.b_own, (by show 0 < 1000; decide), ?_⟩
    refine ⟨_, rfl, _, rfl, x, _, dx, _, rfl, upd_same, T.clB, T.b_lived, (by show 1 < 1000; decide), ?_⟩
    refine ⟨_, rfl, _, rfl, x, _, dx, _, rfl, upd_same, T.clB, T.b_most, (by show 2 < 1000; decide), ?_⟩
    intro dt hdt
    obtain ⟨dtx, hdt0⟩ := upd_none hdt
    obtain ⟨_, hdt0⟩ := upd_none hdt0
    obtain ⟨_, hdt0⟩ := upd_none hdt0
    refine ⟨_, rfl, x, _, dx, _, rfl, by rw [upd_ne (Ne.symm dtx)]; exact upd_same, T.clB, T.b_tied, (by show 3 < 1000; decide), ?_⟩
    intro dk hdk
    obtain ⟨dkx, hdk0⟩ := upd_none hdk
    obtain ⟨dkt, hdk0⟩ := upd_none hdk0
    obtain ⟨_, hdk0⟩ := upd_none hdk0
    obtain ⟨_, hdk0⟩ := upd_none hdk0
    obtain ⟨_, hdk0⟩ := upd_none hdk0
    refine ⟨_, rfl, x, _, dx, _, rfl, by rw [upd_ne (Ne.symm dkx)]; exact upd_same, T.clB, T.b_kept, (by show 4 < 1000; decide), ?_⟩
    refine ⟨_, rfl, (by show 4 ≤ sizeLine; decide), fun m hm => ?_⟩
    obtain ⟨mx, hm0⟩ := upd_none hm
    obtain ⟨mk_, hm0⟩ := upd_none hm0
    obtain ⟨_, hm0⟩ := upd_none hm0
    obtain ⟨mt_, hm0⟩ := upd_none hm0
    obtain ⟨_, hm0⟩ := upd_none hm0
    obtain ⟨_, hm0⟩ := upd_none hm0
    obtain ⟨_, hm0⟩ := upd_none hm0
    refine ⟨_, rfl, x, _, dx, _, rfl, by rw [upd_ne (Ne.symm mx)]; exact upd_same, T.clB, T.b_shown, (by show 5 < 1000; decide), ?_⟩
    refine ⟨_, rfl, x, _, dx, _, rfl, upd_same, T.clB, T.b_version, (by show 6 < 1000; decide), ?_⟩
    refine ⟨_, rfl, x, _, dx, _, rfl, upd_same, T.clB, T.b_ticked, (by show 7 < 1000; decide), ?_⟩
    generalize hH : upd (upd (upd (upd (upd (upd (upd (upd (upd (upd (upd H x _) x _) x _) dt _) x _) dk _) x _) m _) x _) x _) x _ = H1
    have f0 : ∀ b o, H b = some o → b ≠ x → H1 b = some o := fun b o e nb => by
      rw [← hH, upd_ne nb, upd_ne nb, upd_ne nb, upd_ne (ne_of_none e hm0), upd_ne nb, upd_ne (ne_of_none e hdk0), upd_ne nb, upd_ne (ne_of_none e hdt0), upd_ne nb, upd_ne nb, upd_ne nb]
      exact e
    have fx : H1 x = some (.ins (CB K) dx (bfs ⟨n, l, g, fun _ => none, fun _ => none, ⟨n, 0, none, none⟩, 0, 0⟩ dt dk (.ref m))) := by rw [← hH]; exact upd_same
    have ft : H1 dt = some (.dK []) := by rw [← hH, upd_ne dtx, upd_ne dtx, upd_ne dtx, upd_ne (Ne.symm mt_), upd_ne dtx, upd_ne (Ne.symm dkt), upd_ne dtx]; exact upd_same
    have fk : H1 dk = some (.dK []) := by rw [← hH, upd_ne dkx, upd_ne dkx, upd_ne dkx, upd_ne (Ne.symm mk_), upd_ne dkx]; exact upd_same
    have fm : H1 m = some (.tup [.int n, .int 0, .non, .non]) := by rw [← hH, upd_ne mx, upd_ne mx, upd_ne mx]; exact upd_same
    clear hH hdt hdk hm
    have tlx : tl ≠ x := ne_of htl hx (by intro z; cases z)
    have tup1 : ∀ b xs, H b = some (.tup xs) → H1 b = some (.tup xs) := fun b xs e => f0 b _ e (ne_of e hx (by intro z; cases z))
    refine ⟨_, rfl, tl, rfl, ⟨_, SqL.of (f0 _ _ htl tlx)⟩, for_list (K := K) (a := tl) (xs := tvs) (fun i σ H2 => (∃ x5 x6 x7, σ = [some (.ref x), some (.int n), some (.int l), some (.ref tl), some (.int g), x5, x6, x7]) ∧
        (∀ b o, H1 b = some o → b ≠ dt → H2 b = some o) ∧ ∃ kvs m2, H2 dt = some (.dK kvs) ∧ MapAt (fun _ => TiedV H2) kvs m2 ∧ kvs.length ≤ i ∧ ∀ p c k, m2 p = some (c, k) → (p, c, k) ∈ nbs)
      ⟨⟨none, none, none, rfl⟩, fun b o e _ => e, [], fun _ => none, ft, MapAt.empty, Nat.zero_le _, fun _ _ _ e => by cases e⟩ (fun i σ H2 _ h => SqL.of (h.2.1 _ _ (f0 _ _ htl tlx) fun z => by rw [z, hdt0] at htl; cases htl)) ?_ ?_⟩
    · rintro i v σ H2 hi ⟨⟨x5, x6, x7, rfl⟩, fr, kvs, m2, hkv, mm, hli, sub⟩
      obtain ⟨⟨p, c, k⟩, hn, a, rfl, ha⟩ := paired_at' pr hi
      have ane : a ≠ dt := fun z => by rw [z, hdt0] at ha; cases ha
      have ha2 := fr _ _ (tup1 _ _ ha) ane
      refine ⟨a, _, rfl, SqT.of ha2, rfl, _, _, rfl, _, _, rfl, _, _, rfl, rfl, ?_⟩
      refine ⟨_, rfl, _, rfl, (by show 2 ≤ sizeLine; decide), fun u hu2 => ?_⟩
      have s3 := same_new (o := .tup [.int c, .int k]) hu2
      have hil : i < tvs.length := (List.getElem?_eq_some_iff.mp hi).1
      have xne : x ≠ dt := Ne.symm dtx
      refine ⟨_, rfl, x, _, dx, _, _, rfl, s3 _ _ (fr _ _ fx xne), T.clB, T.b_tied, rfl, _, rfl, dt, _, rfl, DPut.k (k := ik p) (s3 _ _ hkv) (small1000 (by omega)), ?_⟩
      have t4 : TupK (upd H2 u (.tup [.int c, .int k])) (upd (upd H2 u (.tup [.int c, .int k])) dt (.dK (putK kvs (ik p) (.ref u)))) := tupK_upd fun xs e => by rw [s3 _ _ hkv] at e; cases e
      have une : u ≠ dt := fun z => by rw [z, hkv] at hu2; cases hu2
      refine ⟨⟨_, _, _, rfl⟩, fun b o e nb => by rw [upd_ne nb]; exact s3 _ _ (fr b o e nb), _, setAt m2 p (some (c, k)), upd_same, (mm.imp fun _ _ _ _ r => r.keep ((TupK.of s3).trans t4)).put ⟨u, rfl, by rw [upd_ne une]; exact upd_same⟩, Nat.le_trans (length_putK _ _ _) (Nat.succ_le_succ hli), fun p2 c2 k2 e2 => ?_⟩
      by_cases ep : p2 = p
      · subst ep
        rw [setAt_same] at e2
        cases e2
        exact List.mem_of_getElem? hn
      · rw [setAt_ne ep] at e2
        exact sub p2 c2 k2 e2
    · rintro σ H2 ⟨⟨x5, x6, x7, rfl⟩, fr, kvs, m2, hkv, mm, hli, sub⟩
      refine q ⟨n, l, g, m2, fun _ => none, ⟨n, 0, none, none⟩, 0, 0⟩ dt dk H2 hdt0 hdk0 ⟨rfl, rfl, rfl, rfl, rfl, fun _ => rfl, sub⟩ ⟨⟨dx, .ref m, fr _ _ fx (Ne.symm dtx), ⟨m, .non, rfl, fr _ _ fm mt_, rfl⟩⟩, ⟨kvs, hkv, mm⟩, ⟨[], fr _ _ fk dkt, MapAt.empty⟩, Ne.symm dkt⟩ fun b o e nb => ?_
      exact fr _ _ (f0 b o e nb) (ne_of_none e hdt0)

/-! ### neighbours -/
/-- the ties of b, of the first n -/
def nbAt (b : Int) (i : Nat) (t : Tie) : List Tie := if t.1 = b then [((i : Int), t.2.1, t.2.2)] else if t.2.1 = b then [((i : Int), t.1, t.2.2)] else []
theorem nb_conn {ts : List Tie} {b : Int} {i : Nat} {t : Tie} (h : ts[i]? = some t) {z : Tie} (hz : z ∈ nbAt b i t) : Conn ts z.1 b z.2.1 z.2.2 := by
  unfold nbAt at hz
  obtain ⟨o1, o2, k⟩ := t
  by_cases c1 : o1 = b
  · rw [if_pos c1] at hz
    have e := List.mem_singleton.mp hz
    subst e
    left
    show tieAt ts (i : Int) = some (b, o2, k)
    rw [tieAt_nat, h, c1]
  · rw [if_neg c1] at hz
    by_cases c2 : o2 = b
    · rw [if_pos c2] at hz
      have e := List.mem_singleton.mp hz
      subst e
      right
      show tieAt ts (i : Int) = some (o1, b, k)
      rw [tieAt_nat, h, c2]
    · rw [if_neg c2] at hz; cases hz
def sp_ne (K : PySem.W.Frag) : Sp := fun vs H Q _ => ∃ np ab at_ tv N b, vs = [.ref np, .int b] ∧ NetAt H np ab at_ tv N ∧ N.ts.length ≤ 16 ∧
  ∀ p tvs nbs H', Same H H' → H p = none → H' p = some (.lst tvs) → Paired (TieAt H') tvs nbs → tvs.length ≤ 16 → (∀ z, z ∈ nbs → Conn N.ts z.1 b z.2.1 z.2.2) → Q (.ref p) H'
theorem sc_ne : FnScope ["net", "bridge", "found", "place", "tie"] ["net", "bridge"] (defScope s_ne) := ⟨rfl, rfl, rfl, by decide +kernel, rfl, by decide +kernel, by decide +kernel⟩
theorem ok_ne (T : Tx K mg) : Cal P w K mg base 1 (He.fAd K ("neighbours", none)) ["net", "bridge"] (sp_ne K) := by
  obtain ⟨fd, F⟩ := T.f_ne
  refine Cal.mk2 F sc_ne (fun _ _ _ _ _ _ us hl => match us, hl with | [_, _], _ => rfl) (fun vs H Q E h => ?_) (fun cdv A outer s H vs Q E hr h => ?_)
  · obtain ⟨np, ab, at_, tv, N, b, rfl, _⟩ := h
    rfl
  · obtain ⟨np, ab, at_, tv, N, b, rfl, hN, h16, q⟩ := h
    refine ⟨_, pss_cons (ps_set (i := 2) sc_ne.nd rfl (.inl rfl) (pe_lst pa_nil))
      (pss_cons (ps_for PassesOwn.never rfl (pi_enumT (by rfl) T.z_enumerate (pa_cons (pe_ix ix_tup (pv 0) pe_int (fun _ _ => rfl)) pa_nil)) (pg_tup rfl (pgs_cons (pg_name (i := 3) sc_ne.nd rfl (.inl rfl)) (pgs_cons (pg_name (i := 4) sc_ne.nd rfl (.inl rfl)) pgs_nil)))
        (pss_one (ps_if (pt_cmpR op_eq (pe_ix ix_tup (pv 4) pe_int (fun _ _ => rfl)) (pv 1) (nomark _))
          (pss_one (ps_expr (pe_bm PySem.F.plainAttrs_list PySem.F.slot_list_append PySem.F.type_list_append mt_append (pv 2) (pa_cons (pe_tup (pa_cons (pv 3) (pa_cons (pe_ix ix_tup (pv 4) pe_int (fun _ _ => rfl)) (pa_cons (pe_ix ix_tup (pv 4) pe_int (fun _ _ => rfl)) pa_nil)))) pa_nil))))
          (pss_one (ps_if (pt_cmpR op_eq (pe_ix ix_tup (pv 4) pe_int (fun _ _ => rfl)) (pv 1) (nomark _))
            (pss_one (ps_expr (pe_bm PySem.F.plainAttrs_list PySem.F.slot_list_append PySem.F.type_list_append mt_append (pv 2) (pa_cons (pe_tup (pa_cons (pv 3) (pa_cons (pe_ix ix_tup (pv 4) pe_int (fun _ _ => rfl)) (pa_cons (pe_ix ix_tup (pv 4) pe_int (fun _ _ => rfl)) pa_nil)))) pa_nil)))) pss_nil)))))
      (pss_one (ps_ret (pv 2)))), ?_⟩
    refine ⟨(by show 0 ≤ sizeLine; decide), fun D hD => ?_⟩
    have s1 : Same H (upd H D (.lst [])) := same_new hD
    have ltv : tv.length = N.ts.length := Paired.length hN.tie
    refine ⟨_, rfl, np, _, _, _, rfl, rfl, SqT.of (s1 _ _ hN.ob), rfl, at_, tv, rfl, SqT.of (s1 _ _ hN.ts), for_enumT (K := K) (a := at_) (xs := tv) (fun i σ H2 => (∃ x3 x4, σ = [some (.ref np), some (.int b), some (.ref D), x3, x4]) ∧ Same H H2 ∧
        ∃ tvs nbs, H2 D = some (.lst tvs) ∧ Paired (TieAt H2) tvs nbs ∧ tvs.length ≤ i ∧ ∀ z, z ∈ nbs → Conn N.ts z.1 b z.2.1 z.2.2)
      ⟨⟨none, none, rfl⟩, s1, [], [], upd_same, .nil, Nat.zero_le _, fun z hz => by cases hz⟩ (fun i σ H2 _ h => SqT.of (h.2.1 _ _ hN.ts)) ?_ ?_⟩
    · rintro i v σ H2 tp hi ⟨⟨x3, x4, rfl⟩, s2, tvs, nbs, hDv, pr, hli, hc⟩ htp
      obtain ⟨⟨o1, o2, k⟩, hn, a, rfl, ha⟩ := paired_at' hN.tie hi
      have s3 := same_new (o := .tup [.int (i : Nat), .ref a]) htp
      have ha2 := s3 _ _ (s2 _ _ ha)
      have hil : i < tv.length := (List.getElem?_eq_some_iff.mp hi).1
      refine ⟨tp, _, rfl, SqT.of upd_same, rfl, _, _, rfl, _, _, rfl, rfl, ?_⟩
      -- one more is found
      have more : ∀ (c k' : Int) (Hx : Hp) (u : Addr), ((i : Int), c, k') ∈ nbAt b i (o1, o2, k) → Hx = upd H2 tp (.tup [.int (i : Nat), .ref a]) → Hx u = none →
          (∃ x3' x4', ([some (.ref np), some (.int b), some (.ref D), some (.int (i : Nat)), some (.ref a)] : L2.St) = [some (.ref np), some (.int b), some (.ref D), x3', x4']) ∧ Same H (upd (upd Hx u (.tup [.int (i : Nat), .int c, .int k'])) D (.lst (tvs ++ [.ref u]))) ∧
          ∃ tvs' nbs', (upd (upd Hx u (.tup [.int (i : Nat), .int c, .int k'])) D (.lst (tvs ++ [.ref u]))) D = some (.lst tvs') ∧ Paired (TieAt (upd (upd Hx u (.tup [.int (i : Nat), .int c, .int k'])) D (.lst (tvs ++ [.ref u])))) tvs' nbs' ∧ tvs'.length ≤ i + 1 ∧ ∀ z, z ∈ nbs' → Conn N.ts z.1 b z.2.1 z.2.2 := fun c k' Hx u hm hHx hu => by
        subst hHx
        have s4 := s3.trans (same_new (o := .tup [.int (i : Nat), .int c, .int k']) hu)
        have t5 : TupK (upd (upd H2 tp (.tup [.int (i : Nat), .ref a])) u (.tup [.int (i : Nat), .int c, .int k'])) (upd (upd (upd H2 tp (.tup [.int (i : Nat), .ref a])) u (.tup [.int (i : Nat), .int c, .int k'])) D (.lst (tvs ++ [.ref u]))) := tupK_upd fun xs e => by rw [s4 _ _ hDv] at e; cases e
        have une : u ≠ D := fun z => by rw [z, s3 _ _ hDv] at hu; cases hu
        refine ⟨⟨_, _, rfl⟩, fun x o e => ?_, _, nbs ++ [((i : Int), c, k')], upd_same, paired_app (Paired.mapP pr fun _ _ r => r.keep ((TupK.of s4).trans t5)) (.cons ⟨u, rfl, by rw [upd_ne une]; exact upd_same⟩ .nil), by rw [List.length_append]; simp only [List.length_cons, List.length_nil]; omega, fun z hz => ?_⟩
        · have xD : x ≠ D := fun w => by rw [w, hD] at e; cases e
          rw [upd_ne xD]; exact s4 _ _ (s2 _ _ e)
        · rcases List.mem_append.mp hz with hz | hz
          · exact hc z hz
          · have e := List.mem_singleton.mp hz
            subst e
            exact nb_conn hn hm
      have lts : tvs.length < sizeLine := small16 (by omega)
      refine ⟨_, rfl, a, _, _, _, rfl, rfl, SqT.of ha2, rfl, _, rfl, rfl, _, rfl, ?_⟩
      rw [dec_int, int_beq]
      by_cases c1 : o1 = b
      · rw [decide_eq_true c1]
        refine iteT ?_
        refine ⟨_, rfl, .inl ⟨rfl, _, .inl (.inl (s3 _ _ hDv))⟩, _, rfl, _, rfl, a, _, _, _, rfl, rfl, SqT.of ha2, rfl, _, rfl, a, _, _, _, rfl, rfl, SqT.of ha2, rfl, (by show 3 ≤ sizeLine; decide), fun u hu => ?_⟩
        refine ⟨D, tvs, .ref u, rfl, rfl, same_new hu _ _ (s3 _ _ hDv), lts, ?_⟩
        exact more o2 k _ u (by unfold nbAt; rw [if_pos c1]; exact List.mem_cons_self) rfl hu
      · rw [decide_eq_false c1]
        refine iteF ?_
        refine ⟨_, rfl, a, _, _, _, rfl, rfl, SqT.of ha2, rfl, _, rfl, rfl, _, rfl, ?_⟩
        rw [dec_int, int_beq]
        by_cases c2 : o2 = b
        · rw [decide_eq_true c2]
          refine iteT ?_
          refine ⟨_, rfl, .inl ⟨rfl, _, .inl (.inl (s3 _ _ hDv))⟩, _, rfl, _, rfl, a, _, _, _, rfl, rfl, SqT.of ha2, rfl, _, rfl, a, _, _, _, rfl, rfl, SqT.of ha2, rfl, (by show 3 ≤ sizeLine; decide), fun u hu => ?_⟩
          refine ⟨D, tvs, .ref u, rfl, rfl, same_new hu _ _ (s3 _ _ hDv), lts, ?_⟩
          exact more o1 k _ u (by unfold nbAt; rw [if_neg c1, if_pos c2]; exact List.mem_cons_self) rfl hu
        · rw [decide_eq_false c2]
          refine iteF ?_
          exact ⟨⟨_, _, rfl⟩, s2.trans s3, tvs, nbs, s3 _ _ hDv, Paired.mapP pr fun _ _ r => r.keep (.of s3), by omega, hc⟩
    · rintro σ H2 ⟨⟨x3, x4, rfl⟩, s2, tvs, nbs, hDv, pr, hli, hc⟩
      exact ⟨_, rfl, q D tvs nbs H2 s2 hD hDv pr (by omega) hc⟩
end
end Sw

/-! Sw: the walk of a yard's small methods. -/
namespace Sw
open PySem PySem.Spec PyProof.Rows L2
section
variable {P : Program} {w : World} {K : PySem.W.Frag} {mg : Str → Option Value} {base : Heap}

/-! ### Yard.net -/
def sp_Yn (K : PySem.W.Frag) : Sp := fun vs H Q _ => ∃ y ll L S, vs = [.ref y] ∧ YdL K H y ll L S ∧ Q (.ref L.np) H
theorem sc_Yn : FnScope ["self"] ["self"] (defScope s_Yn) := ⟨rfl, rfl, rfl, by decide +kernel, rfl, by decide +kernel, by decide +kernel⟩
theorem ok_Yn (T : Tx K mg) : Cal P w K mg base 1 (He.fAd K ("Yard", some "net")) ["self"] (sp_Yn K) := by
  obtain ⟨fd, F⟩ := T.f_Yn
  refine Cal.mk2 F sc_Yn (fun _ _ _ _ _ _ us hl => match us, hl with | [_], _ => rfl) (fun vs H Q E h => ?_) (fun cdv A outer s H vs Q E hr h => ?_)
  · obtain ⟨y, ll, L, S, rfl, _⟩ := h
    rfl
  · obtain ⟨y, ll, L, S, rfl, hY, q⟩ := h
    refine ⟨_, pss_one (ps_ret (pe_fld (pv 0) rfl)), ?_⟩
    exact ⟨_, rfl, y, _, L.dx, _, _, rfl, hY.ob, T.clY, T.y_plan, rfl, q⟩

/-! ### Yard.is_up -/
def sp_Yu (K : PySem.W.Frag) : Sp := fun vs H Q _ => ∃ y ll L S p t, vs = [.ref y, .int p] ∧ YdL K H y ll L S ∧ tieAt S.net.ts p = some t ∧ Q (.bl (isUp S p)) H
theorem sc_Yu : FnScope ["self", "place", "tie"] ["self", "place"] (defScope s_Yu) := ⟨rfl, rfl, rfl, by decide +kernel, rfl, by decide +kernel, by decide +kernel⟩
theorem cutM_some {c : Int → Bool} {p : Int} : (cutM c p).isSome = c p := by
  unfold cutM
  cases h : c p <;> simp
theorem ok_Yu (T : Tx K mg) : Cal P w K mg base 1 (He.fAd K ("Yard", some "is_up")) ["self", "place"] (sp_Yu K) := by
  obtain ⟨fd, F⟩ := T.f_Yu
  refine Cal.mk2 F sc_Yu (fun _ _ _ _ _ _ us hl => match us, hl with | [_, _], _ => rfl) (fun vs H Q E h => ?_) (fun cdv A outer s H vs Q E hr h => ?_)
  · obtain ⟨y, ll, L, S, p, t, rfl, _⟩ := h
    rfl
  · obtain ⟨y, ll, L, S, p, t, rfl, hY, ht, q⟩ := h
    have hu := hu_of hr
    obtain ⟨kc, hc, mc⟩ := hY.cutd
    obtain ⟨kt, hth, mth⟩ := hY.thr
    obtain ⟨a, hat, ha⟩ := hY.net.tieAt ht
    refine ⟨_, pss_cons (ps_set (i := 2) sc_Yu.nd rfl (.inl rfl) (pe_ix ix_tup (pe_ix ix_tup (pe_fld (pv 0) rfl) pe_int (fun _ _ => rfl)) (pv 1) (fun _ _ => rfl)))
      (pss_one (ps_ret (pe_and (pe_cmp (pc_dnotin hu (pv 1) (pe_fld (pv 0) rfl))) (pe_and (pe_cmp (pc_din hu (pe_ix ix_tup (pv 2) pe_int (fun _ _ => rfl)) (pe_fld (pv 0) rfl))) (pe_one (pe_cmp (pc_din hu (pe_ix ix_tup (pv 2) pe_int (fun _ _ => rfl)) (pe_fld (pv 0) rfl)))))))), ?_⟩
    refine ⟨_, rfl, y, _, L.dx, _, _, rfl, hY.ob, T.clY, T.y_plan, rfl, L.np, _, _, _, rfl, rfl, SqT.of hY.net.ob, rfl, _, rfl, L.at_, _, _, _, rfl, rfl, SqT.of hY.net.ts, hat, ?_⟩
    refine ⟨_, rfl, _, rfl, y, _, L.dx, _, _, rfl, hY.ob, T.clY, T.y_cut, rfl, L.dc, _, rfl, DGet.k (k := ik p) hc, _, rfl, ?_⟩
    obtain ⟨o1, o2, k⟩ := t
    have e : isUp S p = (!S.cut p && (S.there o1).isSome && (S.there o2).isSome) := by unfold isUp; rw [ht]
    rw [e] at q
    rw [mc.isSome, cutM_some]
    cases c : S.cut p with
    | true =>
      rw [c] at q
      exact iteF q
    | false =>
      rw [c] at q
      refine iteT ?_
      refine ⟨_, rfl, a, _, _, _, rfl, rfl, SqT.of ha, rfl, _, rfl, y, _, L.dx, _, _, rfl, hY.ob, T.clY, T.y_there, rfl, L.dth, _, rfl, DGet.k (k := ik o1) hth, _, rfl, ?_⟩
      rw [mth.isSome]
      cases c1 : (S.there o1).isSome with
      | false =>
        rw [c1] at q
        exact iteF q
      | true =>
        rw [c1] at q
        refine iteT ?_
        refine ⟨_, rfl, a, _, _, _, rfl, rfl, SqT.of ha, rfl, _, rfl, y, _, L.dx, _, _, rfl, hY.ob, T.clY, T.y_there, rfl, L.dth, _, rfl, DGet.k (k := ik o2) hth, ?_⟩
        rw [mth.isSome]
        exact q

/-! ### Yard.across -/
def sp_Ya (K : PySem.W.Frag) : Sp := fun vs H Q _ => ∃ y ll L S p b c k, vs = [.ref y, .int p, .int b] ∧ YdL K H y ll L S ∧ Conn S.net.ts p b c k ∧ Q (.int c) H
theorem sc_Ya : FnScope ["self", "place", "number", "tie"] ["self", "place", "number"] (defScope s_Ya) := ⟨rfl, rfl, rfl, by decide +kernel, rfl, by decide +kernel, by decide +kernel⟩
theorem ok_Ya (T : Tx K mg) : Cal P w K mg base 1 (He.fAd K ("Yard", some "across")) ["self", "place", "number"] (sp_Ya K) := by
  obtain ⟨fd, F⟩ := T.f_Ya
  refine Cal.mk2 F sc_Ya (fun _ _ _ _ _ _ us hl => match us, hl with | [_, _, _], _ => rfl) (fun vs H Q E h => ?_) (fun cdv A outer s H vs Q E hr h => ?_)
  · obtain ⟨y, ll, L, S, p, b, c, k, rfl, _⟩ := h
    rfl
  · obtain ⟨y, ll, L, S, p, b, c, k, rfl, hY, hc, q⟩ := h
    have key : ∃ o1 o2, tieAt S.net.ts p = some (o1, o2, k) ∧ o1 + o2 - b = c := by
      rcases hc with h | h
      · exact ⟨b, c, h, by omega⟩
      · exact ⟨c, b, h, by omega⟩
    obtain ⟨o1, o2, ht, e⟩ := key
    obtain ⟨a, hat, ha⟩ := hY.net.tieAt ht
    refine ⟨_, pss_cons (ps_set (i := 3) sc_Ya.nd rfl (.inl rfl) (pe_ix ix_tup (pe_ix ix_tup (pe_fld (pv 0) rfl) pe_int (fun _ _ => rfl)) (pv 1) (fun _ _ => rfl)))
      (pss_one (ps_ret (pe_op op_sub (pe_op op_add (pe_ix ix_tup (pv 3) pe_int (fun _ _ => rfl)) (pe_ix ix_tup (pv 3) pe_int (fun _ _ => rfl))) (pv 2)))), ?_⟩
    refine ⟨_, rfl, y, _, L.dx, _, _, rfl, hY.ob, T.clY, T.y_plan, rfl, L.np, _, _, _, rfl, rfl, SqT.of hY.net.ob, rfl, _, rfl, L.at_, _, _, _, rfl, rfl, SqT.of hY.net.ts, hat, ?_⟩
    refine ⟨_, rfl, a, _, _, _, rfl, rfl, SqT.of ha, rfl, _, rfl, a, _, _, _, rfl, rfl, SqT.of ha, rfl, _, _, rfl, rfl, _, rfl, _, _, rfl, rfl, ?_⟩
    show Q (V.int (o1 + o2 - b)) H
    rw [e]
    exact q

/-! ### Yard.road, Yard.bridge -/
def sp_Yr (K : PySem.W.Frag) : Sp := fun vs H Q _ => ∃ y ll L S, vs = [.ref y] ∧ YdL K H y ll L S ∧ ∀ p xs, H p = none → xs.length = S.road.length → Q (.ref p) (upd H p (.lst xs))
theorem sc_Yr : FnScope ["self"] ["self"] (defScope s_Yr) := ⟨rfl, rfl, rfl, by decide +kernel, rfl, by decide +kernel, by decide +kernel⟩
theorem ok_Yr (T : Tx K mg) : Cal P w K mg base 1 (He.fAd K ("Yard", some "road")) ["self"] (sp_Yr K) := by
  obtain ⟨fd, F⟩ := T.f_Yr
  refine Cal.mk2 F sc_Yr (fun _ _ _ _ _ _ us hl => match us, hl with | [_], _ => rfl) (fun vs H Q E h => ?_) (fun cdv A outer s H vs Q E hr h => ?_)
  · obtain ⟨y, ll, L, S, rfl, _⟩ := h
    rfl
  · obtain ⟨y, ll, L, S, rfl, hY, q⟩ := h
    obtain ⟨xs, hx, pr⟩ := hY.road
    refine ⟨_, pss_one (ps_ret (pe_callTy call_list_of (by rfl) T.z_list (by decide +kernel) (pa_cons (pe_fld (pv 0) rfl) pa_nil))), ?_⟩
    exact ⟨_, rfl, y, _, L.dx, _, _, rfl, hY.ob, T.clY, T.y_letters, rfl, ll, xs, rfl, .inl (SqL.of hx), fun l hl => q l xs hl (Paired.length pr)⟩
def thereV (L : Lay) (S : Yd) (b : Int) : V := match S.there b with
  | some _ => .ref (L.ba b)
  | none => .non
def sp_Yg (K : PySem.W.Frag) : Sp := fun vs H Q _ => ∃ y ll L S b, vs = [.ref y, .int b] ∧ YdL K H y ll L S ∧ Q (thereV L S b) H
theorem sc_Yg : FnScope ["self", "number"] ["self", "number"] (defScope s_Yg) := ⟨rfl, rfl, rfl, by decide +kernel, rfl, by decide +kernel, by decide +kernel⟩
theorem ok_Yg (T : Tx K mg) : Cal P w K mg base 1 (He.fAd K ("Yard", some "bridge")) ["self", "number"] (sp_Yg K) := by
  obtain ⟨fd, F⟩ := T.f_Yg
  refine Cal.mk2 F sc_Yg (fun _ _ _ _ _ _ us hl => match us, hl with | [_, _], _ => rfl) (fun vs H Q E h => ?_) (fun cdv A outer s H vs Q E hr h => ?_)
  · obtain ⟨y, ll, L, S, b, rfl, _⟩ := h
    rfl
  · obtain ⟨y, ll, L, S, b, rfl, hY, q⟩ := h
    have hu := hu_of hr
    obtain ⟨kt, hth, mth⟩ := hY.thr
    refine ⟨_, pss_one (ps_ret (pe_dget1 hu (pe_fld (pv 0) rfl) (pv 1) ⟨rfl, rfl, rfl, rfl⟩)), ?_⟩
    refine ⟨_, rfl, y, _, L.dx, _, _, rfl, hY.ob, T.clY, T.y_there, rfl, L.dth, rfl, .inl ⟨kt, .inl hth⟩, _, rfl, _, DGet.k (k := ik b) hth, ?_⟩
    unfold thereV at q
    cases e : S.there b with
    | none =>
      rw [mth.none_ e]
      rw [e] at q
      exact q
    | some B =>
      obtain ⟨v, hv, rv⟩ := mth.some_ e
      rw [hv]
      rw [e] at q
      show Q v H
      rw [rv]; exact q

/-! ### Yard.ends -/
def sp_Ye (K : PySem.W.Frag) : Sp := fun vs H Q _ => ∃ y ll L S p t, vs = [.ref y, .int p] ∧ YdL K H y ll L S ∧ tieAt S.net.ts p = some t ∧
  ∀ r H', Same H H' → H' r = some (.tup [.str (kS (endsOf S p).1), .str (kS (endsOf S p).2)]) → Q (.ref r) H'
theorem sc_Ye : FnScope ["self", "place", "tie"] ["self", "place"] (defScope s_Ye) := ⟨rfl, rfl, rfl, by decide +kernel, rfl, by decide +kernel, by decide +kernel⟩
theorem ok_Ye (T : Tx K mg) : Cal P w K mg base 3 (He.fAd K ("Yard", some "ends")) ["self", "place"] (sp_Ye K) := by
  obtain ⟨fd, F⟩ := T.f_Ye
  have GU := ok_Yu (P := P) (w := w) (base := base) T
  have GE := ok_Be (P := P) (w := w) (base := base) T
  refine Cal.mk2 F sc_Ye (fun _ _ _ _ _ _ us hl => match us, hl with | [_, _], _ => rfl) (fun vs H Q E h => ?_) (fun cdv A outer s H vs Q E hr h => ?_)
  · obtain ⟨y, ll, L, S, p, t, rfl, _⟩ := h
    rfl
  · obtain ⟨y, ll, L, S, p, t, rfl, hY, ht, q⟩ := h
    have hu := hu_of hr
    have hr1 : Room 1 _ := hr.mono (by decide)
    obtain ⟨kt, hth, mth⟩ := hY.thr
    obtain ⟨a, hat, ha⟩ := hY.net.tieAt ht
    refine ⟨_, pss_cons (ps_if (pt_not (pt_val (pc_meth (pv 0) T.clY T.m_Yu GU hr1 (pa_cons (pv 1) pa_nil)))) (pss_one (ps_ret (pe_tup (pa_cons pe_str (pa_cons pe_str pa_nil))))) pss_nil)
      (pss_cons (ps_set (i := 2) sc_Ye.nd rfl (.inl rfl) (pe_ix ix_tup (pe_ix ix_tup (pe_fld (pv 0) rfl) pe_int (fun _ _ => rfl)) (pv 1) (fun _ _ => rfl)))
      (pss_one (ps_ret (pe_tup (pa_cons (pc_meth (pe_dget hu (pe_fld (pv 0) rfl) (pe_ix ix_tup (pv 2) pe_int (fun _ _ => rfl)) (fun _ _ => rfl)) T.clB T.m_Be GE hr (pa_cons (pv 1) pa_nil))
        (pa_cons (pc_meth (pe_dget hu (pe_fld (pv 0) rfl) (pe_ix ix_tup (pv 2) pe_int (fun _ _ => rfl)) (fun _ _ => rfl)) T.clB T.m_Be GE hr (pa_cons (pv 1) pa_nil)) pa_nil)))))), ?_⟩
    refine ⟨_, rfl, y, L.dx, _, rfl, hY.ob, rfl, _, rfl, y, ll, L, S, p, t, rfl, hY, ht, _, rfl, ?_⟩
    obtain ⟨o1, o2, k⟩ := t
    have e : isUp S p = (!S.cut p && (S.there o1).isSome && (S.there o2).isSome) := by unfold isUp; rw [ht]
    cases c : isUp S p with
    | false =>
      refine iteT ?_
      have e2 : endsOf S p = (.down, .down) := by
        unfold endsOf
        rw [ht]
        simp only
        by_cases c1 : S.cut p = true
        · rw [if_pos c1]
        · rw [if_neg c1]
          have c1' : S.cut p = false := by simpa using c1
          rw [c, c1'] at e
          cases h1 : S.there o1 with
          | none => rfl
          | some B1 =>
            cases h2 : S.there o2 with
            | none => rfl
            | some B2 => rw [h1, h2] at e; cases e
      rw [e2] at q
      refine ⟨(by show 2 ≤ sizeLine; decide), fun r hr' => q r _ (same_new hr') upd_same⟩
    | true =>
      refine iteF ?_
      rw [c] at e
      have c1 : S.cut p = false := by
        cases h : S.cut p with
        | false => rfl
        | true => rw [h] at e; cases e
      obtain ⟨B1, h1⟩ : ∃ B1, S.there o1 = some B1 := by
        cases h : S.there o1 with
        | some B1 => exact ⟨B1, rfl⟩
        | none => rw [h, c1] at e; cases e
      obtain ⟨B2, h2⟩ : ∃ B2, S.there o2 = some B2 := by
        cases h : S.there o2 with
        | some B2 => exact ⟨B2, rfl⟩
        | none => rw [h, h1, c1] at e; cases e
      have e2 : endsOf S p = (endOf B1 p, endOf B2 p) := by
        unfold endsOf
        rw [ht]
        simp only
        rw [c1, h1, h2]
        rfl
      rw [e2] at q
      obtain ⟨v1, hv1, rfl⟩ := mth.some_ h1
      obtain ⟨v2, hv2, rfl⟩ := mth.some_ h2
      have hB1 := hY.brs o1 B1 h1
      have hB2 := hY.brs o2 B2 h2
      obtain ⟨⟨dx1, sh1, ha1, _⟩, _⟩ := id hB1
      refine ⟨_, rfl, y, _, L.dx, _, _, rfl, hY.ob, T.clY, T.y_plan, rfl, L.np, _, _, _, rfl, rfl, SqT.of hY.net.ob, rfl, _, rfl, L.at_, _, _, _, rfl, rfl, SqT.of hY.net.ts, hat, ?_⟩
      refine ⟨_, rfl, y, _, L.dx, _, _, rfl, hY.ob, T.clY, T.y_there, rfl, _, rfl, a, _, _, _, rfl, rfl, SqT.of ha, rfl, L.dth, _, rfl, by rw [← hv1]; exact DGet.k (k := ik o1) hth, L.ba o1, dx1, _, rfl, ha1, rfl, _, rfl, L.ba o1, L.bt o1, L.bk o1, B1, p, rfl, hB1, fun H1 s1 => ?_⟩
      have hB2' := hB2.same s1
      obtain ⟨⟨dx2, sh2, ha2, _⟩, _⟩ := id hB2'
      refine ⟨_, rfl, y, _, L.dx, _, _, rfl, s1 _ _ hY.ob, T.clY, T.y_there, rfl, _, rfl, a, _, _, _, rfl, rfl, SqT.of (s1 _ _ ha), rfl, L.dth, _, rfl, by rw [← hv2]; exact DGet.k (k := ik o2) (s1 _ _ hth), L.ba o2, dx2, _, rfl, ha2, rfl, _, rfl, L.ba o2, L.bt o2, L.bk o2, B2, p, rfl, hB2', fun H2 s2 => ?_⟩
      refine ⟨(by show 2 ≤ sizeLine; decide), fun r hr' => q r _ ((s1.trans s2).trans (same_new hr')) upd_same⟩
end
end Sw

/-! Sw: the walk of is_count, is_shaped, Yard.can, Yard.down. -/
namespace Sw
open PySem PySem.Spec PyProof.Rows L2
section
variable {P : Program} {w : World} {K : PySem.W.Frag} {mg : Str → Option Value} {base : Heap}

/-! ### deeds -/
inductive Deed where
  | tick (b : Int) | come (k : Int) | lost (k : Int) | fallB (b : Int) | backB (b : Int) | fallT (p : Int) | backT (p : Int)
def deedVs : Deed → List V
  | .tick b => [.str "tick", .int b]
  | .come k => [.str "come", .int k]
  | .lost k => [.str "lost", .int k]
  | .fallB b => [.str "fall", .str "bridge", .int b]
  | .backB b => [.str "back", .str "bridge", .int b]
  | .fallT p => [.str "fall", .str "tie", .int p]
  | .backT p => [.str "back", .str "tie", .int p]
def DeedAt (H : Hp) (v : V) (d : Deed) : Prop := ∃ a, v = .ref a ∧ H a = some (.tup (deedVs d))
def Can (S : Yd) : Deed → Prop
  | .tick b => ∃ B, S.there b = some B
  | .come k => 0 ≤ k ∧ k < S.road.length
  | .lost k => 0 ≤ k ∧ k < S.road.length
  | .fallB b => b ∈ S.net.bs ∧ ∃ B, S.there b = some B
  | .backB b => b ∈ S.net.bs ∧ S.there b = none
  | .fallT p => (0 ≤ p ∧ p < S.net.ts.length) ∧ S.cut p = false
  | .backT p => (0 ≤ p ∧ p < S.net.ts.length) ∧ S.cut p = true

/-! ### is_count -/
def sp_ic : Sp := fun vs H Q _ => ∃ i, vs = [.int i] ∧ Q (.bl true) H
theorem sc_ic : FnScope ["thing"] ["thing"] (defScope s_ic) := ⟨rfl, rfl, rfl, by decide +kernel, rfl, by decide +kernel, by decide +kernel⟩
theorem ok_ic (T : Tx K mg) : Cal P w K mg base 1 (He.fAd K ("is_count", none)) ["thing"] sp_ic := by
  obtain ⟨fd, F⟩ := T.f_ic
  refine Cal.mk2 F sc_ic (fun _ _ _ _ _ _ us hl => match us, hl with | [_], _ => rfl) (fun vs H Q E h => ?_) (fun cdv A outer s H vs Q E hr h => ?_)
  · obtain ⟨i, rfl, _⟩ := h
    rfl
  · obtain ⟨i, rfl, q⟩ := h
    refine ⟨_, pss_one (ps_ret (pe_and (pe_callB call_isi (by rfl) T.z_isinstance (by decide +kernel) (pa_cons (pv 0) (pa_cons (pe_bltn (v := .ty "int") (by rfl) T.z_int (by decide +kernel) rfl) pa_nil)))
      (pe_one (pe_not (pe_callB call_isi (by rfl) T.z_isinstance (by decide +kernel) (pa_cons (pv 0) (pa_cons (pe_bltn (v := .ty "bool") (by rfl) T.z_bool (by decide +kernel) rfl) pa_nil))))))), ?_⟩
    refine ⟨_, rfl, _, _, _, _, true, rfl, .ty "int", .base (.int i), kit_ty (by decide +kernel), _, rfl, iteT ?_⟩
    exact ⟨_, rfl, _, _, _, _, false, rfl, .ty "bool", .base (.int i), kit_ty (by decide +kernel), _, rfl, q⟩

/-! ### is_shaped -/
def sp_sh : Sp := fun vs H Q _ => ∃ v d, vs = [v] ∧ DeedAt H v d ∧ ∀ H', Same H H' → Q (.bl true) H'
theorem sc_sh : FnScope ["some"] ["some"] (defScope s_sh) := ⟨rfl, rfl, rfl, by decide +kernel, rfl, by decide +kernel, by decide +kernel⟩
theorem ok_sh (T : Tx K mg) : Cal P w K mg base 2 (He.fAd K ("is_shaped", none)) ["some"] sp_sh := by
  obtain ⟨fd, F⟩ := T.f_sh
  have GC := ok_ic (P := P) (w := w) (base := base) T
  refine Cal.mk2 F sc_sh (fun _ _ _ _ _ _ us hl => match us, hl with | [_], _ => rfl) (fun vs H Q E h => ?_) (fun cdv A outer s H vs Q E hr h => ?_)
  · obtain ⟨v, d, rfl, _⟩ := h
    rfl
  · obtain ⟨v, d, rfl, ⟨a, rfl, ha⟩, q⟩ := h
    refine ⟨_, pss_cons (ps_if (PW.pt (pw_or (pt_not (pt_val (pe_callB call_isi (by rfl) T.z_isinstance (by decide +kernel) (pa_cons (pv 0) (pa_cons (pe_bltn (v := .ty "tuple") (by rfl) T.z_tuple (by decide +kernel) rfl) pa_nil)))))
        (pw_or (pt_cmpR op_notIn_seq (pe_callB call_len_seq (by rfl) T.z_len PySem.boot_len (pa_cons (pv 0) pa_nil)) (pe_tup (pa_cons pe_int (pa_cons pe_int pa_nil))) (by rfl))
        (pw_or1 (pt_not (pt_val (pc_call GC hr rfl T.g_ic (pa_cons (pe_ix ix_tup (pv 0) (pe_un un_neg pe_int) (fun _ _ => rfl)) pa_nil)))))))) (pss_one (ps_ret pe_bl)) pss_nil)
      (pss_cons (ps_if (pt_not (pt_val (pe_callB call_isi (by rfl) T.z_isinstance (by decide +kernel) (pa_cons (pe_ix ix_tup (pv 0) pe_int (fun _ _ => rfl)) (pa_cons (pe_bltn (v := .ty "str") (by rfl) T.z_str (by decide +kernel) rfl) pa_nil))))) (pss_one (ps_ret pe_bl)) pss_nil)
      (pss_cons (ps_if (pt_cmpR op_eq (pe_callB call_len_seq (by rfl) T.z_len PySem.boot_len (pa_cons (pv 0) pa_nil)) pe_int (nomark _))
        (pss_one (ps_ret (pe_cmpR op_in_seq (pe_ix ix_tup (pv 0) pe_int (fun _ _ => rfl)) (pe_tup (pa_cons pe_str (pa_cons pe_str (pa_cons pe_str pa_nil)))) (by rfl)))) pss_nil)
      (pss_one (ps_ret (pe_and (pe_cmpR op_in_seq (pe_ix ix_tup (pv 0) pe_int (fun _ _ => rfl)) (pe_tup (pa_cons pe_str (pa_cons pe_str pa_nil))) (by rfl))
        (pe_and (pe_callB call_isi (by rfl) T.z_isinstance (by decide +kernel) (pa_cons (pe_ix ix_tup (pv 0) pe_int (fun _ _ => rfl)) (pa_cons (pe_bltn (v := .ty "str") (by rfl) T.z_str (by decide +kernel) rfl) pa_nil)))
        (pe_one (pe_cmpR op_in_seq (pe_ix ix_tup (pv 0) pe_int (fun _ _ => rfl)) (pe_tup (pa_cons pe_str (pa_cons pe_str pa_nil))) (by rfl))))))))), ?_⟩
    cases d with
    | tick b =>
      refine ⟨_, rfl, _, _, _, _, true, rfl, .ty "tuple", .base (.tup ha), kit_ty (by decide +kernel), _, rfl, iteF ?_⟩
      refine ⟨_, rfl, a, _, rfl, .inr (SqT.of ha), (by show 2 ≤ sizeLine; decide), fun t1 ht1 => ⟨t1, _, rfl, .inr (SqT.of upd_same), rfl, rfl, _, rfl, iteF ?_⟩⟩
      have s1 := same_new (o := .tup [.int 2, .int 3]) ht1
      refine ⟨_, rfl, _, rfl, a, _, _, _, rfl, rfl, SqT.of (s1 _ _ ha), rfl, _, rfl, _, rfl, iteF ?_⟩
      refine ⟨_, rfl, a, _, _, _, rfl, rfl, SqT.of (s1 _ _ ha), rfl, _, _, _, _, true, rfl, .ty "str", .base (.str _), kit_ty (by decide +kernel), _, rfl, iteF ?_⟩
      refine ⟨_, rfl, a, _, rfl, .inr (SqT.of (s1 _ _ ha)), rfl, _, rfl, iteT ?_⟩
      refine ⟨_, rfl, a, _, _, _, rfl, rfl, SqT.of (s1 _ _ ha), rfl, (by show 3 ≤ sizeLine; decide), fun t2 ht2 => ⟨t2, _, rfl, .inr (SqT.of upd_same), rfl, rfl, ?_⟩⟩
      exact q _ (s1.trans (same_new ht2))
    | come b =>
      refine ⟨_, rfl, _, _, _, _, true, rfl, .ty "tuple", .base (.tup ha), kit_ty (by decide +kernel), _, rfl, iteF ?_⟩
      refine ⟨_, rfl, a, _, rfl, .inr (SqT.of ha), (by show 2 ≤ sizeLine; decide), fun t1 ht1 => ⟨t1, _, rfl, .inr (SqT.of upd_same), rfl, rfl, _, rfl, iteF ?_⟩⟩
      have s1 := same_new (o := .tup [.int 2, .int 3]) ht1
      refine ⟨_, rfl, _, rfl, a, _, _, _, rfl, rfl, SqT.of (s1 _ _ ha), rfl, _, rfl, _, rfl, iteF ?_⟩
      refine ⟨_, rfl, a, _, _, _, rfl, rfl, SqT.of (s1 _ _ ha), rfl, _, _, _, _, true, rfl, .ty "str", .base (.str _), kit_ty (by decide +kernel), _, rfl, iteF ?_⟩
      refine ⟨_, rfl, a, _, rfl, .inr (SqT.of (s1 _ _ ha)), rfl, _, rfl, iteT ?_⟩
      refine ⟨_, rfl, a, _, _, _, rfl, rfl, SqT.of (s1 _ _ ha), rfl, (by show 3 ≤ sizeLine; decide), fun t2 ht2 => ⟨t2, _, rfl, .inr (SqT.of upd_same), rfl, rfl, ?_⟩⟩
      exact q _ (s1.trans (same_new ht2))
    | lost b =>
      refine ⟨_, rfl, _, _, _, _, true, rfl, .ty "tuple", .base (.tup ha), kit_ty (by decide +kernel), _, rfl, iteF ?_⟩
      refine ⟨_, rfl, a, _, rfl, .inr (SqT.of ha), (by show 2 ≤ sizeLine; decide), fun t1 ht1 => ⟨t1, _, rfl, .inr (SqT.of upd_same), rfl, rfl, _, rfl, iteF ?_⟩⟩
      have s1 := same_new (o := .tup [.int 2, .int 3]) ht1
      refine ⟨_, rfl, _, rfl, a, _, _, _, rfl, rfl, SqT.of (s1 _ _ ha), rfl, _, rfl, _, rfl, iteF ?_⟩
      refine ⟨_, rfl, a, _, _, _, rfl, rfl, SqT.of (s1 _ _ ha), rfl, _, _, _, _, true, rfl, .ty "str", .base (.str _), kit_ty (by decide +kernel), _, rfl, iteF ?_⟩
      refine ⟨_, rfl, a, _, rfl, .inr (SqT.of (s1 _ _ ha)), rfl, _, rfl, iteT ?_⟩
      refine ⟨_, rfl, a, _, _, _, rfl, rfl, SqT.of (s1 _ _ ha), rfl, (by show 3 ≤ sizeLine; decide), fun t2 ht2 => ⟨t2, _, rfl, .inr (SqT.of upd_same), rfl, rfl, ?_⟩⟩
      exact q _ (s1.trans (same_new ht2))
    | fallB b =>
      refine ⟨_, rfl, _, _, _, _, true, rfl, .ty "tuple", .base (.tup ha), kit_ty (by decide +kernel), _, rfl, iteF ?_⟩
      refine ⟨_, rfl, a, _, rfl, .inr (SqT.of ha), (by show 2 ≤ sizeLine; decide), fun t1 ht1 => ⟨t1, _, rfl, .inr (SqT.of upd_same), rfl, rfl, _, rfl, iteF ?_⟩⟩
      have s1 := same_new (o := .tup [.int 2, .int 3]) ht1
      refine ⟨_, rfl, _, rfl, a, _, _, _, rfl, rfl, SqT.of (s1 _ _ ha), rfl, _, rfl, _, rfl, iteF ?_⟩
      refine ⟨_, rfl, a, _, _, _, rfl, rfl, SqT.of (s1 _ _ ha), rfl, _, _, _, _, true, rfl, .ty "str", .base (.str _), kit_ty (by decide +kernel), _, rfl, iteF ?_⟩
      refine ⟨_, rfl, a, _, rfl, .inr (SqT.of (s1 _ _ ha)), rfl, _, rfl, iteF ?_⟩
      refine ⟨_, rfl, a, _, _, _, rfl, rfl, SqT.of (s1 _ _ ha), rfl, (by show 2 ≤ sizeLine; decide), fun t2 ht2 => ⟨t2, _, rfl, .inr (SqT.of upd_same), rfl, rfl, _, rfl, iteT ?_⟩⟩
      have s2 := s1.trans (same_new (o := .tup [.str "fall", .str "back"]) ht2)
      refine ⟨_, rfl, a, _, _, _, rfl, rfl, SqT.of (s2 _ _ ha), rfl, _, _, _, _, true, rfl, .ty "str", .base (.str _), kit_ty (by decide +kernel), _, rfl, iteT ?_⟩
      refine ⟨_, rfl, a, _, _, _, rfl, rfl, SqT.of (s2 _ _ ha), rfl, (by show 2 ≤ sizeLine; decide), fun t3 ht3 => ⟨t3, _, rfl, .inr (SqT.of upd_same), rfl, rfl, ?_⟩⟩
      exact q _ (s2.trans (same_new ht3))
    | backB b =>
      refine ⟨_, rfl, _, _, _, _, true, rfl, .ty "tuple", .base (.tup ha), kit_ty (by decide +kernel), _, rfl, iteF ?_⟩
      refine ⟨_, rfl, a, _, rfl, .inr (SqT.of ha), (by show 2 ≤ sizeLine; decide), fun t1 ht1 => ⟨t1, _, rfl, .inr (SqT.of upd_same), rfl, rfl, _, rfl, iteF ?_⟩⟩
      have s1 := same_new (o := .tup [.int 2, .int 3]) ht1
      refine ⟨_, rfl, _, rfl, a, _, _, _, rfl, rfl, SqT.of (s1 _ _ ha), rfl, _, rfl, _, rfl, iteF ?_⟩
      refine ⟨_, rfl, a, _, _, _, rfl, rfl, SqT.of (s1 _ _ ha), rfl, _, _, _, _, true, rfl, .ty "str", .base (.str _), kit_ty (by decide +kernel), _, rfl, iteF ?_⟩
      refine ⟨_, rfl, a, _, rfl, .inr (SqT.of (s1 _ _ ha)), rfl, _, rfl, iteF ?_⟩
      refine ⟨_, rfl, a, _, _, _, rfl, rfl, SqT.of (s1 _ _ ha), rfl, (by show 2 ≤ sizeLine; decide), fun t2 ht2 => ⟨t2, _, rfl, .inr (SqT.of upd_same), rfl, rfl, _, rfl, iteT ?_⟩⟩
      have s2 := s1.trans (same_new (o := .tup [.str "fall", .str "back"]) ht2)
      refine ⟨_, rfl, a, _, _, _, rfl, rfl, SqT.of (s2 _ _ ha), rfl, _, _, _, _, true, rfl, .ty "str", .base (.str _), kit_ty (by decide +kernel), _, rfl, iteT ?_⟩
      refine ⟨_, rfl, a, _, _, _, rfl, rfl, SqT.of (s2 _ _ ha), rfl, (by show 2 ≤ sizeLine; decide), fun t3 ht3 => ⟨t3, _, rfl, .inr (SqT.of upd_same), rfl, rfl, ?_⟩⟩
      exact q _ (s2.trans (same_new ht3))
    | fallT b =>
      refine ⟨_, rfl, _, _, _, _, true, rfl, .ty "tuple", .base (.tup ha), kit_ty (by decide +kernel), _, rfl, iteF ?_⟩
      refine ⟨_, rfl, a, _, rfl, .inr (SqT.of ha), (by show 2 ≤ sizeLine; decide), fun t1 ht1 => ⟨t1, _, rfl, .inr (SqT.of upd_same), rfl, rfl, _, rfl, iteF ?_⟩⟩
      have s1 := same_new (o := .tup [.int 2, .int 3]) ht1
      refine ⟨_, rfl, _, rfl, a, _, _, _, rfl, rfl, SqT.of (s1 _ _ ha), rfl, _, rfl, _, rfl, iteF ?_⟩
      refine ⟨_, rfl, a, _, _, _, rfl, rfl, SqT.of (s1 _ _ ha), rfl, _, _, _, _, true, rfl, .ty "str", .base (.str _), kit_ty (by decide +kernel), _, rfl, iteF ?_⟩
      refine ⟨_, rfl, a, _, rfl, .inr (SqT.of (s1 _ _ ha)), rfl, _, rfl, iteF ?_⟩
      refine ⟨_, rfl, a, _, _, _, rfl, rfl, SqT.of (s1 _ _ ha), rfl, (by show 2 ≤ sizeLine; decide), fun t2 ht2 => ⟨t2, _, rfl, .inr (SqT.of upd_same), rfl, rfl, _, rfl, iteT ?_⟩⟩
      have s2 := s1.trans (same_new (o := .tup [.str "fall", .str "back"]) ht2)
      refine ⟨_, rfl, a, _, _, _, rfl, rfl, SqT.of (s2 _ _ ha), rfl, _, _, _, _, true, rfl, .ty "str", .base (.str _), kit_ty (by decide +kernel), _, rfl, iteT ?_⟩
      refine ⟨_, rfl, a, _, _, _, rfl, rfl, SqT.of (s2 _ _ ha), rfl, (by show 2 ≤ sizeLine; decide), fun t3 ht3 => ⟨t3, _, rfl, .inr (SqT.of upd_same), rfl, rfl, ?_⟩⟩
      exact q _ (s2.trans (same_new ht3))
    | backT b =>
      refine ⟨_, rfl, _, _, _, _, true, rfl, .ty "tuple", .base (.tup ha), kit_ty (by decide +kernel), _, rfl, iteF ?_⟩
      refine ⟨_, rfl, a, _, rfl, .inr (SqT.of ha), (by show 2 ≤ sizeLine; decide), fun t1 ht1 => ⟨t1, _, rfl, .inr (SqT.of upd_same), rfl, rfl, _, rfl, iteF ?_⟩⟩
      have s1 := same_new (o := .tup [.int 2, .int 3]) ht1
      refine ⟨_, rfl, _, rfl, a, _, _, _, rfl, rfl, SqT.of (s1 _ _ ha), rfl, _, rfl, _, rfl, iteF ?_⟩
      refine ⟨_, rfl, a, _, _, _, rfl, rfl, SqT.of (s1 _ _ ha), rfl, _, _, _, _, true, rfl, .ty "str", .base (.str _), kit_ty (by decide +kernel), _, rfl, iteF ?_⟩
      refine ⟨_, rfl, a, _, rfl, .inr (SqT.of (s1 _ _ ha)), rfl, _, rfl, iteF ?_⟩
      refine ⟨_, rfl, a, _, _, _, rfl, rfl, SqT.of (s1 _ _ ha), rfl, (by show 2 ≤ sizeLine; decide), fun t2 ht2 => ⟨t2, _, rfl, .inr (SqT.of upd_same), rfl, rfl, _, rfl, iteT ?_⟩⟩
      have s2 := s1.trans (same_new (o := .tup [.str "fall", .str "back"]) ht2)
      refine ⟨_, rfl, a, _, _, _, rfl, rfl, SqT.of (s2 _ _ ha), rfl, _, _, _, _, true, rfl, .ty "str", .base (.str _), kit_ty (by decide +kernel), _, rfl, iteT ?_⟩
      refine ⟨_, rfl, a, _, _, _, rfl, rfl, SqT.of (s2 _ _ ha), rfl, (by show 2 ≤ sizeLine; decide), fun t3 ht3 => ⟨t3, _, rfl, .inr (SqT.of upd_same), rfl, rfl, ?_⟩⟩
      exact q _ (s2.trans (same_new ht3))
theorem iteP {c A B : Prop} [Decidable c] (hc : c) (h : A) : if c then A else B := by rw [if_pos hc]; exact h
/-! ### Yard.can -/
def sp_Yc (K : PySem.W.Frag) : Sp := fun vs H Q _ => ∃ y ll L S v d, vs = [.ref y, v] ∧ YdL K H y ll L S ∧ DeedAt H v d ∧ Can S d ∧ (∀ b, b ∈ S.net.bs → (S.lives b).isSome = true) ∧ ∀ H', Same H H' → Q (.bl true) H'
theorem sc_Yc : FnScope ["self", "some"] ["self", "some"] (defScope s_Yc) := ⟨rfl, rfl, rfl, by decide +kernel, rfl, by decide +kernel, by decide +kernel⟩
theorem ok_Yc (T : Tx K mg) : Cal P w K mg base 1 (He.fAd K ("Yard", some "can")) ["self", "some"] (sp_Yc K) := by
  obtain ⟨fd, F⟩ := T.f_Yc
  refine Cal.mk2 F sc_Yc (fun _ _ _ _ _ _ us hl => match us, hl with | [_, _], _ => rfl) (fun vs H Q E h => ?_) (fun cdv A outer s H vs Q E hr h => ?_)
  · obtain ⟨y, ll, L, S, v, d, rfl, _⟩ := h
    rfl
  · obtain ⟨y, ll, L, S, v, d, rfl, hY, ⟨a, rfl, ha⟩, hc, hl, q⟩ := h
    have hu := hu_of hr
    obtain ⟨kc, hcu, mc⟩ := hY.cutd
    obtain ⟨kt, hth, mth⟩ := hY.thr
    obtain ⟨kl, hli, mli⟩ := hY.liv
    obtain ⟨ms, hms, pms⟩ := hY.road
    have lms : ms.length = S.road.length := Paired.length pms
    have ltv : L.tv.length = S.net.ts.length := Paired.length hY.net.tie
    refine ⟨_, pss_cons (ps_if (pt_cmpR op_eq (pe_ix ix_tup (pv 1) pe_int (fun _ _ => rfl)) pe_str (nomark _)) (pss_one (ps_ret (pe_cmp (pc_din hu (pe_ix ix_tup (pv 1) pe_int (fun _ _ => rfl)) (pe_fld (pv 0) rfl))))) pss_nil)
      (pss_cons (ps_if (pt_cmpR op_in_seq (pe_ix ix_tup (pv 1) pe_int (fun _ _ => rfl)) (pe_tup (pa_cons pe_str (pa_cons pe_str pa_nil))) (by rfl)) (pss_one (ps_ret (pe_chain op_le op_lt pe_int (pe_ix ix_tup (pv 1) pe_int (fun _ _ => rfl)) (pe_callB call_len_seq (by rfl) T.z_len PySem.boot_len (pa_cons (pe_fld (pv 0) rfl) pa_nil))))) pss_nil)
      (pss_cons (ps_if (pt_cmpR op_eq (pe_ix ix_tup (pv 1) pe_int (fun _ _ => rfl)) pe_str (nomark _)) (pss_one (ps_ret (pe_and (pe_cmp (pc_din hu (pe_ix ix_tup (pv 1) pe_int (fun _ _ => rfl)) (pe_fld (pv 0) rfl))) (pe_one (pe_cmpR op_eq (pe_cmp (pc_din hu (pe_ix ix_tup (pv 1) pe_int (fun _ _ => rfl)) (pe_fld (pv 0) rfl))) (pe_cmpR op_eq (pe_ix ix_tup (pv 1) pe_int (fun _ _ => rfl)) pe_str (nomark _)) (nomark _)))))) pss_nil)
      (pss_one (ps_ret (pe_and (pe_chain op_le op_lt pe_int (pe_ix ix_tup (pv 1) pe_int (fun _ _ => rfl)) (pe_callB call_len_seq (by rfl) T.z_len PySem.boot_len (pa_cons (pe_ix ix_tup (pe_fld (pv 0) rfl) pe_int (fun _ _ => rfl)) pa_nil)))
        (pe_one (pe_cmpR op_eq (pe_cmp (pc_din hu (pe_ix ix_tup (pv 1) pe_int (fun _ _ => rfl)) (pe_fld (pv 0) rfl))) (pe_cmpR op_eq (pe_ix ix_tup (pv 1) pe_int (fun _ _ => rfl)) pe_str (nomark _)) (nomark _)))))))), ?_⟩
    cases d with
    | tick b =>
      obtain ⟨B, hB⟩ := hc
      refine ⟨_, rfl, a, _, _, _, rfl, rfl, SqT.of ha, rfl, rfl, _, rfl, iteT ?_⟩
      refine ⟨_, rfl, a, _, _, _, rfl, rfl, SqT.of ha, rfl, _, rfl, y, _, L.dx, _, _, rfl, hY.ob, T.clY, T.y_there, rfl, L.dth, _, rfl, DGet.k (k := ik b) hth, ?_⟩
      rw [mth.isSome, hB]
      exact q H (Same.refl H)
    | come k =>
      refine ⟨_, rfl, a, _, _, _, rfl, rfl, SqT.of ha, rfl, rfl, _, rfl, iteF ?_⟩
      refine ⟨_, rfl, a, _, _, _, rfl, rfl, SqT.of ha, rfl, (by show 2 ≤ sizeLine; decide), fun t1 ht1 => ⟨t1, _, rfl, .inr (SqT.of upd_same), rfl, rfl, _, rfl, iteT ?_⟩⟩
      have s1 := same_new (o := .tup [.str "come", .str "lost"]) ht1
      obtain ⟨h0, h1⟩ := hc
      refine ⟨_, rfl, a, _, _, _, rfl, rfl, SqT.of (s1 _ _ ha), rfl, _, _, rfl, rfl, _, rfl, iteP (decide_eq_true h0) ?_⟩
      refine ⟨_, rfl, y, _, L.dx, _, _, rfl, s1 _ _ hY.ob, T.clY, T.y_letters, rfl, ll, ms, rfl, .inl (SqL.of (s1 _ _ hms)), _, _, rfl, rfl, ?_⟩
      show Q (V.bl (decide (k < (ms.length : Int)))) _
      rw [decide_eq_true (by omega : k < (ms.length : Int))]
      exact q _ s1
    | lost k =>
      refine ⟨_, rfl, a, _, _, _, rfl, rfl, SqT.of ha, rfl, rfl, _, rfl, iteF ?_⟩
      refine ⟨_, rfl, a, _, _, _, rfl, rfl, SqT.of ha, rfl, (by show 2 ≤ sizeLine; decide), fun t1 ht1 => ⟨t1, _, rfl, .inr (SqT.of upd_same), rfl, rfl, _, rfl, iteT ?_⟩⟩
      have s1 := same_new (o := .tup [.str "come", .str "lost"]) ht1
      obtain ⟨h0, h1⟩ := hc
      refine ⟨_, rfl, a, _, _, _, rfl, rfl, SqT.of (s1 _ _ ha), rfl, _, _, rfl, rfl, _, rfl, iteP (decide_eq_true h0) ?_⟩
      refine ⟨_, rfl, y, _, L.dx, _, _, rfl, s1 _ _ hY.ob, T.clY, T.y_letters, rfl, ll, ms, rfl, .inl (SqL.of (s1 _ _ hms)), _, _, rfl, rfl, ?_⟩
      show Q (V.bl (decide (k < (ms.length : Int)))) _
      rw [decide_eq_true (by omega : k < (ms.length : Int))]
      exact q _ s1
    | fallB b =>
      refine ⟨_, rfl, a, _, _, _, rfl, rfl, SqT.of ha, rfl, rfl, _, rfl, iteF ?_⟩
      refine ⟨_, rfl, a, _, _, _, rfl, rfl, SqT.of ha, rfl, (by show 2 ≤ sizeLine; decide), fun t1 ht1 => ⟨t1, _, rfl, .inr (SqT.of upd_same), rfl, rfl, _, rfl, iteF ?_⟩⟩
      have s1 := same_new (o := .tup [.str "come", .str "lost"]) ht1
      obtain ⟨hb, hB⟩ := hc
      refine ⟨_, rfl, a, _, _, _, rfl, rfl, SqT.of (s1 _ _ ha), rfl, rfl, _, rfl, iteT ?_⟩
      refine ⟨_, rfl, a, _, _, _, rfl, rfl, SqT.of (s1 _ _ ha), rfl, _, rfl, y, _, L.dx, _, _, rfl, s1 _ _ hY.ob, T.clY, T.y_lives, rfl, L.dl, _, rfl, DGet.k (k := ik b) (s1 _ _ hli), _, rfl, iteP (by rw [mli.isSome]; exact hl b hb) ?_⟩
      refine ⟨_, rfl, a, _, _, _, rfl, rfl, SqT.of (s1 _ _ ha), rfl, _, rfl, y, _, L.dx, _, _, rfl, s1 _ _ hY.ob, T.clY, T.y_there, rfl, L.dth, _, rfl, DGet.k (k := ik b) (s1 _ _ hth), _, rfl, a, _, _, _, rfl, rfl, SqT.of (s1 _ _ ha), rfl, rfl, rfl, ?_⟩
      obtain ⟨B, hB⟩ := hB
      rw [mth.isSome, hB]
      exact q _ s1
    | backB b =>
      refine ⟨_, rfl, a, _, _, _, rfl, rfl, SqT.of ha, rfl, rfl, _, rfl, iteF ?_⟩
      refine ⟨_, rfl, a, _, _, _, rfl, rfl, SqT.of ha, rfl, (by show 2 ≤ sizeLine; decide), fun t1 ht1 => ⟨t1, _, rfl, .inr (SqT.of upd_same), rfl, rfl, _, rfl, iteF ?_⟩⟩
      have s1 := same_new (o := .tup [.str "come", .str "lost"]) ht1
      obtain ⟨hb, hB⟩ := hc
      refine ⟨_, rfl, a, _, _, _, rfl, rfl, SqT.of (s1 _ _ ha), rfl, rfl, _, rfl, iteT ?_⟩
      refine ⟨_, rfl, a, _, _, _, rfl, rfl, SqT.of (s1 _ _ ha), rfl, _, rfl, y, _, L.dx, _, _, rfl, s1 _ _ hY.ob, T.clY, T.y_lives, rfl, L.dl, _, rfl, DGet.k (k := ik b) (s1 _ _ hli), _, rfl, iteP (by rw [mli.isSome]; exact hl b hb) ?_⟩
      refine ⟨_, rfl, a, _, _, _, rfl, rfl, SqT.of (s1 _ _ ha), rfl, _, rfl, y, _, L.dx, _, _, rfl, s1 _ _ hY.ob, T.clY, T.y_there, rfl, L.dth, _, rfl, DGet.k (k := ik b) (s1 _ _ hth), _, rfl, a, _, _, _, rfl, rfl, SqT.of (s1 _ _ ha), rfl, rfl, rfl, ?_⟩
      rw [mth.isSome, hB]
      exact q _ s1
    | fallT p =>
      refine ⟨_, rfl, a, _, _, _, rfl, rfl, SqT.of ha, rfl, rfl, _, rfl, iteF ?_⟩
      refine ⟨_, rfl, a, _, _, _, rfl, rfl, SqT.of ha, rfl, (by show 2 ≤ sizeLine; decide), fun t1 ht1 => ⟨t1, _, rfl, .inr (SqT.of upd_same), rfl, rfl, _, rfl, iteF ?_⟩⟩
      have s1 := same_new (o := .tup [.str "come", .str "lost"]) ht1
      obtain ⟨⟨h0, h1⟩, h2⟩ := hc
      refine ⟨_, rfl, a, _, _, _, rfl, rfl, SqT.of (s1 _ _ ha), rfl, rfl, _, rfl, iteF ?_⟩
      refine ⟨_, rfl, a, _, _, _, rfl, rfl, SqT.of (s1 _ _ ha), rfl, _, _, rfl, rfl, _, rfl, iteP (decide_eq_true h0) ?_⟩
      refine ⟨_, rfl, y, _, L.dx, _, _, rfl, s1 _ _ hY.ob, T.clY, T.y_plan, rfl, L.np, _, _, _, rfl, rfl, SqT.of (s1 _ _ hY.net.ob), rfl, L.at_, L.tv, rfl, .inr (SqT.of (s1 _ _ hY.net.ts)), _, _, rfl, rfl, _, rfl, iteP (decide_eq_true (by show p < (L.tv.length : Int); omega)) ?_⟩
      refine ⟨_, rfl, a, _, _, _, rfl, rfl, SqT.of (s1 _ _ ha), rfl, _, rfl, y, _, L.dx, _, _, rfl, s1 _ _ hY.ob, T.clY, T.y_cut, rfl, L.dc, _, rfl, DGet.k (k := ik p) (s1 _ _ hcu), _, rfl, a, _, _, _, rfl, rfl, SqT.of (s1 _ _ ha), rfl, rfl, rfl, ?_⟩
      rw [mc.isSome, cutM_some, h2]
      exact q _ s1
    | backT p =>
      refine ⟨_, rfl, a, _, _, _, rfl, rfl, SqT.of ha, rfl, rfl, _, rfl, iteF ?_⟩
      refine ⟨_, rfl, a, _, _, _, rfl, rfl, SqT.of ha, rfl, (by show 2 ≤ sizeLine; decide), fun t1 ht1 => ⟨t1, _, rfl, .inr (SqT.of upd_same), rfl, rfl, _, rfl, iteF ?_⟩⟩
      have s1 := same_new (o := .tup [.str "come", .str "lost"]) ht1
      obtain ⟨⟨h0, h1⟩, h2⟩ := hc
      refine ⟨_, rfl, a, _, _, _, rfl, rfl, SqT.of (s1 _ _ ha), rfl, rfl, _, rfl, iteF ?_⟩
      refine ⟨_, rfl, a, _, _, _, rfl, rfl, SqT.of (s1 _ _ ha), rfl, _, _, rfl, rfl, _, rfl, iteP (decide_eq_true h0) ?_⟩
      refine ⟨_, rfl, y, _, L.dx, _, _, rfl, s1 _ _ hY.ob, T.clY, T.y_plan, rfl, L.np, _, _, _, rfl, rfl, SqT.of (s1 _ _ hY.net.ob), rfl, L.at_, L.tv, rfl, .inr (SqT.of (s1 _ _ hY.net.ts)), _, _, rfl, rfl, _, rfl, iteP (decide_eq_true (by show p < (L.tv.length : Int); omega)) ?_⟩
      refine ⟨_, rfl, a, _, _, _, rfl, rfl, SqT.of (s1 _ _ ha), rfl, _, rfl, y, _, L.dx, _, _, rfl, s1 _ _ hY.ob, T.clY, T.y_cut, rfl, L.dc, _, rfl, DGet.k (k := ik p) (s1 _ _ hcu), _, rfl, a, _, _, _, rfl, rfl, SqT.of (s1 _ _ ha), rfl, rfl, rfl, ?_⟩
      rw [mc.isSome, cutM_some, h2]
      exact q _ s1
end
end Sw

/-! Sw: the walk of Yard.down, Yard.open_ties. -/
namespace Sw
open PySem PySem.Spec PyProof.Rows L2
section
variable {P : Program} {w : World} {K : PySem.W.Frag} {mg : Str → Option Value} {base : Heap}

/-! ### Yard.down -/
theorem pe_fldB {X : Cx} {K' : PySem.W.Frag} {e : Expr} {f : Str} {pos : Pos} {ta : TE} (hK : X.K = K') (he : PE X e ta) (hb : attributeBase e f X.env (eval e X.env) = eval e X.env) : PE X (.Attribute e f pos) (tFld K' ta f) := hK ▸ pe_fld he hb
def sp_Yw (K : PySem.W.Frag) : Sp := fun vs H Q _ => ∃ y ll L S, vs = [.ref y] ∧ YdL K H y ll L S ∧ Good S ∧
  ∀ (r b1 c1 : Addr) (bl cl : List Int) (H' : Hp), Same H H' → H' r = some (.tup [.ref b1, .ref c1]) → H' b1 = some (.tup (bl.map V.int)) → H' c1 = some (.tup (cl.map V.int)) → (∀ b, b ∈ bl ↔ b ∈ S.net.bs ∧ S.there b = none) → (∀ p, p ∈ cl ↔ S.cut p = true) → Q (.ref r) H'
theorem sc_Yw : FnScope ["self", "bridges", "number"] ["self"] (defScope s_Yw) := ⟨rfl, rfl, rfl, by decide +kernel, rfl, by decide +kernel, by decide +kernel⟩
theorem take_step {α : Type} {l : List α} {i : Nat} {x : α} (h : l[i]? = some x) : l.take (i + 1) = l.take i ++ [x] := by
  rw [List.take_add_one, h]; rfl
theorem map_at {ns : List Int} {i : Nat} {v : V} (h : (ns.map V.int)[i]? = some v) : ∃ z, ns[i]? = some z ∧ v = V.int z := by
  rw [List.getElem?_map] at h
  cases e : ns[i]? with
  | none => rw [e] at h; cases h
  | some z => rw [e] at h; exact ⟨z, rfl, (Option.some.inj h).symm⟩
theorem ok_Yw (T : Tx K mg) : Cal P w K mg base 1 (He.fAd K ("Yard", some "down")) ["self"] (sp_Yw K) := by
  obtain ⟨fd, F⟩ := T.f_Yw
  refine Cal.mk2 F sc_Yw (fun _ _ _ _ _ _ us hl => match us, hl with | [_], _ => rfl) (fun vs H Q E h => ?_) (fun cdv A outer s H vs Q E hr h => ?_)
  · obtain ⟨y, ll, L, S, rfl, _⟩ := h
    rfl
  · obtain ⟨y, ll, L, S, rfl, hY, G, q⟩ := h
    have hu := hu_of hr
    obtain ⟨kc, hcu, mc⟩ := hY.cutd
    obtain ⟨kt, hth, mth⟩ := hY.thr
    refine ⟨_, pss_cons (ps_set (i := 1) sc_Yw.nd rfl (.inl rfl) (pe_callTy call_tuple_of (by rfl) T.z_tuple (by decide +kernel) (pa_cons (pe_lc (own := [("number", 2)]) (g := gName 2) rfl sc_Yw.nd (pi_tup (pe_ix ix_tup (pe_fld (pv 0) rfl) pe_int (fun _ _ => rfl)))
          (blkOk_by (own := [("number", 2)]) (N := ["self", "bridges", "number"]) (sc := defScope s_Yw) (by decide +kernel))
          (fun _ _ _ _ _ => pg_name (i := 2) sc_Yw.nd rfl (.inl rfl)) (fun _ _ _ _ _ => pts_one (pt_cmp (pc_dnotin hu (pv 2) (pe_fldB (K' := K) (by rfl) (pv 0) (by rfl))))) (fun _ _ _ _ _ => pv 2)) pa_nil)))
      (pss_one (ps_ret (pe_tup (pa_cons (pv 1) (pa_cons (pe_callTy call_tuple_of (by rfl) T.z_tuple (by decide +kernel) (pa_cons (pe_callB (call_sortedDI rfl) (by rfl) T.z_sorted boot_sorted (pa_cons (pe_fld (pv 0) rfl) pa_nil)) pa_nil)) pa_nil))))), ?_⟩
    refine ⟨_, rfl, y, _, L.dx, _, _, rfl, hY.ob, T.clY, T.y_plan, rfl, L.np, _, _, _, rfl, rfl, SqT.of hY.net.ob, rfl, L.ab, rfl, ⟨_, SqT.of hY.net.bs⟩, fun D hD => ?_⟩
    have s0 : Same H (upd H D (.lst [])) := same_new hD
    refine lc_tup (K := K) (a := L.ab) (xs := S.net.bs.map V.int) (fun i H' => H' D = some (.lst (((S.net.bs.take i).filter fun b => (S.there b).isNone).map V.int)) ∧ Same H H') ⟨upd_same, s0⟩ (fun i H' _ h => SqT.of (h.2 _ _ hY.net.bs)) ?_ ?_
    · rintro i v H' hi ⟨hDv, s1⟩
      obtain ⟨b, hb, rfl⟩ := map_at hi
      have hlt : i < S.net.bs.length := (List.getElem?_eq_some_iff.mp hb).1
      have h10 := G.net.ten
      refine ⟨rfl, ?_⟩
      refine ⟨_, rfl, _, rfl, y, _, L.dx, _, _, rfl, s1 _ _ hY.ob, T.clY, T.y_there, rfl, L.dth, _, rfl, DGet.k (k := ik b) (s1 _ _ hth), _, rfl, ?_⟩
      rw [mth.isSome, take_step hb, List.filter_append, List.map_append]
      cases e : S.there b with
      | some B =>
        refine iteF ?_
        have e2 : ([b].filter fun b => (S.there b).isNone) = [] := by simp [e]
        rw [e2, List.map_nil, List.append_nil]
        exact ⟨hDv, s1⟩
      | none =>
        refine iteT ?_
        have e2 : ([b].filter fun b => (S.there b).isNone) = [b] := by simp [e]
        rw [e2]
        refine ⟨_, rfl, _, hDv, small16 ?_, upd_same, fun c o e3 => ?_⟩
        · rw [List.length_map]
          exact Nat.le_trans (List.length_filter_le _ _) (Nat.le_trans (List.length_take_le _ _) (by omega))
        · have hne : c ≠ D := fun z => by rw [z, hD] at e3; cases e3
          rw [upd_ne hne]; exact s1 _ _ e3
    · rintro H' ⟨hDv, s1⟩
      rw [List.length_map, List.take_length] at hDv
      refine ⟨D, _, rfl, .inl ⟨SqL.of hDv, fun b1 hb1 => ?_⟩⟩
      have s2 := s1.trans (same_new (o := .tup ((S.net.bs.filter fun b => (S.there b).isNone).map V.int)) hb1)
      obtain ⟨ks, hks, nks, mks⟩ := mc.keys
      have hk16 : kc.length ≤ 16 := mc.few_to 16 fun p x e => by
        have hcp : S.cut p = true := by
          cases h : S.cut p with
          | true => rfl
          | false =>
            unfold cutM at e
            rw [h] at e
            cases e
        obtain ⟨c0, c1⟩ := G.cutd p hcp
        have := G.net.few
        omega
      have lks : kc.length = ks.length := by
        have e := congrArg List.length hks
        rwa [List.length_map, List.length_map] at e
      refine ⟨_, rfl, _, rfl, y, _, L.dx, _, _, rfl, s2 _ _ hY.ob, T.clY, T.y_cut, rfl, L.dc, kc, ks, rfl, .inl (s2 _ _ hcu), hks, by omega, fun ys p perm rise hp => ⟨p, _, rfl, .inl ⟨SqL.of upd_same, fun c1 hc1 => ⟨(by show 2 ≤ sizeLine; decide), fun r hr' => ?_⟩⟩⟩⟩
      have s3 := s2.trans (same_new (o := .lst (ys.map V.int)) hp)
      have s4 := s3.trans (same_new (o := .tup (ys.map V.int)) hc1)
      have s5 := s4.trans (same_new (o := .tup [.ref b1, .ref c1]) hr')
      have sb := ((same_new (o := .lst (ys.map V.int)) hp).trans (same_new (o := .tup (ys.map V.int)) hc1)).trans (same_new (o := .tup [.ref b1, .ref c1]) hr')
      refine q r b1 c1 _ ys _ s5 upd_same (sb _ _ upd_same) (same_new hr' _ _ upd_same) (fun b => ?_) fun p2 => ?_
      · rw [List.mem_filter]
        cases e : S.there b <;> simp
      · rw [perm.mem_iff, mks p2, cutM_some]

/-! ### Yard.open_ties -/
def sp_Yo (K : PySem.W.Frag) : Sp := fun vs H Q _ => ∃ y ll L S b, vs = [.ref y, .int b] ∧ YdL K H y ll L S ∧ S.net.ts.length ≤ 16 ∧
  ∀ p tvs nbs H', Same H H' → H p = none → H' p = some (.lst tvs) → Paired (TieAt H') tvs nbs → tvs.length ≤ 16 → (∀ z, z ∈ nbs → Conn S.net.ts z.1 b z.2.1 z.2.2 ∧ S.cut z.1 = false ∧ ∃ C, S.there z.2.1 = some C) → Q (.ref p) H'
theorem sc_Yo : FnScope ["self", "number", "found", "place", "other", "cost"] ["self", "number"] (defScope s_Yo) := ⟨rfl, rfl, rfl, by decide +kernel, rfl, by decide +kernel, by decide +kernel⟩
theorem ok_Yo (T : Tx K mg) : Cal P w K mg base 2 (He.fAd K ("Yard", some "open_ties")) ["self", "number"] (sp_Yo K) := by
  obtain ⟨fd, F⟩ := T.f_Yo
  have GN := ok_ne (P := P) (w := w) (base := base) T
  refine Cal.mk2 F sc_Yo (fun _ _ _ _ _ _ us hl => match us, hl with | [_, _], _ => rfl) (fun vs H Q E h => ?_) (fun cdv A outer s H vs Q E hr h => ?_)
  · obtain ⟨y, ll, L, S, b, rfl, _⟩ := h
    rfl
  · obtain ⟨y, ll, L, S, b, rfl, hY, h16, q⟩ := h
    have hu := hu_of hr
    obtain ⟨kc, hcu, mc⟩ := hY.cutd
    obtain ⟨kt, hth, mth⟩ := hY.thr
    refine ⟨_, pss_cons (ps_set (i := 2) sc_Yo.nd rfl (.inl rfl) (pe_lst pa_nil))
      (pss_cons (ps_for PassesOwn.never rfl (pi_list (pc_call GN hr rfl T.g_ne (pa_cons (pe_fld (pv 0) rfl) (pa_cons (pv 1) pa_nil)))) (pg_tup rfl (pgs_cons (pg_name (i := 3) sc_Yo.nd rfl (.inl rfl)) (pgs_cons (pg_name (i := 4) sc_Yo.nd rfl (.inl rfl)) (pgs_cons (pg_name (i := 5) sc_Yo.nd rfl (.inl rfl)) pgs_nil))))
        (pss_one (ps_if (PW.pt (pw_and (pt_cmp (pc_dnotin hu (pv 3) (pe_fld (pv 0) rfl))) (pw_and1 (pt_cmp (pc_din hu (pv 4) (pe_fld (pv 0) rfl))))))
          (pss_one (ps_expr (pe_bm PySem.F.plainAttrs_list PySem.F.slot_list_append PySem.F.type_list_append mt_append (pv 2) (pa_cons (pe_tup (pa_cons (pv 3) (pa_cons (pv 4) (pa_cons (pv 5) pa_nil)))) pa_nil)))) pss_nil)))
      (pss_one (ps_ret (pv 2)))), ?_⟩
    refine ⟨(by show 0 ≤ sizeLine; decide), fun D hD => ?_⟩
    have s1 : Same H (upd H D (.lst [])) := same_new hD
    refine ⟨_, rfl, y, _, L.dx, _, _, rfl, s1 _ _ hY.ob, T.clY, T.y_plan, rfl, _, rfl, L.np, L.ab, L.at_, L.tv, S.net, b, rfl, hY.net.keep (.of s1), h16, fun n tvs nbs H2 s2 hn hnv pr hl hc => ?_⟩
    have s12 := s1.trans s2
    have nD : n ≠ D := fun z => by rw [z, upd_same] at hn; cases hn
    refine ⟨n, rfl, ⟨_, SqL.of hnv⟩, for_list (K := K) (a := n) (xs := tvs) (fun i σ H3 => (∃ x3 x4 x5, σ = [some (.ref y), some (.int b), some (.ref D), x3, x4, x5]) ∧ Same H H3 ∧ (∀ c o, H2 c = some o → c ≠ D → H3 c = some o) ∧
        ∃ tv2 nb2, H3 D = some (.lst tv2) ∧ Paired (TieAt H3) tv2 nb2 ∧ tv2.length ≤ i ∧ ∀ z, z ∈ nb2 → Conn S.net.ts z.1 b z.2.1 z.2.2 ∧ S.cut z.1 = false ∧ ∃ C, S.there z.2.1 = some C)
      ⟨⟨none, none, none, rfl⟩, s12, fun c o e _ => e, [], [], s2 _ _ upd_same, .nil, Nat.zero_le _, fun z hz => by cases hz⟩ (fun i σ H3 _ h => SqL.of (h.2.2.1 _ _ hnv nD)) ?_ ?_⟩
    · rintro i v σ H3 hi ⟨⟨x3, x4, x5, rfl⟩, s3, fr, tv2, nb2, hDv, pr2, hli, hc2⟩
      obtain ⟨⟨p, c, k⟩, hz, a, rfl, ha⟩ := paired_at' pr hi
      have hil : i < tvs.length := (List.getElem?_eq_some_iff.mp hi).1
      have aD : a ≠ D := fun z => by rw [z, s2 _ _ upd_same] at ha; cases ha
      have ha3 := fr _ _ ha aD
      refine ⟨a, _, rfl, SqT.of ha3, rfl, _, _, rfl, _, _, rfl, _, _, rfl, rfl, ?_⟩
      refine ⟨_, rfl, _, rfl, y, _, L.dx, _, _, rfl, s3 _ _ hY.ob, T.clY, T.y_cut, rfl, L.dc, _, rfl, DGet.k (k := ik p) (s3 _ _ hcu), _, rfl, ?_⟩
      rw [mc.isSome, cutM_some]
      cases ec : S.cut p with
      | true =>
        refine iteF ?_
        refine iteF ?_
        exact ⟨⟨_, _, _, rfl⟩, s3, fr, tv2, nb2, hDv, pr2, by omega, hc2⟩
      | false =>
        refine iteT ?_
        refine ⟨_, rfl, _, rfl, y, _, L.dx, _, _, rfl, s3 _ _ hY.ob, T.clY, T.y_there, rfl, L.dth, _, rfl, DGet.k (k := ik c) (s3 _ _ hth), _, rfl, ?_⟩
        rw [mth.isSome]
        cases et : S.there c with
        | none =>
          refine iteF ?_
          exact ⟨⟨_, _, _, rfl⟩, s3, fr, tv2, nb2, hDv, pr2, by omega, hc2⟩
        | some C =>
          refine iteT ?_
          refine ⟨_, rfl, .inl ⟨rfl, _, .inl (.inl hDv)⟩, _, rfl, _, rfl, _, rfl, (by show 3 ≤ sizeLine; decide), fun u hu2 => ?_⟩
          have s4 := same_new (o := .tup [.int p, .int c, .int k]) hu2
          refine ⟨D, tv2, .ref u, rfl, rfl, s4 _ _ hDv, small16 (by omega), ?_⟩
          have t5 : TupK (upd H3 u (.tup [.int p, .int c, .int k])) (upd (upd H3 u (.tup [.int p, .int c, .int k])) D (.lst (tv2 ++ [.ref u]))) := tupK_upd fun xs e => by rw [s4 _ _ hDv] at e; cases e
          have une : u ≠ D := fun z => by rw [z, hDv] at hu2; cases hu2
          refine ⟨⟨_, _, _, rfl⟩, fun x o e => ?_, fun x o e nx => by rw [upd_ne nx]; exact s4 _ _ (fr _ _ e nx), _, nb2 ++ [(p, c, k)], upd_same, paired_app (Paired.mapP pr2 fun _ _ r => r.keep ((TupK.of s4).trans t5)) (.cons ⟨u, rfl, by rw [upd_ne une]; exact upd_same⟩ .nil), by rw [List.length_append]; simp only [List.length_cons, List.length_nil]; omega, fun z hz2 => ?_⟩
          · have xD : x ≠ D := fun w => by rw [w, hD] at e; cases e
            rw [upd_ne xD]; exact s4 _ _ (s3 _ _ e)
          · rcases List.mem_append.mp hz2 with hz2 | hz2
            · exact hc2 z hz2
            · have e := List.mem_singleton.mp hz2
              subst e
              exact ⟨hc _ (List.mem_of_getElem? hz), ec, C, et⟩
    · rintro σ H3 ⟨⟨x3, x4, x5, rfl⟩, s3, fr, tv2, nb2, hDv, pr2, hli, hc2⟩
      exact ⟨_, rfl, q D tv2 nb2 H3 s3 hD hDv pr2 (by omega) hc2⟩
end
end Sw

/-! Sw: changes of a yard in the heap; the walk of Yard.come, Yard.turn_tie. -/
namespace Sw
open PySem PySem.Spec PyProof.Rows L2

/-- what stands over a deed: all but dicts, instances and the road -/
def Fr (ll : Addr) (H H' : Hp) : Prop := ∀ b o, H b = some o → b ≠ ll → (∀ k, o ≠ .dK k) → (∀ C dx fs, o ≠ .ins C dx fs) → H' b = some o
theorem Fr.refl {ll : Addr} (H : Hp) : Fr ll H H := fun _ _ e _ _ _ => e
theorem Fr.trans {ll : Addr} {A B C : Hp} (x : Fr ll A B) (y : Fr ll B C) : Fr ll A C := fun b o e n d i => y b o (x b o e n d i) n d i
theorem Fr.of {ll : Addr} {H H' : Hp} (s : Same H H') : Fr ll H H' := fun b o e _ _ _ => s b o e
theorem Fr.tup {ll : Addr} {H H' : Hp} {xs : List V} (f : Fr ll H H') (hl : H ll = some (.lst xs)) : TupK H H' := fun a ys e => f a _ e (ne_of e hl (by intro z; cases z)) (fun k z => by cases z) fun C dx fs z => by cases z
theorem Fr.lst {ll a : Addr} {H H' : Hp} {xs : List V} (f : Fr ll H H') (e : H a = some (.lst xs)) (n : a ≠ ll) : H' a = some (.lst xs) := f a _ e n (fun k z => by cases z) fun C dx fs z => by cases z
theorem Fr.dk {ll d : Addr} {H : Hp} {k : List (Key × V)} {o : HO} (e : H d = some (.dK k)) : Fr ll H (upd H d o) := fun b u h n d1 i1 => by
  have hne : b ≠ d := fun z => by rw [z, e] at h; exact d1 k (Option.some.inj h).symm
  rw [upd_ne hne]; exact h
theorem Fr.ll {ll : Addr} {H : Hp} {o : HO} : Fr ll H (upd H ll o) := fun b u h n d1 i1 => by
  rw [upd_ne n]; exact h
section
variable {K : PySem.W.Frag} {H H' : Hp} {y ll : Addr} {L : Lay} {S : Yd}
theorem YdL.ll_ne (h : YdL K H y ll L S) {c : Addr} {o : HO} (e : H c = some o) (n : ∀ xs, o ≠ .lst xs) : ll ≠ c := by
  obtain ⟨vs, h7, _⟩ := h.road
  exact ne_of h7 e fun z => n vs z.symm
/-- the dict at d alone has changed -/
theorem YdL.cut_ (h : YdL K H y ll L S) {kc : List (Key × V)} {c : Int → Bool} (m : MapAt (fun _ v (_ : Unit) => v = .bl true) kc (cutM c)) : YdL K (upd H L.dc (.dK kc)) y ll L { S with cut := c } := by
  obtain ⟨kl, h1, h2⟩ := h.liv
  obtain ⟨kt, h3, h4⟩ := h.thr
  obtain ⟨kc0, h5, h6⟩ := h.cutd
  obtain ⟨vs, h7, h8⟩ := h.road
  have t : TupK H (upd H L.dc (.dK kc)) := tupK_upd fun xs e => by rw [h5] at e; cases e
  have far : ∀ {c o r}, H c = some o → L.ro c = r → r ≠ (2, 0) → upd H L.dc (.dK kc) c = some o := fun {c o r} hc hr n => by
    rw [upd_ne (ro_ne hr h.r2 n)]; exact hc
  have lk := h.ll_ne h5 (fun xs z => by cases z)
  refine ⟨far h.ob h.ry (by intro z; cases z), h.net.keep t, ⟨kl, far h1 h.r0 (by intro z; cases z), h2⟩, ⟨kt, far h3 h.r1 (by intro z; cases z), h4⟩, fun b B hB => ?_, ⟨kc, upd_same, m⟩, ⟨vs, by rw [upd_ne lk]; exact h7, Paired.mapP h8 fun _ _ r => r.keep t⟩, h.ry, h.r0, h.r1, h.r2, h.rb⟩
  obtain ⟨f1, f2, f3⟩ := h.rb b B hB
  have nn : ∀ {n : Nat}, n ≠ 2 → ((n, b) : Nat × Int) ≠ (2, 0) := fun hn z => hn (congrArg Prod.fst z)
  refine (h.brs b B hB).keep t fun d o hd ho => ?_
  rcases hd with z | z | z
  · subst z; exact far ho f1 (nn (by decide))
  · subst z; exact far ho f2 (nn (by decide))
  · subst z; exact far ho f3 (nn (by decide))
theorem YdL.liv_ (h : YdL K H y ll L S) {kl : List (Key × V)} {f : Int → Option Int} (m : MapAt (fun _ v (x : Int) => v = .int x) kl f) : YdL K (upd H L.dl (.dK kl)) y ll L { S with lives := f } := by
  obtain ⟨kl0, h1, h2⟩ := h.liv
  obtain ⟨kt, h3, h4⟩ := h.thr
  obtain ⟨kc0, h5, h6⟩ := h.cutd
  obtain ⟨vs, h7, h8⟩ := h.road
  have t : TupK H (upd H L.dl (.dK kl)) := tupK_upd fun xs e => by rw [h1] at e; cases e
  have far : ∀ {c o r}, H c = some o → L.ro c = r → r ≠ (0, 0) → upd H L.dl (.dK kl) c = some o := fun {c o r} hc hr n => by
    rw [upd_ne (ro_ne hr h.r0 n)]; exact hc
  have lk := h.ll_ne h1 (fun xs z => by cases z)
  refine ⟨far h.ob h.ry (by intro z; cases z), h.net.keep t, ⟨kl, upd_same, m⟩, ⟨kt, far h3 h.r1 (by intro z; cases z), h4⟩, fun b B hB => ?_, ⟨kc0, far h5 h.r2 (by intro z; cases z), h6⟩, ⟨vs, by rw [upd_ne lk]; exact h7, Paired.mapP h8 fun _ _ r => r.keep t⟩, h.ry, h.r0, h.r1, h.r2, h.rb⟩
  obtain ⟨f1, f2, f3⟩ := h.rb b B hB
  have nn : ∀ {n : Nat}, n ≠ 0 → ((n, b) : Nat × Int) ≠ (0, 0) := fun hn z => hn (congrArg Prod.fst z)
  refine (h.brs b B hB).keep t fun d o hd ho => ?_
  rcases hd with z | z | z
  · subst z; exact far ho f1 (nn (by decide))
  · subst z; exact far ho f2 (nn (by decide))
  · subst z; exact far ho f3 (nn (by decide))
theorem YdL.pop_ (h : YdL K H y ll L S) {kt : List (Key × V)} (e : H L.dth = some (.dK kt)) (b : Int) : YdL K (upd H L.dth (.dK (dropK kt (ik b)))) y ll L { S with there := setAt S.there b none } := by
  obtain ⟨kl, h1, h2⟩ := h.liv
  obtain ⟨kt0, h3, h4⟩ := h.thr
  rw [e] at h3
  cases h3
  obtain ⟨kc0, h5, h6⟩ := h.cutd
  obtain ⟨vs, h7, h8⟩ := h.road
  have t : TupK H (upd H L.dth (.dK (dropK kt (ik b)))) := tupK_upd fun xs e2 => by rw [e] at e2; cases e2
  have far : ∀ {c o r}, H c = some o → L.ro c = r → r ≠ (1, 0) → upd H L.dth (.dK (dropK kt (ik b))) c = some o := fun {c o r} hc hr n => by
    rw [upd_ne (ro_ne hr h.r1 n)]; exact hc
  have lk := h.ll_ne e (fun xs z => by cases z)
  have sub : ∀ {c C}, setAt S.there b none c = some C → S.there c = some C := fun {c C} hC => by
    by_cases ec : c = b
    · subst ec; rw [setAt_same] at hC; cases hC
    · rw [setAt_ne ec] at hC; exact hC
  refine ⟨far h.ob h.ry (by intro z; cases z), h.net.keep t, ⟨kl, far h1 h.r0 (by intro z; cases z), h2⟩, ⟨_, upd_same, ?_⟩, fun c C hC => ?_, ⟨kc0, far h5 h.r2 (by intro z; cases z), h6⟩, ⟨vs, by rw [upd_ne lk]; exact h7, Paired.mapP h8 fun _ _ r => r.keep t⟩, h.ry, h.r0, h.r1, h.r2, fun c C hC => h.rb c C (sub hC)⟩
  · exact MapAt.drop h4 b
  obtain ⟨f1, f2, f3⟩ := h.rb c C (sub hC)
  have nn : ∀ {n : Nat}, n ≠ 1 → ((n, c) : Nat × Int) ≠ (1, 0) := fun hn z => hn (congrArg Prod.fst z)
  refine (h.brs c C (sub hC)).keep t fun d o hd ho => ?_
  rcases hd with z | z | z
  · subst z; exact far ho f1 (nn (by decide))
  · subst z; exact far ho f2 (nn (by decide))
  · subst z; exact far ho f3 (nn (by decide))
def Lay.put (L : Lay) (b : Int) (x dt dk : Addr) : Lay := { L with ba := fun c => if c = b then x else L.ba c, bt := fun c => if c = b then dt else L.bt c, bk := fun c => if c = b then dk else L.bk c, ro := fun c => if c = x then (3, b) else if c = dt then (4, b) else if c = dk then (5, b) else L.ro c }
theorem YdL.new_ (h : YdL K H y ll L S) {b : Int} {x dt dk : Addr} {B : Br} (hb : S.there b = none) (hx : H x = none) (hdt : H dt = none) (hdk : H dk = none) (s : Same H H') (hB : BrAt K H' x dt dk B) {kt : List (Key × V)} (e : H L.dth = some (.dK kt)) :
    YdL K (upd H' L.dth (.dK (putK kt (ik b) (.ref x)))) y ll (L.put b x dt dk) { S with there := setAt S.there b (some B) } := by
  obtain ⟨kl, h1, h2⟩ := h.liv
  obtain ⟨kt0, h3, h4⟩ := h.thr
  rw [e] at h3
  cases h3
  obtain ⟨kc0, h5, h6⟩ := h.cutd
  obtain ⟨vs, h7, h8⟩ := h.road
  have t : TupK H (upd H' L.dth (.dK (putK kt (ik b) (.ref x)))) := (TupK.of s).trans (tupK_upd fun xs e2 => by rw [s _ _ e] at e2; cases e2)
  have rol : ∀ {c o}, H c = some o → (L.put b x dt dk).ro c = L.ro c := fun {c o} hc => by
    show (if c = x then (3, b) else if c = dt then (4, b) else if c = dk then (5, b) else L.ro c) = L.ro c
    rw [if_neg (ne_of_none hc hx), if_neg (ne_of_none hc hdt), if_neg (ne_of_none hc hdk)]
  have far : ∀ {c o r}, H c = some o → L.ro c = r → r ≠ (1, 0) → upd H' L.dth (.dK (putK kt (ik b) (.ref x))) c = some o := fun {c o r} hc hr n => by
    rw [upd_ne (ro_ne hr h.r1 n)]; exact s _ _ hc
  have lk := h.ll_ne e (fun xs z => by cases z)
  have nx : x ≠ L.dth := fun z => by rw [z, e] at hx; cases hx
  have nt : dt ≠ L.dth := fun z => by rw [z, e] at hdt; cases hdt
  have nk : dk ≠ L.dth := fun z => by rw [z, e] at hdk; cases hdk
  refine ⟨far h.ob h.ry (by intro z; cases z), h.net.keep t, ⟨kl, far h1 h.r0 (by intro z; cases z), h2⟩, ⟨_, upd_same, ?_⟩, fun c C hC => ?_, ⟨kc0, far h5 h.r2 (by intro z; cases z), h6⟩, ⟨vs, by rw [upd_ne lk]; exact s _ _ h7, Paired.mapP h8 fun _ _ r => r.keep t⟩, (rol h.ob).trans h.ry, (rol h1).trans h.r0, (rol e).trans h.r1, (rol h5).trans h.r2, fun c C hC => ?_⟩
  · show MapAt (fun c v (_ : Br) => v = .ref (if c = b then x else L.ba c)) _ (setAt S.there b (some B))
    have h4' : MapAt (fun c v (_ : Br) => v = .ref (if c = b then x else L.ba c)) kt S.there := h4.imp fun c v C hC r => by
      have nc : c ≠ b := fun z => by rw [z, hb] at hC; cases hC
      show v = .ref (if c = b then x else L.ba c)
      rw [if_neg nc]; exact r
    exact h4'.put (by show V.ref x = V.ref (if b = b then x else L.ba b); rw [if_pos rfl])
  · have hC' : setAt S.there b (some B) c = some C := hC
    show BrAt K _ (if c = b then x else L.ba c) (if c = b then dt else L.bt c) (if c = b then dk else L.bk c) C
    by_cases ec : c = b
    · subst ec
      rw [setAt_same] at hC'
      cases hC'
      rw [if_pos rfl, if_pos rfl, if_pos rfl]
      refine hB.keep (tupK_upd fun xs e2 => by rw [s _ _ e] at e2; cases e2) fun d o hd ho => ?_
      rcases hd with z | z | z
      · subst z; rw [upd_ne nx]; exact ho
      · subst z; rw [upd_ne nt]; exact ho
      · subst z; rw [upd_ne nk]; exact ho
    · rw [setAt_ne ec] at hC'
      rw [if_neg ec, if_neg ec, if_neg ec]
      obtain ⟨f1, f2, f3⟩ := h.rb c C hC'
      have nn : ∀ {n : Nat}, n ≠ 1 → ((n, c) : Nat × Int) ≠ (1, 0) := fun hn z => hn (congrArg Prod.fst z)
      refine (h.brs c C hC').keep t fun d o hd ho => ?_
      rcases hd with z | z | z
      · subst z; exact far ho f1 (nn (by decide))
      · subst z; exact far ho f2 (nn (by decide))
      · subst z; exact far ho f3 (nn (by decide))
  · have hC' : setAt S.there b (some B) c = some C := hC
    show (L.put b x dt dk).ro (if c = b then x else L.ba c) = (3, c) ∧ (L.put b x dt dk).ro (if c = b then dt else L.bt c) = (4, c) ∧ (L.put b x dt dk).ro (if c = b then dk else L.bk c) = (5, c)
    by_cases ec : c = b
    · subst ec
      rw [if_pos rfl, if_pos rfl, if_pos rfl]
      refine ⟨if_pos rfl, ?_, ?_⟩
      · show (if dt = x then (3, c) else if dt = dt then (4, c) else if dt = dk then (5, c) else L.ro dt) = _
        rw [if_neg (Ne.symm hB.nat), if_pos rfl]
      · show (if dk = x then (3, c) else if dk = dt then (4, c) else if dk = dk then (5, c) else L.ro dk) = _
        rw [if_neg (Ne.symm hB.nak), if_neg (Ne.symm hB.ne), if_pos rfl]
    · rw [setAt_ne ec] at hC'
      rw [if_neg ec, if_neg ec, if_neg ec]
      obtain ⟨f1, f2, f3⟩ := h.rb c C hC'
      obtain ⟨⟨dx, sh, g1, _⟩, ⟨k1, g3, _⟩, ⟨k2, g5, _⟩, _⟩ := h.brs c C hC'
      exact ⟨(rol g1).trans f1, (rol g3).trans f2, (rol g5).trans f3⟩
/-- the road alone has changed -/
theorem YdL.road_ (h : YdL K H y ll L S) {vs : List V} {ms : List Msg} (pr : Paired (MsgAt H) vs ms) : YdL K (upd H ll (.lst vs)) y ll L { S with road := ms } := by
  obtain ⟨kl, h1, h2⟩ := h.liv
  obtain ⟨kt, h3, h4⟩ := h.thr
  obtain ⟨kc0, h5, h6⟩ := h.cutd
  obtain ⟨vs0, h7, h8⟩ := h.road
  have t : TupK H (upd H ll (.lst vs)) := tupK_upd fun xs e => by rw [h7] at e; cases e
  have far : ∀ {c o}, H c = some o → (∀ xs, o ≠ .lst xs) → upd H ll (.lst vs) c = some o := fun {c o} hc n => by
    rw [upd_ne (Ne.symm (h.ll_ne hc n))]; exact hc
  refine ⟨far h.ob (fun xs z => by cases z), h.net.keep t, ⟨kl, far h1 (fun xs z => by cases z), h2⟩, ⟨kt, far h3 (fun xs z => by cases z), h4⟩, fun b B hB => ?_, ⟨kc0, far h5 (fun xs z => by cases z), h6⟩, ⟨vs, upd_same, Paired.mapP pr fun _ _ r => r.keep t⟩, h.ry, h.r0, h.r1, h.r2, h.rb⟩
  obtain ⟨⟨dx, sh, g1, g2⟩, ⟨kt', g3, g4⟩, ⟨kk, g5, g6⟩, hne⟩ := h.brs b B hB
  exact ⟨⟨dx, sh, far g1 (fun xs z => by cases z), g2.keep t⟩, ⟨kt', far g3 (fun xs z => by cases z), g4.imp fun _ _ _ _ r => r.keep t⟩, ⟨kk, far g5 (fun xs z => by cases z), g6.imp fun _ _ _ _ r => r.keep t⟩, hne⟩
end

/-! ### what a good yard says of its bridges -/
theorem Conn.range {ts : List Tie} {p b c k : Int} (h : Conn ts p b c k) : ∃ t, tieAt ts p = some t ∧ 0 ≤ p ∧ p < ts.length := by
  rcases h with h | h
  · obtain ⟨a, b, _⟩ := tieAt_lt h
    exact ⟨_, h, a, b⟩
  · obtain ⟨a, b, _⟩ := tieAt_lt h
    exact ⟨_, h, a, b⟩
theorem Good.ok {S : Yd} (G : Good S) {b : Int} {B : Br} (hB : S.there b = some B) : B.Ok := by
  refine ⟨fun p x hx => ?_, fun p x hx => ?_⟩
  · obtain ⟨c, k⟩ := x
    obtain ⟨t, _, h0, h1⟩ := (G.tied hB hx).range
    have := G.net.few
    exact ⟨h0, by omega⟩
  · obtain ⟨c, k, e⟩ := G.held hB hx
    exact ⟨_, e⟩
theorem Good.one {S : Yd} (G : Good S) {b : Int} {B B' : Br} (hB : S.there b = some B) (m : Mild S.net.ts b B B') : Good { S with there := setAt S.there b (some B') } := by
  refine G.mild rfl rfl (fun _ h => h) (fun c C hC => ?_) G.cutd
  have hC' : setAt S.there b (some B') c = some C := hC
  by_cases e : c = b
  · subst e
    rw [setAt_same] at hC'
    cases hC'
    exact ⟨B, hB, m⟩
  · rw [setAt_ne e] at hC'
    exact ⟨C, hC', G.mild_refl hC'⟩
theorem Good.cut_ {S : Yd} (G : Good S) {c : Int → Bool} (hc : ∀ p, c p = true → 0 ≤ p ∧ p < S.net.ts.length) : Good { S with cut := c } :=
  G.mild rfl rfl (fun _ h => h) (fun b B hB => ⟨B, hB, G.mild_refl hB⟩) hc
theorem Good.pop_ {S : Yd} (G : Good S) (b : Int) : Good { S with there := setAt S.there b none } := by
  refine G.mild rfl rfl (fun _ h => h) (fun c C hC => ?_) G.cutd
  have hC' : setAt S.there b none c = some C := hC
  by_cases e : c = b
  · subst e; rw [setAt_same] at hC'; cases hC'
  · rw [setAt_ne e] at hC'
    exact ⟨C, hC', G.mild_refl hC'⟩
theorem Good.road_ {S : Yd} (G : Good S) {ms : List Msg} (h : ∀ m, m ∈ ms → m ∈ S.road) : Good { S with road := ms } :=
  G.mild rfl rfl h (fun b B hB => ⟨B, hB, G.mild_refl hB⟩) G.cutd
end Sw

/-! Sw: the walk of Yard.come, Yard.turn_tie, Yard.fall_bridge. -/
namespace Sw
open PySem PySem.Spec PyProof.Rows L2
section
variable {P : Program} {w : World} {K : PySem.W.Frag} {mg : Str → Option Value} {base : Heap}
theorem YdL.br {H H' : Hp} {y ll : Addr} {L : Lay} {S : Yd} (h : YdL K H y ll L S) {b : Int} {B B' : Br} (hB : S.there b = some B) (k : ∀ c o, H c = some o → c ≠ L.ba b → c ≠ L.bt b → c ≠ L.bk b → H' c = some o) (hB' : BrAt K H' (L.ba b) (L.bt b) (L.bk b) B') :
    (∃ L', YdL K H' y ll L' { S with there := setAt S.there b (some B') }) ∧ Fr ll H H' := by
  have hb := h.brs b B hB
  obtain ⟨⟨dx, sh, g1, _⟩, ⟨k1, g3, _⟩, ⟨k2, g5, _⟩, _⟩ := id hb
  have t : TupK H H' := fun a xs e => k a _ e (ne_of e g1 (by intro z; cases z)) (ne_of e g3 (by intro z; cases z)) (ne_of e g5 (by intro z; cases z))
  refine ⟨⟨_, h.bridge hB t (.inl rfl) k hB'⟩, fun c o e n d i => k c o e ?_ ?_ ?_⟩
  · exact fun z => by rw [z, g1] at e; exact i _ _ _ (Option.some.inj e).symm
  · exact fun z => by rw [z, g3] at e; exact d _ (Option.some.inj e).symm
  · exact fun z => by rw [z, g5] at e; exact d _ (Option.some.inj e).symm
theorem setAt_id {α : Type} {f : Int → Option α} {b : Int} {x : α} (h : f b = some x) : setAt f b (some x) = f := by
  funext c
  by_cases e : c = b
  · subst e; rw [setAt_same, h]
  · rw [setAt_ne e]
theorem isUp_ends {S : Yd} {p : Int} {t : Tie} (ht : tieAt S.net.ts p = some t) (h : isUp S p = true) : S.cut p = false ∧ (∃ B, S.there t.1 = some B) ∧ ∃ B, S.there t.2.1 = some B := by
  obtain ⟨o1, o2, k⟩ := t
  have e : isUp S p = (!S.cut p && (S.there o1).isSome && (S.there o2).isSome) := by unfold isUp; rw [ht]
  rw [h] at e
  have c1 : S.cut p = false := by
    cases h : S.cut p with
    | false => rfl
    | true => rw [h] at e; cases e
  refine ⟨c1, ?_, ?_⟩
  · cases h : S.there o1 with
    | some B1 => exact ⟨B1, rfl⟩
    | none => rw [h, c1] at e; cases e
  · cases h : S.there o2 with
    | some B2 => exact ⟨B2, rfl⟩
    | none => rw [h, c1] at e; cases h1 : S.there o1 <;> rw [h1] at e <;> cases e

/-! ### Yard.come -/
def sp_Ym (K : PySem.W.Frag) : Sp := fun vs H Q _ => ∃ y ll L S v m k, vs = [.ref y, v] ∧ YdL K H y ll L S ∧ Good S ∧ MsgAt H v m ∧ Conn S.net.ts m.place m.src m.dst k ∧
  ∀ L' S' H', YdL K H' y ll L' S' → (S' = S ∨ ∃ B x, S.there m.dst = some B ∧ B.tied m.place = some x ∧ S' = { S with there := setAt S.there m.dst (some { B with kept := setAt B.kept m.place (some (m.ltr, m.ltr.age)) }) }) → Fr ll H H' → Q .non H'
theorem sc_Ym : FnScope ["self", "told"] ["self", "told"] (defScope s_Ym) := ⟨rfl, rfl, rfl, by decide +kernel, rfl, by decide +kernel, by decide +kernel⟩
theorem ok_Ym (T : Tx K mg) : Cal P w K mg base 3 (He.fAd K ("Yard", some "come")) ["self", "told"] (sp_Ym K) := by
  obtain ⟨fd, F⟩ := T.f_Ym
  have GU := ok_Yu (P := P) (w := w) (base := base) T
  have GH := ok_Bh (P := P) (w := w) (base := base) T
  refine Cal.mk2 F sc_Ym (fun _ _ _ _ _ _ us hl => match us, hl with | [_, _], _ => rfl) (fun vs H Q E h => ?_) (fun cdv A outer s H vs Q E hr h => ?_)
  · obtain ⟨y, ll, L, S, v, m, k, rfl, _⟩ := h
    rfl
  · obtain ⟨y, ll, L, S, v, m, k, rfl, hY, G, ⟨a, lv, rfl, ha, hl⟩, hc, q⟩ := h
    have hu := hu_of hr
    have hr1 : Room 1 _ := hr.mono (by decide)
    obtain ⟨kt, hth, mth⟩ := hY.thr
    obtain ⟨t, ht, h0, h1⟩ := hc.range
    refine ⟨_, pss_one (ps_if (pt_val (pc_meth (pv 0) T.clY T.m_Yu GU hr1 (pa_cons (pe_ix ix_tup (pv 1) pe_int (fun _ _ => rfl)) pa_nil)))
      (pss_one (ps_expr (pc_meth (pe_dget hu (pe_fld (pv 0) rfl) (pe_ix ix_tup (pv 1) pe_int (fun _ _ => rfl)) (fun _ _ => rfl)) T.clB T.m_Bh GH hr (pa_cons (pe_ix ix_tup (pv 1) pe_int (fun _ _ => rfl)) (pa_cons (pe_ix ix_tup (pv 1) pe_int (fun _ _ => rfl)) pa_nil))))) pss_nil), ?_⟩
    refine ⟨_, rfl, y, L.dx, _, rfl, hY.ob, rfl, _, rfl, a, _, _, _, rfl, rfl, SqT.of ha, rfl, y, ll, L, S, m.place, t, rfl, hY, ht, _, rfl, ?_⟩
    cases c : isUp S m.place with
    | false =>
      refine iteF ?_
      exact q L S H hY (.inl rfl) (.refl H)
    | true =>
      refine iteT ?_
      obtain ⟨_, e1, e2⟩ := isUp_ends ht c
      have hd : ∃ B, S.there m.dst = some B := by
        rcases hc with h | h
        · rw [ht] at h; cases h; exact e2
        · rw [ht] at h; cases h; exact e1
      obtain ⟨B, hB⟩ := hd
      obtain ⟨v1, hv1, rfl⟩ := mth.some_ hB
      have hb := hY.brs m.dst B hB
      obtain ⟨⟨dx1, sh1, ha1, _⟩, ⟨k3, g3, _⟩, ⟨k5, g5, _⟩, _⟩ := id hb
      refine ⟨_, rfl, y, _, L.dx, _, _, rfl, hY.ob, T.clY, T.y_there, rfl, _, rfl, a, _, _, _, rfl, rfl, SqT.of ha, rfl, L.dth, _, rfl, by rw [← hv1]; exact DGet.k (k := ik m.dst) hth, L.ba m.dst, dx1, _, rfl, ha1, rfl, _, rfl, a, _, _, _, rfl, rfl, SqT.of ha, rfl, _, rfl, a, _, _, _, rfl, rfl, SqT.of ha, rfl, L.ba m.dst, L.bt m.dst, L.bk m.dst, B, m.place, lv, m.ltr, rfl, hb, G.ok hB, hl, fun B' H1 hB1 hb1 fr => ?_⟩
      obtain ⟨⟨L', hY'⟩, f⟩ := hY.br hB (fun c o e _ _ n => fr c o e n) hb1
      refine q L' _ H1 hY' ?_ f
      rcases hB1 with e | ⟨⟨x, hx⟩, e⟩
      · subst e
        left
        rw [setAt_id hB]
      · subst e
        exact .inr ⟨B, x, hB, hx, rfl⟩

/-! ### Yard.turn_tie -/
def setC (f : Int → Bool) (p : Int) (x : Bool) : Int → Bool := fun q => if q = p then x else f q
theorem cutM_on {f : Int → Bool} {p : Int} : cutM (setC f p true) = setAt (cutM f) p (some ()) := by
  funext q
  unfold cutM setC setAt
  by_cases e : q = p
  · rw [if_pos e, if_pos e]; rfl
  · rw [if_neg e, if_neg e]
theorem cutM_off {f : Int → Bool} {p : Int} : cutM (setC f p false) = setAt (cutM f) p none := by
  funext q
  unfold cutM setC setAt
  by_cases e : q = p
  · rw [if_pos e, if_pos e]; rfl
  · rw [if_neg e, if_neg e]
def Step (K : PySem.W.Frag) (y ll : Addr) (S : Yd) (H : Hp) (Q : VK) : Prop :=
  ∀ L' S' H', YdL K H' y ll L' S' → Good S' → S'.net = S.net → S'.road = S.road → Fr ll H H' → Q .non H'
def sp_Yt (K : PySem.W.Frag) : Sp := fun vs H Q _ => ∃ y ll L S p b, vs = [.ref y, .int p, .bl b] ∧ YdL K H y ll L S ∧ Good S ∧ (0 ≤ p ∧ p < S.net.ts.length) ∧ S.cut p = b ∧ Step K y ll S H Q
theorem sc_Yt : FnScope ["self", "place", "back", "one", "other", "cost", "was"] ["self", "place", "back"] (defScope s_Yt) := ⟨rfl, rfl, rfl, by decide +kernel, rfl, by decide +kernel, by decide +kernel⟩
theorem ok_Yt (T : Tx K mg) : Cal P w K mg base 2 (He.fAd K ("Yard", some "turn_tie")) ["self", "place", "back"] (sp_Yt K) := by
  obtain ⟨fd, F⟩ := T.f_Yt
  have GU := ok_Yu (P := P) (w := w) (base := base) T
  have GD := ok_Bd (P := P) (w := w) (base := base) T
  have GB := ok_Bu (P := P) (w := w) (base := base) T
  refine Cal.mk2 F sc_Yt (fun _ _ _ _ _ _ us hl => match us, hl with | [_, _, _], _ => rfl) (fun vs H Q E h => ?_) (fun cdv A outer s H vs Q E hr h => ?_)
  · obtain ⟨y, ll, L, S, p, b, rfl, _⟩ := h
    rfl
  · obtain ⟨y, ll, L, S, p, b, rfl, hY, G, ⟨hp0, hp1⟩, hb, q⟩ := h
    have hu := hu_of hr
    obtain ⟨t, ht, _, _⟩ := tieAt_some hp0 hp1
    obtain ⟨ta, hat, hta⟩ := hY.net.tieAt ht
    obtain ⟨o1, o2, k⟩ := t
    have hlt : o1 < o2 := (G.net.tie _ (tieAt_lt ht).2.2).1
    refine ⟨_, pss_cons (ps_asg (pe_ix ix_tup (pe_ix ix_tup (pe_fld (pv 0) rfl) pe_int (fun _ _ => rfl)) (pv 1) (fun _ _ => rfl)) (pg_tup rfl (pgs_cons (pg_name (i := 3) sc_Yt.nd rfl (.inl rfl)) (pgs_cons (pg_name (i := 4) sc_Yt.nd rfl (.inl rfl)) (pgs_cons (pg_name (i := 5) sc_Yt.nd rfl (.inl rfl)) pgs_nil)))))
      (pss_cons (ps_set (i := 6) sc_Yt.nd rfl (.inl rfl) (pc_meth (pv 0) T.clY T.m_Yu GU hr (pa_cons (pv 1) pa_nil)))
      (pss_cons (ps_if (pt_not (pt_val (pv 2)))
        (pss_cons (ps_dput hu (pe_fld (pv 0) rfl) (pv 1) pe_bl rfl)
        (pss_cons (ps_if (pt_val (pv 6)) (pss_cons (ps_expr (pc_meth (pe_dget hu (pe_fld (pv 0) rfl) (pv 3) (fun _ _ => rfl)) T.clB T.m_Bd GD hr (pa_cons (pv 1) pa_nil))) (pss_one (ps_expr (pc_meth (pe_dget hu (pe_fld (pv 0) rfl) (pv 4) (fun _ _ => rfl)) T.clB T.m_Bd GD hr (pa_cons (pv 1) pa_nil))))) pss_nil)
        (pss_one ps_retN))) pss_nil)
      (pss_cons (ps_expr (pe_dpop1 (pe_fld (pv 0) rfl) (pv 1) ⟨rfl, rfl, rfl, rfl⟩))
      (pss_one (ps_if (pt_val (pc_meth (pv 0) T.clY T.m_Yu GU hr (pa_cons (pv 1) pa_nil))) (pss_cons (ps_expr (pc_meth (pe_dget hu (pe_fld (pv 0) rfl) (pv 3) (fun _ _ => rfl)) T.clB T.m_Bu GB hr (pa_cons (pv 1) (pa_cons (pv 4) (pa_cons (pv 5) pa_nil))))) (pss_one (ps_expr (pc_meth (pe_dget hu (pe_fld (pv 0) rfl) (pv 4) (fun _ _ => rfl)) T.clB T.m_Bu GB hr (pa_cons (pv 1) (pa_cons (pv 3) (pa_cons (pv 5) pa_nil))))))) pss_nil))))), ?_⟩
    refine ⟨_, rfl, y, _, L.dx, _, _, rfl, hY.ob, T.clY, T.y_plan, rfl, L.np, _, _, _, rfl, rfl, SqT.of hY.net.ob, rfl, _, rfl, L.at_, _, _, _, rfl, rfl, SqT.of hY.net.ts, hat, ta, _, rfl, SqT.of hta, rfl, _, _, rfl, _, _, rfl, _, _, rfl, rfl, ?_⟩
    refine ⟨_, rfl, y, L.dx, _, rfl, hY.ob, rfl, _, rfl, y, ll, L, S, p, (o1, o2, k), rfl, hY, ht, ?_⟩
    obtain ⟨kc, hcu, mc⟩ := hY.cutd
    have lc : kc.length ≤ 16 := mc.few_to 16 fun z x e => by
      have hcp : S.cut z = true := by
        cases h : S.cut z with
        | true => rfl
        | false =>
          unfold cutM at e
          rw [h] at e
          cases e
      obtain ⟨c0, c1⟩ := G.cutd z hcp
      have := G.net.few
      omega
    refine ⟨_, rfl, _, rfl, ?_⟩
    cases b with
    | false =>
      refine iteT ?_
      refine ⟨_, rfl, y, _, L.dx, _, _, rfl, hY.ob, T.clY, T.y_cut, rfl, _, rfl, L.dc, _, rfl, DPut.k (k := ik p) hcu (small16 lc), ?_⟩
      have hY1 := hY.cut_ (c := setC S.cut p true) (cutM_on ▸ mc.put (x := ()) (p := p) (v := .bl true) rfl)
      have G1 : Good { S with cut := setC S.cut p true } := G.cut_ fun z hz => by
        by_cases e : z = p
        · rw [e]; exact ⟨hp0, hp1⟩
        · unfold setC at hz
          rw [if_neg e] at hz
          exact G.cutd z hz
      have f1 : Fr ll H (upd H L.dc (.dK (putK kc (ik p) (.bl true)))) := Fr.dk hcu
      refine ⟨_, rfl, _, rfl, ?_⟩
      cases c : isUp S p with
      | false =>
        refine iteF ?_
        exact q _ _ _ hY1 G1 rfl rfl f1
      | true =>
        refine iteT ?_
        obtain ⟨_, ⟨B1, h1⟩, ⟨B2, h2⟩⟩ := isUp_ends ht c
        obtain ⟨kt, hth, mth⟩ := hY1.thr
        obtain ⟨v1, hv1, rfl⟩ := mth.some_ h1
        have hb1 := hY1.brs o1 B1 h1
        obtain ⟨⟨dx1, sh1, ha1, _⟩, _⟩ := id hb1
        refine ⟨_, rfl, y, _, L.dx, _, _, rfl, hY1.ob, T.clY, T.y_there, rfl, _, rfl, L.dth, _, rfl, by rw [← hv1]; exact DGet.k (k := ik o1) hth, L.ba o1, dx1, _, rfl, ha1, rfl, _, rfl, L.ba o1, L.bt o1, L.bk o1, B1, p, rfl, hb1, fun H2 hB2 fr2 => ?_⟩
        obtain ⟨⟨L2, hY2⟩, f2⟩ := hY1.br h1 (fun c o e _ n1 n2 => fr2 c o e n1 n2) hB2
        have G2 := G1.one h1 ((G1.mild_refl h1).down p)
        obtain ⟨kt2, hth2, mth2⟩ := hY2.thr
        have h2' : setAt S.there o1 (some (B1.downAt p)) o2 = some B2 := by rw [setAt_ne (by omega)]; exact h2
        obtain ⟨v2, hv2, rfl⟩ := mth2.some_ h2'
        have hb2 := hY2.brs o2 B2 h2'
        obtain ⟨⟨dx2, sh2, ha2, _⟩, _⟩ := id hb2
        refine ⟨_, rfl, y, _, L2.dx, _, _, rfl, hY2.ob, T.clY, T.y_there, rfl, _, rfl, L2.dth, _, rfl, by rw [← hv2]; exact DGet.k (k := ik o2) hth2, L2.ba o2, dx2, _, rfl, ha2, rfl, _, rfl, L2.ba o2, L2.bt o2, L2.bk o2, B2, p, rfl, hb2, fun H3 hB3 fr3 => ?_⟩
        obtain ⟨⟨L3, hY3⟩, f3⟩ := hY2.br h2' (fun c o e _ n1 n2 => fr3 c o e n1 n2) hB3
        have G3 := G2.one h2' ((G2.mild_refl h2').down p)
        exact q _ _ _ hY3 G3 rfl rfl ((f1.trans f2).trans f3)
    | true =>
      refine iteF ?_
      obtain ⟨vc, hvc, _⟩ := mc.some_ (p := p) (x := ()) (by unfold cutM; rw [hb]; rfl)
      refine ⟨_, rfl, y, _, L.dx, _, _, rfl, hY.ob, T.clY, T.y_cut, rfl, L.dc, rfl, .inl ⟨kc, .inl hcu⟩, _, rfl, kc, ik p, vc, hcu, rfl, hvc, ?_⟩
      have hY1 := hY.cut_ (c := setC S.cut p false) (cutM_off ▸ mc.drop p)
      have G1 : Good { S with cut := setC S.cut p false } := G.cut_ fun z hz => by
        by_cases e : z = p
        · rw [e]; exact ⟨hp0, hp1⟩
        · unfold setC at hz
          rw [if_neg e] at hz
          exact G.cutd z hz
      have f1 : Fr ll H (upd H L.dc (.dK (dropK kc (ik p)))) := Fr.dk hcu
      refine ⟨_, rfl, y, L.dx, _, rfl, hY1.ob, rfl, _, rfl, y, ll, L, _, p, (o1, o2, k), rfl, hY1, ht, _, rfl, ?_⟩
      cases c : isUp { S with cut := setC S.cut p false } p with
      | false =>
        refine iteF ?_
        exact q _ _ _ hY1 G1 rfl rfl f1
      | true =>
        refine iteT ?_
        obtain ⟨_, ⟨B1, h1⟩, ⟨B2, h2⟩⟩ := isUp_ends (S := { S with cut := setC S.cut p false }) ht c
        obtain ⟨kt, hth, mth⟩ := hY1.thr
        obtain ⟨v1, hv1, rfl⟩ := mth.some_ h1
        have hb1 := hY1.brs o1 B1 h1
        obtain ⟨⟨dx1, sh1, ha1, _⟩, _⟩ := id hb1
        refine ⟨_, rfl, y, _, L.dx, _, _, rfl, hY1.ob, T.clY, T.y_there, rfl, _, rfl, L.dth, _, rfl, by rw [← hv1]; exact DGet.k (k := ik o1) hth, L.ba o1, dx1, _, rfl, ha1, rfl, _, rfl, _, rfl, _, rfl, L.ba o1, L.bt o1, L.bk o1, B1, p, o2, k, rfl, hb1, G1.ok h1, fun H2 hB2 fr2 => ?_⟩
        obtain ⟨⟨L2, hY2⟩, f2⟩ := hY1.br h1 (fun c o e _ n1 _ => fr2 c o e n1) hB2
        have G2 := G1.one h1 ((G1.mild_refl h1).up (p := p) (c := o2) (k := k) (.inl ht) (fun x h => (G1.ok h1).sub p x h))
        obtain ⟨kt2, hth2, mth2⟩ := hY2.thr
        have h2' : setAt S.there o1 (some (B1.upAt p o2 k)) o2 = some B2 := by rw [setAt_ne (by omega)]; exact h2
        obtain ⟨v2, hv2, rfl⟩ := mth2.some_ h2'
        have hb2 := hY2.brs o2 B2 h2'
        obtain ⟨⟨dx2, sh2, ha2, _⟩, _⟩ := id hb2
        refine ⟨_, rfl, y, _, L2.dx, _, _, rfl, hY2.ob, T.clY, T.y_there, rfl, _, rfl, L2.dth, _, rfl, by rw [← hv2]; exact DGet.k (k := ik o2) hth2, L2.ba o2, dx2, _, rfl, ha2, rfl, _, rfl, _, rfl, _, rfl, L2.ba o2, L2.bt o2, L2.bk o2, B2, p, o1, k, rfl, hb2, G2.ok h2', fun H3 hB3 fr3 => ?_⟩
        obtain ⟨⟨L3, hY3⟩, f3⟩ := hY2.br h2' (fun c o e _ n1 _ => fr3 c o e n1) hB3
        have G3 := G2.one h2' ((G2.mild_refl h2').up (p := p) (c := o1) (k := k) (.inr ht) (fun x h => (G2.ok h2').sub p x h))
        exact q _ _ _ hY3 G3 rfl rfl ((f1.trans f2).trans f3)
end
end Sw

/-! Sw: the walk of Yard.fall_bridge, Yard.back_bridge, Yard.__init__. -/
namespace Sw
open PySem PySem.Spec PyProof.Rows L2
section
variable {P : Program} {w : World} {K : PySem.W.Frag} {mg : Str → Option Value} {base : Heap}

/-! ### Yard.fall_bridge -/
def sp_Yf (K : PySem.W.Frag) : Sp := fun vs H Q _ => ∃ y ll L S b, vs = [.ref y, .int b] ∧ YdL K H y ll L S ∧ Good S ∧ (∃ B, S.there b = some B) ∧ Step K y ll S H Q
theorem sc_Yf : FnScope ["self", "number", "place", "other", "cost"] ["self", "number"] (defScope s_Yf) := ⟨rfl, rfl, rfl, by decide +kernel, rfl, by decide +kernel, by decide +kernel⟩
theorem ok_Yf (T : Tx K mg) : Cal P w K mg base 3 (He.fAd K ("Yard", some "fall_bridge")) ["self", "number"] (sp_Yf K) := by
  obtain ⟨fd, F⟩ := T.f_Yf
  have GO := ok_Yo (P := P) (w := w) (base := base) T
  have GD := ok_Bd (P := P) (w := w) (base := base) T
  refine Cal.mk2 F sc_Yf (fun _ _ _ _ _ _ us hl => match us, hl with | [_, _], _ => rfl) (fun vs H Q E h => ?_) (fun cdv A outer s H vs Q E hr h => ?_)
  · obtain ⟨y, ll, L, S, b, rfl, _⟩ := h
    rfl
  · obtain ⟨y, ll, L, S, b, rfl, hY, G, hb, q⟩ := h
    have hu := hu_of hr
    have hr1 : Room 1 _ := hr.mono (by decide)
    refine ⟨_, pss_cons (ps_for PassesOwn.never rfl (pi_list (pc_meth (pv 0) T.clY T.m_Yo GO hr (pa_cons (pv 1) pa_nil))) (pg_tup rfl (pgs_cons (pg_name (i := 2) sc_Yf.nd rfl (.inl rfl)) (pgs_cons (pg_name (i := 3) sc_Yf.nd rfl (.inl rfl)) (pgs_cons (pg_name (i := 4) sc_Yf.nd rfl (.inl rfl)) pgs_nil))))
        (pss_one (ps_expr (pc_meth (pe_dget hu (pe_fld (pv 0) rfl) (pv 3) (fun _ _ => rfl)) T.clB T.m_Bd GD hr1 (pa_cons (pv 2) pa_nil)))))
      (pss_one (ps_expr (pe_dpop1 (pe_fld (pv 0) rfl) (pv 1) ⟨rfl, rfl, rfl, rfl⟩))), ?_⟩
    refine ⟨_, rfl, y, L.dx, _, rfl, hY.ob, rfl, _, rfl, y, ll, L, S, b, rfl, hY, G.net.few, fun p tvs nbs H1 s1 hp hpv pr hl hc => ?_⟩
    have hY1 := hY.same s1
    obtain ⟨lv1, hl1, _⟩ := id hY1.road
    obtain ⟨lv0, hl0, _⟩ := id hY.road
    have pll : p ≠ ll := fun z => by rw [z, hl0] at hp; cases hp
    refine ⟨p, rfl, ⟨_, SqL.of hpv⟩, for_list (K := K) (a := p) (xs := tvs) (fun i σ H3 => (∃ x2 x3 x4, σ = [some (.ref y), some (.int b), x2, x3, x4]) ∧ Fr ll H1 H3 ∧
        ∃ L3 S3, YdL K H3 y ll L3 S3 ∧ Good S3 ∧ S3.net = S.net ∧ S3.road = S.road ∧ ∀ c, (S3.there c).isSome = (S.there c).isSome)
      ⟨⟨none, none, none, rfl⟩, .refl H1, L, S, hY1, G, rfl, rfl, fun _ => rfl⟩ (fun i σ H3 _ h => SqL.of (h.2.1.lst hpv pll)) ?_ ?_⟩
    · rintro i v σ H3 hi ⟨⟨x2, x3, x4, rfl⟩, fr, L3, S3, hY3, G3, hn3, hr3, ht3⟩
      obtain ⟨⟨z, c, k⟩, hz, a, rfl, ha⟩ := paired_at' pr hi
      have ha3 := fr.tup hl1 _ _ ha
      refine ⟨a, _, rfl, SqT.of ha3, rfl, _, _, rfl, _, _, rfl, _, _, rfl, rfl, ?_⟩
      obtain ⟨_, _, C0, hC0⟩ := hc _ (List.mem_of_getElem? hz)
      have hC0' : S.there c = some C0 := hC0
      obtain ⟨C, hC⟩ : ∃ C, S3.there c = some C := Option.isSome_iff_exists.mp (by rw [ht3, hC0']; rfl)
      obtain ⟨kt, hth, mth⟩ := hY3.thr
      obtain ⟨v1, hv1, rfl⟩ := mth.some_ hC
      have hb1 := hY3.brs c C hC
      obtain ⟨⟨dx1, sh1, ha1, _⟩, _⟩ := id hb1
      refine ⟨_, rfl, y, _, L3.dx, _, _, rfl, hY3.ob, T.clY, T.y_there, rfl, _, rfl, L3.dth, _, rfl, by rw [← hv1]; exact DGet.k (k := ik c) hth, L3.ba c, dx1, _, rfl, ha1, rfl, _, rfl, L3.ba c, L3.bt c, L3.bk c, C, z, rfl, hb1, fun H4 hB4 fr4 => ?_⟩
      obtain ⟨⟨L4, hY4⟩, f4⟩ := hY3.br hC (fun c o e _ n1 n2 => fr4 c o e n1 n2) hB4
      refine ⟨⟨_, _, _, rfl⟩, fr.trans f4, L4, _, hY4, G3.one hC ((G3.mild_refl hC).down z), hn3, hr3, fun d => ?_⟩
      show (setAt S3.there c _ d).isSome = _
      by_cases e : d = c
      · subst e; rw [setAt_same, hC0']; rfl
      · rw [setAt_ne e]; exact ht3 d
    · rintro σ H3 ⟨⟨x2, x3, x4, rfl⟩, fr, L3, S3, hY3, G3, hn3, hr3, ht3⟩
      obtain ⟨kt, hth, mth⟩ := hY3.thr
      obtain ⟨B0, hb0⟩ := hb
      obtain ⟨B, hB⟩ : ∃ B, S3.there b = some B := Option.isSome_iff_exists.mp (by rw [ht3, hb0]; rfl)
      obtain ⟨v1, hv1, _⟩ := mth.some_ hB
      refine ⟨_, rfl, y, _, L3.dx, _, _, rfl, hY3.ob, T.clY, T.y_there, rfl, L3.dth, rfl, .inl ⟨kt, .inl hth⟩, _, rfl, kt, ik b, v1, hth, rfl, hv1, ?_⟩
      exact q _ _ _ (hY3.pop_ hth b) (G3.pop_ b) hn3 hr3 (((Fr.of s1).trans fr).trans (Fr.dk hth))

/-! ### Yard.back_bridge -/
def sp_Yb (K : PySem.W.Frag) : Sp := fun vs H Q _ => ∃ y ll L S b, vs = [.ref y, .int b] ∧ YdL K H y ll L S ∧ Good S ∧ b ∈ S.net.bs ∧ S.there b = none ∧ Step K y ll S H Q
theorem sc_Yb : FnScope ["self", "number", "some", "place", "other", "cost"] ["self", "number"] (defScope s_Yb) := ⟨rfl, rfl, rfl, by decide +kernel, rfl, by decide +kernel, by decide +kernel⟩
theorem dom10 {α : Type} {R : Int → V → α → Prop} {kvs : List (Key × V)} {m : Int → Option α} {N : Net} (h : MapAt R kvs m) (hn : NetOk N) (d : ∀ b x, m b = some x → b ∈ N.bs) : kvs.length ≤ 10 := Nat.le_trans (h.few N.bs d) hn.ten
theorem ok_Yb (T : Tx K mg) : Cal P w K mg base 3 (He.fAd K ("Yard", some "back_bridge")) ["self", "number"] (sp_Yb K) := by
  obtain ⟨fd, F⟩ := T.f_Yb
  have GO := ok_Yo (P := P) (w := w) (base := base) T
  have GU := ok_Bu (P := P) (w := w) (base := base) T
  have GI := ok_Bi (P := P) (w := w) (base := base) T
  refine Cal.mk2 F sc_Yb (fun _ _ _ _ _ _ us hl => match us, hl with | [_, _], _ => rfl) (fun vs H Q E h => ?_) (fun cdv A outer s H vs Q E hr h => ?_)
  · obtain ⟨y, ll, L, S, b, rfl, _⟩ := h
    rfl
  · obtain ⟨y, ll, L, S, b, rfl, hY, G, hbm, hbn, q⟩ := h
    have hu := hu_of hr
    have hr1 : Room 1 _ := hr.mono (by decide)
    refine ⟨_, pss_cons (ps_daug hu (pe_fld (pv 0) rfl) (pv 1) pe_int in_add (fun _ _ _ => rfl))
      (pss_cons (ps_set (i := 2) sc_Yb.nd rfl (.inl rfl) (pc_meth (pv 0) T.clY T.m_Yo GO hr (pa_cons (pv 1) pa_nil)))
      (pss_cons (ps_dput hu (pe_fld (pv 0) rfl) (pv 1) (pc_make T.mkB GI hr rfl T.mgB (pa_cons (pv 1) (pa_cons (pe_dget hu (pe_fld (pv 0) rfl) (pv 1) (fun _ _ => rfl)) (pa_cons (pv 2) (pa_cons (pe_fld (pv 0) rfl) pa_nil))))) rfl)
      (pss_one (ps_for PassesOwn.never rfl (pi_list (pv 2)) (pg_tup rfl (pgs_cons (pg_name (i := 3) sc_Yb.nd rfl (.inl rfl)) (pgs_cons (pg_name (i := 4) sc_Yb.nd rfl (.inl rfl)) (pgs_cons (pg_name (i := 5) sc_Yb.nd rfl (.inl rfl)) pgs_nil))))
        (pss_one (ps_expr (pc_meth (pe_dget hu (pe_fld (pv 0) rfl) (pv 4) (fun _ _ => rfl)) T.clB T.m_Bu GU hr1 (pa_cons (pv 3) (pa_cons (pv 1) (pa_cons (pv 5) pa_nil)))))))))), ?_⟩
    obtain ⟨kl, hli, ml⟩ := hY.liv
    obtain ⟨l, hl⟩ : ∃ l, S.lives b = some l := Option.isSome_iff_exists.mp ((G.liv b).mp hbm)
    obtain ⟨vl, hvl, rfl⟩ := ml.some_ hl
    have ll10 := dom10 ml G.net fun b x e => (G.liv b).mpr (by rw [e]; rfl)
    refine ⟨_, rfl, y, _, L.dx, _, _, rfl, hY.ob, T.clY, T.y_lives, rfl, _, rfl, L.dl, _, rfl, by rw [← hvl]; exact DGet.k (k := ik b) hli, _, _, rfl, rfl, _, DPut.k (k := ik b) hli (small16 (by omega)), ?_⟩
    have hY1 := hY.liv_ (f := setAt S.lives b (some (l + 1))) (ml.put (x := l + 1) (p := b) (v := .int (l + 1)) rfl)
    have f1 : Fr ll H (upd H L.dl (.dK (putK kl (ik b) (.int (l + 1))))) := Fr.dk hli
    refine ⟨_, rfl, y, L.dx, _, rfl, hY1.ob, rfl, _, rfl, y, ll, L, _, b, rfl, hY1, G.net.few, fun p tvs nbs H1 s1 hp hpv pr hlen hc => ?_⟩
    have hY2 := hY1.same s1
    obtain ⟨lv0, hl0, _⟩ := id hY1.road
    have pll : p ≠ ll := fun z => by rw [z, hl0] at hp; cases hp
    obtain ⟨kl2, hli2, ml2⟩ := hY2.liv
    obtain ⟨vl2, hvl2, rfl⟩ := ml2.some_ (p := b) (x := l + 1) (by show setAt S.lives b (some (l + 1)) b = _; rw [setAt_same])
    obtain ⟨kt, hth, mth⟩ := hY2.thr
    have lt10 := dom10 mth G.net fun b B e => G.dom b B e
    refine ⟨_, rfl, _, rfl, y, _, L.dx, _, _, rfl, hY2.ob, T.clY, T.y_lives, rfl, _, rfl, L.dl, _, rfl, by rw [← hvl2]; exact DGet.k (k := ik b) hli2, _, rfl, _, rfl, y, _, L.dx, _, _, rfl, hY2.ob, T.clY, T.y_oldest, rfl, fun x dx hx hdx nxd => ?_⟩
    have s3 : Same H1 (upd (upd H1 dx (.own x)) x (.ins (CB K) dx [])) := (same_new hdx).trans (same_new (by rw [upd_ne (Ne.symm nxd)]; exact hx))
    refine ⟨x, dx, b, l + 1, p, S.oldest, tvs, nbs, rfl, upd_same, s3 _ _ hpv, Paired.mapP pr fun _ _ r => r.keep (.of s3), by omega, fun B dt dk H3 hdt hdk hF hB fr3 => ⟨rfl, ?_⟩⟩
    have s4 : Same H1 H3 := fun c o e => fr3 c o (s3 c o e) (ne_of_none e hx)
    have hdt1 : H1 dt = none := (upd_none (upd_none hdt).2).2
    have hdk1 : H1 dk = none := (upd_none (upd_none hdk).2).2
    have hY3 := hY2.new_ (b := b) hbn hx hdt1 hdk1 s4 hB hth
    obtain ⟨F1, F2, F3, F4, F5, F6, F7⟩ := hF
    have G3 := G.again (B := B) hbn hl F1 F2 F5 F6 fun z c k e => (hc _ (F7 z c k e)).1
    refine ⟨_, rfl, y, _, L.dx, _, _, rfl, s4 _ _ hY2.ob, T.clY, T.y_there, rfl, _, rfl, L.dth, _, rfl, DPut.k (k := ik b) (s4 _ _ hth) (small16 (by omega)), ?_⟩
    have pth : p ≠ L.dth := fun z => by rw [z, hth] at hpv; cases hpv
    have f4 : Fr ll H1 (upd H3 L.dth (.dK (putK kt (ik b) (.ref x)))) := (Fr.of s4).trans (Fr.dk (s4 _ _ hth))
    obtain ⟨lv3, hl3, _⟩ := id hY2.road
    refine ⟨_, rfl, p, rfl, ⟨_, SqL.of (f4.lst hpv pll)⟩, for_list (K := K) (a := p) (xs := tvs) (fun i σ H5 => (∃ x3 x4 x5, σ = [some (.ref y), some (.int b), some (.ref p), x3, x4, x5]) ∧ Fr ll H1 H5 ∧
        ∃ L5 S5, YdL K H5 y ll L5 S5 ∧ Good S5 ∧ S5.net = S.net ∧ S5.road = S.road ∧ ∀ c C, S.there c = some C → (S5.there c).isSome = true)
      ⟨⟨none, none, none, rfl⟩, f4, _, _, hY3, G3, rfl, rfl, fun c C hC => ?_⟩ (fun i σ H5 _ h => SqL.of (h.2.1.lst hpv pll)) ?_ ?_⟩
    · show (setAt S.there b (some B) c).isSome = true
      by_cases e : c = b
      · subst e; rw [setAt_same]; rfl
      · rw [setAt_ne e, hC]; rfl
    · rintro i v σ H5 hi ⟨⟨x3, x4, x5, rfl⟩, fr, L5, S5, hY5, G5, hn5, hr5, ht5⟩
      obtain ⟨⟨z, c, k⟩, hz, a, rfl, ha⟩ := paired_at' pr hi
      have ha3 := fr.tup hl3 _ _ ha
      refine ⟨a, _, rfl, SqT.of ha3, rfl, _, _, rfl, _, _, rfl, _, _, rfl, rfl, ?_⟩
      obtain ⟨cn, _, C0, hC0⟩ := hc _ (List.mem_of_getElem? hz)
      have cn' : Conn S.net.ts z b c k := cn
      obtain ⟨C, hC⟩ : ∃ C, S5.there c = some C := Option.isSome_iff_exists.mp (ht5 c C0 hC0)
      obtain ⟨kt, hth, mth⟩ := hY5.thr
      obtain ⟨v1, hv1, rfl⟩ := mth.some_ hC
      have hb1 := hY5.brs c C hC
      obtain ⟨⟨dx1, sh1, ha1, _⟩, _⟩ := id hb1
      refine ⟨_, rfl, y, _, L5.dx, _, _, rfl, hY5.ob, T.clY, T.y_there, rfl, _, rfl, L5.dth, _, rfl, by rw [← hv1]; exact DGet.k (k := ik c) hth, L5.ba c, dx1, _, rfl, ha1, rfl, _, rfl, _, rfl, _, rfl, L5.ba c, L5.bt c, L5.bk c, C, z, b, k, rfl, hb1, G5.ok hC, fun H6 hB6 fr6 => ?_⟩
      obtain ⟨⟨L6, hY6⟩, f6⟩ := hY5.br hC (fun c o e _ n1 _ => fr6 c o e n1) hB6
      refine ⟨⟨_, _, _, rfl⟩, fr.trans f6, L6, _, hY6, G5.one hC ((G5.mild_refl hC).up (by rw [hn5]; exact cn'.symm) fun x h => (G5.ok hC).sub z x h), hn5, hr5, fun d D hD => ?_⟩
      show (setAt S5.there c _ d).isSome = true
      by_cases e : d = c
      · subst e; rw [setAt_same]; rfl
      · rw [setAt_ne e]; exact ht5 d D hD
    · rintro σ H5 ⟨⟨x3, x4, x5, rfl⟩, fr, L5, S5, hY5, G5, hn5, hr5, ht5⟩
      exact q _ _ _ hY5 G5 hn5 hr5 ((f1.trans (Fr.of s1)).trans fr)

/-! ### Yard.__init__ -/
def sp_Yi (K : PySem.W.Frag) : Sp := fun vs H Q _ => ∃ y dx np ab at_ tv N old, vs = [.ref y, .ref np, .int old] ∧ H y = some (.ins (CY K) dx []) ∧ NetAt H np ab at_ tv N ∧ NetOk N ∧
  ∀ ll L S H', YdL K H' y ll L S → Good S → S.net = N → S.road = [] → H ll = none → Fr ll H H' → Q .non H'
theorem sc_Yi : FnScope ["self", "net", "greatest", "number"] ["self", "net", "greatest"] (defScope s_Yi) := ⟨rfl, rfl, rfl, by decide +kernel, rfl, by decide +kernel, by decide +kernel⟩
theorem ok_Yi (T : Tx K mg) : Cal P w K mg base 3 (He.fAd K ("Yard", some "__init__")) ["self", "net", "greatest"] (sp_Yi K) := by
  obtain ⟨fd, F⟩ := T.f_Yi
  have GN := ok_ne (P := P) (w := w) (base := base) T
  have GI := ok_Bi (P := P) (w := w) (base := base) T
  refine Cal.mk2 F sc_Yi (fun _ _ _ _ _ _ us hl => match us, hl with | [_, _, _], _ => rfl) (fun vs H Q E h => ?_) (fun cdv A outer s H vs Q E hr h => ?_)
  · obtain ⟨y, dx, np, ab, at_, tv, N, old, rfl, _⟩ := h
    rfl
  · obtain ⟨y, dx, np, ab, at_, tv, N, old, rfl, hy, hN, ok, q⟩ := h
    have hu := hu_of hr
    have hr1 : Room 1 _ := hr.mono (by decide)
    refine ⟨_, pss_cons (ps_fld (pv 0) (pv 1) rfl) (pss_cons (ps_fld (pv 0) (pv 2) rfl) (pss_cons (ps_fld (pv 0) pe_dnewK rfl) (pss_cons (ps_fld (pv 0) pe_dnewK rfl) (pss_cons (ps_fld (pv 0) pe_dnewK rfl) (pss_cons (ps_fld (pv 0) (pe_lst pa_nil) rfl)
      (pss_one (ps_for PassesOwn.never rfl (pi_tup (pe_ix ix_tup (pv 1) pe_int (fun _ _ => rfl))) (pg_name (i := 3) sc_Yi.nd rfl (.inl rfl))
        (pss_cons (ps_dput hu (pe_fld (pv 0) rfl) (pv 3) pe_int rfl)
        (pss_one (ps_dput hu (pe_fld (pv 0) rfl) (pv 3) (pc_make T.mkB GI hr rfl T.mgB (pa_cons (pv 3) (pa_cons pe_int (pa_cons (pc_call GN hr1 rfl T.g_ne (pa_cons (pv 1) (pa_cons (pv 3) pa_nil))) (pa_cons (pv 2) pa_nil))))) rfl)))))))))), ?_⟩
    refine ⟨_, rfl, _, rfl, y, _, dx, [], rfl, hy, T.clY, T.y_plan, (by show 0 < 1000; decide), ?_⟩
    refine ⟨_, rfl, _, rfl, y, _, dx, _, rfl, upd_same, T.clY, T.y_oldest, (by show 1 < 1000; decide), ?_⟩
    intro dl hdl
    obtain ⟨dly, hdl0⟩ := upd_none hdl
    obtain ⟨_, hdl0⟩ := upd_none hdl0
    refine ⟨_, rfl, y, _, dx, _, rfl, by rw [upd_ne (Ne.symm dly)]; exact upd_same, T.clY, T.y_lives, (by show 2 < 1000; decide), ?_⟩
    intro dt hdt
    obtain ⟨dty, hdt0⟩ := upd_none hdt
    obtain ⟨dtl, hdt0⟩ := upd_none hdt0
    obtain ⟨_, hdt0⟩ := upd_none hdt0
    obtain ⟨_, hdt0⟩ := upd_none hdt0
    refine ⟨_, rfl, y, _, dx, _, rfl, by rw [upd_ne (Ne.symm dty)]; exact upd_same, T.clY, T.y_there, (by show 3 < 1000; decide), ?_⟩
    intro dc hdc
    obtain ⟨dcy, hdc0⟩ := upd_none hdc
    obtain ⟨dct, hdc0⟩ := upd_none hdc0
    obtain ⟨_, hdc0⟩ := upd_none hdc0
    obtain ⟨dcl, hdc0⟩ := upd_none hdc0
    obtain ⟨_, hdc0⟩ := upd_none hdc0
    obtain ⟨_, hdc0⟩ := upd_none hdc0
    refine ⟨_, rfl, y, _, dx, _, rfl, by rw [upd_ne (Ne.symm dcy)]; exact upd_same, T.clY, T.y_cut, (by show 4 < 1000; decide), ?_⟩
    refine ⟨(by show 0 ≤ sizeLine; decide), fun ll hll => ?_⟩
    obtain ⟨lly, hll0⟩ := upd_none hll
    obtain ⟨llc, hll0⟩ := upd_none hll0
    obtain ⟨_, hll0⟩ := upd_none hll0
    obtain ⟨llt, hll0⟩ := upd_none hll0
    obtain ⟨_, hll0⟩ := upd_none hll0
    obtain ⟨lll, hll0⟩ := upd_none hll0
    obtain ⟨_, hll0⟩ := upd_none hll0
    obtain ⟨_, hll0⟩ := upd_none hll0
    refine ⟨_, rfl, y, _, dx, _, rfl, by rw [upd_ne (Ne.symm lly)]; exact upd_same, T.clY, T.y_letters, (by show 5 < 1000; decide), ?_⟩
    generalize hH : upd (upd (upd (upd (upd (upd (upd (upd (upd (upd H y _) y _) dl _) y _) dt _) y _) dc _) y _) ll _) y _ = H1
    have f0 : ∀ b o, H b = some o → b ≠ y → H1 b = some o := fun b o e nb => by
      rw [← hH, upd_ne nb, upd_ne (ne_of_none e hll0), upd_ne nb, upd_ne (ne_of_none e hdc0), upd_ne nb, upd_ne (ne_of_none e hdt0), upd_ne nb, upd_ne (ne_of_none e hdl0), upd_ne nb, upd_ne nb]
      exact e
    have fy : H1 y = some (.ins (CY K) dx (yfs np old dl dt dc ll)) := by rw [← hH]; exact upd_same
    have fl : H1 ll = some (.lst []) := by rw [← hH, upd_ne lly]; exact upd_same
    have fc : H1 dc = some (.dK []) := by rw [← hH, upd_ne dcy, upd_ne (Ne.symm llc), upd_ne dcy]; exact upd_same
    have ft : H1 dt = some (.dK []) := by rw [← hH, upd_ne dty, upd_ne (Ne.symm llt), upd_ne dty, upd_ne (Ne.symm dct), upd_ne dty]; exact upd_same
    have fd0 : H1 dl = some (.dK []) := by rw [← hH, upd_ne dly, upd_ne (Ne.symm lll), upd_ne dly, upd_ne (Ne.symm dcl), upd_ne dly, upd_ne (Ne.symm dtl), upd_ne dly]; exact upd_same
    clear hH hdl hdt hdc hll
    have tup1 : TupK H H1 := fun b xs e => f0 b _ e (ne_of e hy (by intro z; cases z))
    have hN1 := hN.keep tup1
    have hY1 : YdL K H1 y ll ⟨dx, np, ab, at_, tv, dl, dt, dc, fun _ => y, fun _ => y, fun _ => y, fun c => if c = y then (6, 0) else if c = dl then (0, 0) else if c = dt then (1, 0) else (2, 0)⟩ ⟨N, old, fun _ => none, fun _ => none, fun _ => false, []⟩ :=
      ⟨fy, hN1, ⟨[], fd0, MapAt.empty⟩, ⟨[], ft, MapAt.empty⟩, fun b B e => (by cases e), ⟨[], fc, MapAt.empty⟩, ⟨[], fl, .nil⟩, if_pos rfl, by show (if dl = y then _ else _) = _; rw [if_neg dly, if_pos rfl], by show (if dt = y then _ else _) = _; rw [if_neg dty, if_neg dtl, if_pos rfl],
        by show (if dc = y then _ else _) = _; rw [if_neg dcy, if_neg dcl, if_neg dct], fun b B e => (by cases e)⟩
    have nd : N.bs.Nodup := lt_nd ok.rise
    refine ⟨_, rfl, np, _, _, _, rfl, rfl, SqT.of hN1.ob, rfl, ab, rfl, ⟨_, SqT.of hN1.bs⟩, for_tup (K := K) (a := ab) (xs := N.bs.map V.int) (fun i σ H3 => (∃ x3, σ = [some (.ref y), some (.ref np), some (.int old), x3]) ∧ Fr ll H1 H3 ∧
        ∃ L3 S3, YdL K H3 y ll L3 S3 ∧ S3.net = N ∧ S3.road = [] ∧ (∀ p, S3.cut p = false) ∧ (∀ b, S3.lives b = if b ∈ N.bs.take i then some 0 else none) ∧
          ∀ b B, S3.there b = some B → b ∈ N.bs.take i ∧ B.own = b ∧ B.life = 0 ∧ B.ver = 0 ∧ B.lbl = ⟨b, 0, none, none⟩ ∧ (∀ p, B.kept p = none) ∧ ∀ p c k, B.tied p = some (c, k) → Conn N.ts p b c k)
      ⟨⟨none, rfl⟩, .refl H1, _, _, hY1, rfl, rfl, fun _ => rfl, fun b => (by rw [List.take_zero, if_neg List.not_mem_nil]), fun b B e => (by cases e)⟩ (fun i σ H3 _ h => SqT.of (h.2.1.tup fl _ _ hN1.bs)) ?_ ?_⟩
    · rintro i v σ H3 hi ⟨⟨x3, rfl⟩, fr, L3, S3, hY3, hn3, hr3, hc3, hl3, ht3⟩
      obtain ⟨b, hb, rfl⟩ := map_at hi
      have hil : i < N.bs.length := (List.getElem?_eq_some_iff.mp hb).1
      have hbt : b ∉ N.bs.take i := fun hm => by
        obtain ⟨j, hj, e⟩ := List.mem_take_iff_getElem.mp hm
        have e2 : N.bs[j]? = some b := by rw [← e]; exact List.getElem?_eq_getElem _
        have := nd_inj nd e2 hb
        omega
      have hts := take_step hb
      have hN3 := hN1.keep (fr.tup fl)
      obtain ⟨kl, hli, ml⟩ := hY3.liv
      have ll10 := dom10 ml ok fun c x e => by
        rw [hl3] at e
        by_cases m : c ∈ N.bs.take i
        · exact List.mem_of_mem_take m
        · rw [if_neg m] at e; cases e
      refine ⟨_, rfl, y, _, L3.dx, _, _, rfl, hY3.ob, T.clY, T.y_lives, rfl, _, rfl, L3.dl, _, rfl, DPut.k (k := ik b) hli (small16 (by omega)), ?_⟩
      have hY4 := hY3.liv_ (f := setAt S3.lives b (some 0)) (ml.put (x := 0) (p := b) (v := .int 0) rfl)
      have f4 : Fr ll H3 (upd H3 L3.dl (.dK (putK kl (ik b) (.int 0)))) := Fr.dk hli
      have hN4 := hN3.keep (f4.tup (fr _ _ fl |> fun _ => hY3.road.choose_spec.1))
      refine ⟨_, rfl, _, rfl, _, rfl, np, ab, at_, tv, N, b, rfl, hN4, ok.few, fun p tvs nbs H5 s5 hp hpv pr hlen hc => ⟨_, rfl, fun x dx hx hdx nxd => ?_⟩⟩
      have hY5 := hY4.same s5
      obtain ⟨kt, hth, mth⟩ := hY5.thr
      have lt10 := dom10 mth ok fun c C e => List.mem_of_mem_take (ht3 c C e).1
      have hbn : S3.there b = none := by
        cases e : S3.there b with
        | none => rfl
        | some B => exact absurd (ht3 b B e).1 hbt
      have s6 : Same H5 (upd (upd H5 dx (.own x)) x (.ins (CB K) dx [])) := (same_new hdx).trans (same_new (by rw [upd_ne (Ne.symm nxd)]; exact hx))
      refine ⟨x, dx, b, 0, p, old, tvs, nbs, rfl, upd_same, s6 _ _ hpv, Paired.mapP pr fun _ _ r => r.keep (.of s6), by omega, fun B dt dk H7 hdt hdk hF hB fr7 => ⟨rfl, ?_⟩⟩
      have s8 : Same H5 H7 := fun c o e => fr7 c o (s6 c o e) (ne_of_none e hx)
      have hdt1 : H5 dt = none := (upd_none (upd_none hdt).2).2
      have hdk1 : H5 dk = none := (upd_none (upd_none hdk).2).2
      have hY8 := hY5.new_ (b := b) hbn hx hdt1 hdk1 s8 hB hth
      obtain ⟨F1, F2, F3, F4, F5, F6, F7⟩ := hF
      refine ⟨_, rfl, y, _, L3.dx, _, _, rfl, s8 _ _ hY5.ob, T.clY, T.y_there, rfl, _, rfl, L3.dth, _, rfl, DPut.k (k := ik b) (s8 _ _ hth) (small16 (by omega)), ?_⟩
      refine ⟨⟨_, rfl⟩, ((fr.trans f4).trans (Fr.of s5)).trans ((Fr.of s8).trans (Fr.dk (s8 _ _ hth))), _, _, hY8, hn3, hr3, hc3, fun c => ?_, fun c C hC => ?_⟩
      · show setAt S3.lives b (some 0) c = _
        rw [hts]
        by_cases e : c = b
        · subst e
          rw [setAt_same, if_pos (List.mem_append_right _ (List.mem_singleton.mpr rfl))]
        · rw [setAt_ne e, hl3]
          by_cases m : c ∈ N.bs.take i
          · rw [if_pos m, if_pos (List.mem_append_left _ m)]
          · rw [if_neg m, if_neg fun z => (List.mem_append.mp z).elim m fun z => e (List.mem_singleton.mp z)]
      · have hC' : setAt S3.there b (some B) c = some C := hC
        rw [hts]
        by_cases e : c = b
        · subst e
          rw [setAt_same] at hC'
          cases hC'
          exact ⟨List.mem_append_right _ (List.mem_singleton.mpr rfl), F1, F2, F4, F5, F6, fun z c k e => hc _ (F7 z c k e)⟩
        · rw [setAt_ne e] at hC'
          obtain ⟨a1, a2⟩ := ht3 c C hC'
          exact ⟨List.mem_append_left _ a1, a2⟩
    · rintro σ H3 ⟨⟨x3, rfl⟩, fr, L3, S3, hY3, hn3, hr3, hc3, hl3, ht3⟩
      rw [List.length_map] at hl3 ht3
      rw [List.take_length] at hl3 ht3
      refine q ll L3 S3 H3 hY3 (Good.first (hn3 ▸ ok) (by rw [hn3]; exact hl3) hr3 hc3 (by rw [hn3]; exact ht3)) hn3 hr3 hll0 fun b o e nl d i => ?_
      exact fr b o (f0 b o e fun z => by rw [z, hy] at e; exact i _ _ _ (Option.some.inj e).symm) nl d i
end
end Sw

/-! Sw: the walk of Yard.deed. -/
namespace Sw
open PySem PySem.Spec PyProof.Rows L2
theorem ps_no {X : Cx} {st : Stmt} : PS X st (fun _ _ _ => False) := ⟨fun _ _ _ _ _ _ h => False.elim h⟩
section
variable {P : Program} {w : World} {K : PySem.W.Frag} {mg : Str → Option Value} {base : Heap}
def Post (S S' : Yd) : Deed → Prop
  | .tick _ => S'.road.length ≤ S.road.length + 16 ∧ ∀ b, (S'.there b).isSome = (S.there b).isSome
  | .come _ => S'.road.length + 1 = S.road.length
  | .lost _ => S'.road.length + 1 = S.road.length
  | _ => S'.road = S.road
def sp_Yd (K : PySem.W.Frag) : Sp := fun vs H Q _ => ∃ y ll L S v d, vs = [.ref y, v] ∧ YdL K H y ll L S ∧ Good S ∧ DeedAt H v d ∧ Can S d ∧ S.road.length ≤ 1000000 ∧
  ∀ L' S' H', YdL K H' y ll L' S' → Good S' → S'.net = S.net → Post S S' d → Fr ll H H' → Q .non H'
theorem sc_Yd : FnScope ["self", "some", "place", "letter"] ["self", "some"] (defScope s_Yd) := ⟨rfl, rfl, rfl, by decide +kernel, rfl, by decide +kernel, by decide +kernel⟩
theorem eraseIdx_len {α : Type} {l : List α} {i : Nat} (h : i < l.length) : (l.eraseIdx i).length + 1 = l.length := by
  rw [List.length_eraseIdx_of_lt h]; omega
def msgOf (b : Int) (B : Br) (x : Int × Ltr) : Msg := ⟨b, match B.tied x.1 with | some y => y.1 | none => 0, x.1, x.2⟩
theorem ok_Yd (T : Tx K mg) : Cal P w K mg base 4 (He.fAd K ("Yard", some "deed")) ["self", "some"] (sp_Yd K) := by
  obtain ⟨fd, F⟩ := T.f_Yd
  have GS := ok_sh (P := P) (w := w) (base := base) T
  have GC := ok_Yc (P := P) (w := w) (base := base) T
  have GT := ok_Bt (P := P) (w := w) (base := base) T
  have GA := ok_Ya (P := P) (w := w) (base := base) T
  have GM := ok_Ym (P := P) (w := w) (base := base) T
  have GTT := ok_Yt (P := P) (w := w) (base := base) T
  have GF := ok_Yf (P := P) (w := w) (base := base) T
  have GB := ok_Yb (P := P) (w := w) (base := base) T
  refine Cal.mk2 F sc_Yd (fun _ _ _ _ _ _ us hl => match us, hl with | [_, _], _ => rfl) (fun vs H Q E h => ?_) (fun cdv A outer s H vs Q E hr h => ?_)
  · obtain ⟨y, ll, L, S, v, d, rfl, _⟩ := h
    rfl
  · obtain ⟨y, ll, L, S, v, d, rfl, hY0, G, hd, hcan, hlen, q⟩ := h
    have hu := hu_of hr
    have hr1 : Room 1 _ := hr.mono (by decide)
    have hr2 : Room 2 _ := hr.mono (by decide)
    refine ⟨_, pss_cons (ps_if (PW.pt (pw_or (pt_not (pt_val (pc_call GS hr2 rfl T.g_sh (pa_cons (pv 1) pa_nil)))) (pw_or1 (pt_not (pt_val (pc_meth (pv 0) T.clY T.m_Yc GC hr1 (pa_cons (pv 1) pa_nil))))))) (pss_one ps_no) pss_nil)
      (pss_one (ps_if (pt_cmpR op_eq (pe_ix ix_tup (pv 1) pe_int (fun _ _ => rfl)) pe_str (nomark _))
        (pss_one (ps_for PassesOwn.never rfl (pi_list (pc_meth0 (pe_dget hu (pe_fld (pv 0) rfl) (pe_ix ix_tup (pv 1) pe_int (fun _ _ => rfl)) (fun _ _ => rfl)) T.clB T.m_Bt GT hr)) (pg_tup rfl (pgs_cons (pg_name (i := 2) sc_Yd.nd rfl (.inl rfl)) (pgs_cons (pg_name (i := 3) sc_Yd.nd rfl (.inl rfl)) pgs_nil)))
          (pss_one (ps_expr (pe_bm PySem.F.plainAttrs_list PySem.F.slot_list_append PySem.F.type_list_append mt_append (pe_fld (pv 0) rfl) (pa_cons (pe_tup (pa_cons (pe_ix ix_tup (pv 1) pe_int (fun _ _ => rfl)) (pa_cons (pc_meth (pv 0) T.clY T.m_Ya GA hr1 (pa_cons (pv 2) (pa_cons (pe_ix ix_tup (pv 1) pe_int (fun _ _ => rfl)) pa_nil))) (pa_cons (pv 2) (pa_cons (pv 3) pa_nil))))) pa_nil))))))
        (pss_one (ps_if (pt_cmpR op_eq (pe_ix ix_tup (pv 1) pe_int (fun _ _ => rfl)) pe_str (nomark _))
          (pss_one (ps_expr (pc_meth (pv 0) T.clY T.m_Ym GM hr (pa_cons (pe_bm PySem.F.plainAttrs_list PySem.F.slot_list_pop PySem.F.type_list_pop mt_popAt (pe_fld (pv 0) rfl) (pa_cons (pe_ix ix_tup (pv 1) pe_int (fun _ _ => rfl)) pa_nil)) pa_nil))))
          (pss_one (ps_if (pt_cmpR op_eq (pe_ix ix_tup (pv 1) pe_int (fun _ _ => rfl)) pe_str (nomark _))
            (pss_one (ps_expr (pe_bm PySem.F.plainAttrs_list PySem.F.slot_list_pop PySem.F.type_list_pop mt_popAt (pe_fld (pv 0) rfl) (pa_cons (pe_ix ix_tup (pv 1) pe_int (fun _ _ => rfl)) pa_nil))))
            (pss_one (ps_if (pt_cmpR op_eq (pe_ix ix_tup (pv 1) pe_int (fun _ _ => rfl)) pe_str (nomark _))
              (pss_one (ps_expr (pc_meth (pv 0) T.clY T.m_Yt GTT hr2 (pa_cons (pe_ix ix_tup (pv 1) pe_int (fun _ _ => rfl)) (pa_cons (pe_cmpR op_eq (pe_ix ix_tup (pv 1) pe_int (fun _ _ => rfl)) pe_str (nomark _)) pa_nil)))))
              (pss_one (ps_if (pt_cmpR op_eq (pe_ix ix_tup (pv 1) pe_int (fun _ _ => rfl)) pe_str (nomark _))
                (pss_one (ps_expr (pc_meth (pv 0) T.clY T.m_Yf GF hr (pa_cons (pe_ix ix_tup (pv 1) pe_int (fun _ _ => rfl)) pa_nil))))
                (pss_one (ps_expr (pc_meth (pv 0) T.clY T.m_Yb GB hr (pa_cons (pe_ix ix_tup (pv 1) pe_int (fun _ _ => rfl)) pa_nil)))))))))))))), ?_⟩
    refine ⟨_, rfl, v, d, rfl, hd, fun H1 s1 => ⟨_, rfl, iteF ?_⟩⟩
    have hY1 := hY0.same s1
    have hd1 : DeedAt H1 v d := by
      obtain ⟨a, e, h⟩ := hd
      exact ⟨a, e, s1 _ _ h⟩
    refine ⟨_, rfl, y, L.dx, _, rfl, hY1.ob, rfl, _, rfl, y, ll, L, S, v, d, rfl, hY1, hd1, hcan, fun b hb => (G.liv b).mp hb, fun H2 s2 => ⟨_, rfl, iteF ?_⟩⟩
    have hY := hY1.same s2
    have f2 : Fr ll H H2 := Fr.of (s1.trans s2)
    obtain ⟨a, rfl, ha⟩ : DeedAt H2 v d := by
      obtain ⟨a, e, h⟩ := hd1
      exact ⟨a, e, s2 _ _ h⟩
    obtain ⟨vs0, hll, prd⟩ := id hY.road
    have lvs : vs0.length = S.road.length := Paired.length prd
    have ne1 : ("come" == "tick") = false := by decide
    cases d with
    | tick b =>
      refine ⟨_, rfl, a, _, _, _, rfl, rfl, SqT.of ha, rfl, rfl, _, rfl, iteT ?_⟩
      obtain ⟨B, hB⟩ := hcan
      obtain ⟨kt, hth, mth⟩ := hY.thr
      obtain ⟨v1, hv1, rfl⟩ := mth.some_ hB
      have hb1 := hY.brs b B hB
      obtain ⟨⟨dx1, sh1, ha1, _⟩, ⟨k3, g3, _⟩, ⟨k5, g5, _⟩, _⟩ := id hb1
      refine ⟨_, rfl, y, _, L.dx, _, _, rfl, hY.ob, T.clY, T.y_there, rfl, _, rfl, a, _, _, _, rfl, rfl, SqT.of ha, rfl, L.dth, _, rfl, by rw [← hv1]; exact DGet.k (k := ik b) hth, L.ba b, dx1, _, rfl, ha1, rfl, L.ba b, L.bt b, L.bk b, B, rfl, hb1, G.ok hB, fun B' dk' tp vs' ms H3 hdk' tok hB' htp htv pr hms hml fr3 => ?_⟩
      have t3 : TupK H2 H3 := fun c xs e => fr3 c _ e (ne_of e ha1 (by intro z; cases z))
      have hY3 := hY.bridge hB t3 (.inr hdk') (fun c o e n1 _ _ => fr3 c o e n1) hB'
      have tll : tp ≠ ll := fun z => by rw [z, hll] at htp; cases htp
      have f3 : Fr ll H2 H3 := fun c o e n d i => fr3 c o e fun z => by rw [z, ha1] at e; exact i _ _ _ (Option.some.inj e).symm
      generalize hL : ({ L with bk := fun c => if c = b then dk' else L.bk c, ro := fun c => if c = dk' then (5, b) else L.ro c } : Lay) = L3 at hY3
      have lms : vs'.length = ms.length := Paired.length pr
      have l16 : 1000016 < sizeLine := by decide
      refine ⟨tp, rfl, ⟨_, SqL.of htv⟩, for_list (K := K) (a := tp) (xs := vs') (fun i σ H4 => (∃ x2 x3, σ = [some (.ref y), some (.ref a), x2, x3]) ∧ (∀ c o, H3 c = some o → c ≠ ll → H4 c = some o) ∧
          YdL K H4 y ll L3 { S with there := setAt S.there b (some B'), road := S.road ++ (ms.take i).map (msgOf b B) })
        ⟨⟨none, none, rfl⟩, fun c o e _ => e, by rw [List.take_zero, List.map_nil, List.append_nil]; exact hY3⟩ (fun i σ H4 _ h => SqL.of (h.2.1 _ _ htv tll)) ?_ ?_⟩
      · rintro i v σ H4 hi ⟨⟨x2, x3, rfl⟩, fr, hY4⟩
        obtain ⟨⟨p, l⟩, hm, c, lv, rfl, hc1, hc2⟩ := paired_at' pr hi
        have hil : i < ms.length := (List.getElem?_eq_some_iff.mp hm).1
        have hl3 := (fr3 _ _ hll (ne_of hll ha1 (by intro z; cases z)))
        have t4 : TupK H3 H4 := fun c xs e => fr c _ e (ne_of e hl3 (by intro z; cases z))
        refine ⟨c, _, rfl, SqT.of (t4 _ _ hc1), rfl, _, _, rfl, _, _, rfl, rfl, ?_⟩
        obtain ⟨⟨⟨c', k'⟩, htd⟩, hlo⟩ := hms _ (List.mem_of_getElem? hm)
        have htd' : B.tied p = some (c', k') := htd
        have hcn := G.tied hB htd'
        obtain ⟨vs4, hll4, pr4⟩ := id hY4.road
        have ha4 := t4 _ _ (t3 _ _ ha)
        refine ⟨_, rfl, y, _, _, _, _, rfl, hY4.ob, T.clY, T.y_letters, rfl, .inl ⟨rfl, _, .inl (.inl hll4)⟩, _, rfl, a, _, _, _, rfl, rfl, SqT.of ha4, rfl, _, rfl, y, _, _, rfl, hY4.ob, rfl, _, rfl, _, rfl, a, _, _, _, rfl, rfl, SqT.of ha4, rfl, y, ll, L3, _, p, b, c', k', rfl, hY4, hcn, _, rfl, _, rfl, (by show 4 ≤ sizeLine; decide), fun u hu2 => ?_⟩
        have s5 := same_new (o := .tup [.int b, .int c', .int p, lv]) hu2
        have lv4 : vs4.length = S.road.length + i := by
          rw [Paired.length pr4, List.length_append, List.length_map, List.length_take, Nat.min_eq_left (Nat.le_of_lt hil)]
        refine ⟨ll, vs4, .ref u, rfl, rfl, s5 _ _ hll4, Nat.lt_of_le_of_lt (by omega) l16, ?_⟩
        have hY5 := hY4.same s5
        have hY6 := hY5.road_ (vs := vs4 ++ [.ref u]) (ms := (S.road ++ (ms.take i).map (msgOf b B)) ++ [⟨b, c', p, l⟩]) (paired_app (Paired.mapP pr4 fun _ _ r => r.keep (.of s5)) (.cons ⟨u, lv, rfl, upd_same, (hc2.keep t4).keep (.of s5)⟩ .nil))
        refine ⟨⟨_, _, rfl⟩, fun d o e n => by rw [upd_ne n]; exact s5 _ _ (fr d o e n), ?_⟩
        rw [take_step hm, List.map_append, List.map_cons, List.map_nil, ← List.append_assoc]
        have em : msgOf b B (p, l) = ⟨b, c', p, l⟩ := by
          unfold msgOf
          rw [htd']
        rw [em]
        exact hY6
      · rintro σ H4 ⟨⟨x2, x3, rfl⟩, fr, hY4⟩
        rw [lms, List.take_length] at hY4
        refine q L3 _ H4 hY4 (G.tick hB tok (ms.map (msgOf b B)) fun m hm => ?_) rfl ⟨?_, fun c => ?_⟩ ((f2.trans f3).trans fun c o e n _ _ => fr c o e n)
        · obtain ⟨x, hx, rfl⟩ := List.mem_map.mp hm
          obtain ⟨⟨⟨c', k'⟩, htd⟩, hlo⟩ := hms _ hx
          refine ⟨rfl, k', ?_, hlo⟩
          show B.tied x.1 = some (match B.tied x.1 with | some y => y.1 | none => 0, k')
          rw [htd]
        · show (S.road ++ ms.map (msgOf b B)).length ≤ _
          rw [List.length_append, List.length_map]
          omega
        · show (setAt S.there b (some B') c).isSome = _
          by_cases e : c = b
          · subst e; rw [setAt_same, hB]; rfl
          · rw [setAt_ne e]
    | come k =>
      obtain ⟨h0, h1⟩ := hcan
      refine ⟨_, rfl, a, _, _, _, rfl, rfl, SqT.of ha, rfl, rfl, _, rfl, iteF ?_⟩
      refine ⟨_, rfl, a, _, _, _, rfl, rfl, SqT.of ha, rfl, rfl, _, rfl, iteT ?_⟩
      have hk : k.toNat < S.road.length := by omega
      obtain ⟨v, hv, hvm⟩ := paired_at prd (List.getElem?_eq_getElem hk)
      have hmem : S.road[k.toNat] ∈ S.road := List.getElem_mem hk
      have el := eraseIdx_len hk
      obtain ⟨k1, hcn⟩ := G.msg hmem
      refine ⟨_, rfl, y, L.dx, _, rfl, hY.ob, rfl, _, rfl, y, _, _, _, _, rfl, hY.ob, T.clY, T.y_letters, rfl, .inl ⟨rfl, _, .inl (.inl hll)⟩, _, rfl, a, _, _, _, rfl, rfl, SqT.of ha, rfl, ll, vs0, k, k.toNat, v, rfl, rfl, hll, by omega, by omega, seqIndex_of h0 (by omega), hv, ?_⟩
      have hY3 := hY.road_ (paired_erase k.toNat prd)
      have f3 : Fr ll H2 (upd H2 ll (.lst (vs0.eraseIdx k.toNat))) := Fr.ll
      have hme : ∀ m, m ∈ S.road.eraseIdx k.toNat → m ∈ S.road := fun m hm => List.mem_of_mem_eraseIdx hm
      refine ⟨y, ll, L, _, v, _, k1, rfl, hY3, G.road_ hme, hvm.keep (f3.tup hll), hcn, fun L' S' H4 hY4 hS f4 => ?_⟩
      rcases hS with e | ⟨B, x, hB, hx, e⟩
      · subst e
        exact q L' _ H4 hY4 (G.road_ hme) rfl el ((f2.trans f3).trans f4)
      · subst e
        exact q L' _ H4 hY4 ((G.hear hmem hB hx _).road_ hme) rfl el ((f2.trans f3).trans f4)
    | lost k =>
      obtain ⟨h0, h1⟩ := hcan
      refine ⟨_, rfl, a, _, _, _, rfl, rfl, SqT.of ha, rfl, rfl, _, rfl, iteF ?_⟩
      refine ⟨_, rfl, a, _, _, _, rfl, rfl, SqT.of ha, rfl, rfl, _, rfl, iteF ?_⟩
      refine ⟨_, rfl, a, _, _, _, rfl, rfl, SqT.of ha, rfl, rfl, _, rfl, iteT ?_⟩
      have hk : k.toNat < S.road.length := by omega
      obtain ⟨v, hv, hvm⟩ := paired_at prd (List.getElem?_eq_getElem hk)
      have el := eraseIdx_len hk
      refine ⟨_, rfl, y, _, _, _, _, rfl, hY.ob, T.clY, T.y_letters, rfl, .inl ⟨rfl, _, .inl (.inl hll)⟩, _, rfl, a, _, _, _, rfl, rfl, SqT.of ha, rfl, ll, vs0, k, k.toNat, v, rfl, rfl, hll, by omega, by omega, seqIndex_of h0 (by omega), hv, ?_⟩
      have hY3 := hY.road_ (paired_erase k.toNat prd)
      have f3 : Fr ll H2 (upd H2 ll (.lst (vs0.eraseIdx k.toNat))) := Fr.ll
      exact q L _ _ hY3 (G.road_ fun m hm => List.mem_of_mem_eraseIdx hm) rfl el (f2.trans f3)
    | fallT p =>
      obtain ⟨hp, hcu⟩ := hcan
      refine ⟨_, rfl, a, _, _, _, rfl, rfl, SqT.of ha, rfl, rfl, _, rfl, iteF ?_⟩
      refine ⟨_, rfl, a, _, _, _, rfl, rfl, SqT.of ha, rfl, rfl, _, rfl, iteF ?_⟩
      refine ⟨_, rfl, a, _, _, _, rfl, rfl, SqT.of ha, rfl, rfl, _, rfl, iteF ?_⟩
      refine ⟨_, rfl, a, _, _, _, rfl, rfl, SqT.of ha, rfl, rfl, _, rfl, iteT ?_⟩
      refine ⟨_, rfl, y, L.dx, _, rfl, hY.ob, rfl, _, rfl, a, _, _, _, rfl, rfl, SqT.of ha, rfl, _, rfl, a, _, _, _, rfl, rfl, SqT.of ha, rfl, rfl, y, ll, L, S, p, false, rfl, hY, G, hp, hcu, fun L' S' H3 hY3 G3 n3 r3 f3 => ?_⟩
      exact q L' S' H3 hY3 G3 n3 r3 (f2.trans f3)
    | backT p =>
      obtain ⟨hp, hcu⟩ := hcan
      refine ⟨_, rfl, a, _, _, _, rfl, rfl, SqT.of ha, rfl, rfl, _, rfl, iteF ?_⟩
      refine ⟨_, rfl, a, _, _, _, rfl, rfl, SqT.of ha, rfl, rfl, _, rfl, iteF ?_⟩
      refine ⟨_, rfl, a, _, _, _, rfl, rfl, SqT.of ha, rfl, rfl, _, rfl, iteF ?_⟩
      refine ⟨_, rfl, a, _, _, _, rfl, rfl, SqT.of ha, rfl, rfl, _, rfl, iteT ?_⟩
      refine ⟨_, rfl, y, L.dx, _, rfl, hY.ob, rfl, _, rfl, a, _, _, _, rfl, rfl, SqT.of ha, rfl, _, rfl, a, _, _, _, rfl, rfl, SqT.of ha, rfl, rfl, y, ll, L, S, p, true, rfl, hY, G, hp, hcu, fun L' S' H3 hY3 G3 n3 r3 f3 => ?_⟩
      exact q L' S' H3 hY3 G3 n3 r3 (f2.trans f3)
    | fallB b =>
      obtain ⟨hp, hcu⟩ := hcan
      refine ⟨_, rfl, a, _, _, _, rfl, rfl, SqT.of ha, rfl, rfl, _, rfl, iteF ?_⟩
      refine ⟨_, rfl, a, _, _, _, rfl, rfl, SqT.of ha, rfl, rfl, _, rfl, iteF ?_⟩
      refine ⟨_, rfl, a, _, _, _, rfl, rfl, SqT.of ha, rfl, rfl, _, rfl, iteF ?_⟩
      refine ⟨_, rfl, a, _, _, _, rfl, rfl, SqT.of ha, rfl, rfl, _, rfl, iteF ?_⟩
      refine ⟨_, rfl, a, _, _, _, rfl, rfl, SqT.of ha, rfl, rfl, _, rfl, iteT ?_⟩
      refine ⟨_, rfl, y, L.dx, _, rfl, hY.ob, rfl, _, rfl, a, _, _, _, rfl, rfl, SqT.of ha, rfl, y, ll, L, S, b, rfl, hY, G, hcu, fun L' S' H3 hY3 G3 n3 r3 f3 => ?_⟩
      exact q L' S' H3 hY3 G3 n3 r3 (f2.trans f3)
    | backB b =>
      obtain ⟨hp, hcu⟩ := hcan
      refine ⟨_, rfl, a, _, _, _, rfl, rfl, SqT.of ha, rfl, rfl, _, rfl, iteF ?_⟩
      refine ⟨_, rfl, a, _, _, _, rfl, rfl, SqT.of ha, rfl, rfl, _, rfl, iteF ?_⟩
      refine ⟨_, rfl, a, _, _, _, rfl, rfl, SqT.of ha, rfl, rfl, _, rfl, iteF ?_⟩
      refine ⟨_, rfl, a, _, _, _, rfl, rfl, SqT.of ha, rfl, rfl, _, rfl, iteF ?_⟩
      refine ⟨_, rfl, a, _, _, _, rfl, rfl, SqT.of ha, rfl, rfl, _, rfl, iteF ?_⟩
      refine ⟨_, rfl, y, L.dx, _, rfl, hY.ob, rfl, _, rfl, a, _, _, _, rfl, rfl, SqT.of ha, rfl, y, ll, L, S, b, rfl, hY, G, hp, hcu, fun L' S' H3 hY3 G3 n3 r3 f3 => ?_⟩
      exact q L' S' H3 hY3 G3 n3 r3 (f2.trans f3)
end
end Sw

/-! Sw: the walk of open_ways. -/
namespace Sw
open PySem PySem.Spec PyProof.Rows L2
section
variable {P : Program} {w : World} {K : PySem.W.Frag} {mg : Str → Option Value} {base : Heap}
def WayV (H : Hp) (v : V) (x : Way) : Prop := ∃ a, v = .ref a ∧ H a = some (.tup [.int x.pl, .int x.ch, .int x.pa])
theorem WayV.keep {H H' : Hp} {v : V} {x : Way} (k : TupK H H') (h : WayV H v x) : WayV H' v x := by
  obtain ⟨a, e, h⟩ := h
  exact ⟨a, e, k a _ h⟩
def endD (x : K4 × K4) : PyData := .tuple [.str (kS x.1), .str (kS x.2)]
theorem end_eqv (x y : K4 × K4) : PyData.eqv (endD x) (endD y) = decide (x = y) := by
  obtain ⟨a, b⟩ := x
  obtain ⟨c, d⟩ := y
  cases a <;> cases b <;> cases c <;> cases d <;> decide
theorem endD_shaped (x : K4 × K4) : SeqAt.shaped (endD x) = true := by
  obtain ⟨a, b⟩ := x
  cases a <;> cases b <;> decide +kernel
def sp_ow (K : PySem.W.Frag) : Sp := fun vs H Q _ => ∃ y ll L S, vs = [.ref y] ∧ YdL K H y ll L S ∧ S.net.ts.length ≤ 16 ∧
  ∀ p tvs H', Same H H' → H p = none → H' p = some (.lst tvs) → Paired (WayV H') tvs (waysOf S) → tvs.length ≤ 16 → Q (.ref p) H'
theorem sc_ow : FnScope ["yard", "ways", "place", "tie", "ends"] ["yard"] (defScope s_ow) := ⟨rfl, rfl, rfl, by decide +kernel, rfl, by decide +kernel, by decide +kernel⟩
theorem ok_ow (T : Tx K mg) : Cal P w K mg base 4 (He.fAd K ("open_ways", none)) ["yard"] (sp_ow K) := by
  obtain ⟨fd, F⟩ := T.f_ow
  have GN := ok_Yn (P := P) (w := w) (base := base) T
  have GE := ok_Ye (P := P) (w := w) (base := base) T
  refine Cal.mk2 F sc_ow (fun _ _ _ _ _ _ us hl => match us, hl with | [_], _ => rfl) (fun vs H Q E h => ?_) (fun cdv A outer s H vs Q E hr h => ?_)
  · obtain ⟨y, ll, L, S, rfl, _⟩ := h
    rfl
  · obtain ⟨y, ll, L, S, rfl, hY, h16, q⟩ := h
    have hr1 : Room 1 _ := hr.mono (by decide)
    refine ⟨_, pss_cons (ps_set (i := 1) sc_ow.nd rfl (.inl rfl) (pe_lst pa_nil))
      (pss_cons (ps_for PassesOwn.never rfl (pi_enumT (by rfl) T.z_enumerate (pa_cons (pe_ix ix_tup (pc_meth0 (pv 0) T.clY T.m_Yn GN hr1) pe_int (fun _ _ => rfl)) pa_nil)) (pg_tup rfl (pgs_cons (pg_name (i := 2) sc_ow.nd rfl (.inl rfl)) (pgs_cons (pg_name (i := 3) sc_ow.nd rfl (.inl rfl)) pgs_nil)))
        (pss_cons (ps_set (i := 4) sc_ow.nd rfl (.inl rfl) (pc_meth (pv 0) T.clY T.m_Ye GE hr (pa_cons (pv 2) pa_nil)))
        (pss_one (ps_if (pt_cmpR (op_eqD hr.units) (pv 4) (pe_tup (pa_cons pe_str (pa_cons pe_str pa_nil))) (nomark _))
          (pss_one (ps_expr (pe_bm PySem.F.plainAttrs_list PySem.F.slot_list_append PySem.F.type_list_append mt_append (pv 1) (pa_cons (pe_tup (pa_cons (pv 2) (pa_cons (pe_ix ix_tup (pv 3) pe_int (fun _ _ => rfl)) (pa_cons (pe_ix ix_tup (pv 3) pe_int (fun _ _ => rfl)) pa_nil)))) pa_nil))))
          (pss_one (ps_if (pt_cmpR (op_eqD hr.units) (pv 4) (pe_tup (pa_cons pe_str (pa_cons pe_str pa_nil))) (nomark _))
            (pss_one (ps_expr (pe_bm PySem.F.plainAttrs_list PySem.F.slot_list_append PySem.F.type_list_append mt_append (pv 1) (pa_cons (pe_tup (pa_cons (pv 2) (pa_cons (pe_ix ix_tup (pv 3) pe_int (fun _ _ => rfl)) (pa_cons (pe_ix ix_tup (pv 3) pe_int (fun _ _ => rfl)) pa_nil)))) pa_nil)))) pss_nil))))))
      (pss_one (ps_ret (pv 1)))), ?_⟩
    refine ⟨(by show 0 ≤ sizeLine; decide), fun D hD => ?_⟩
    have s1 : Same H (upd H D (.lst [])) := same_new hD
    have hY1 := hY.same s1
    have ltv : L.tv.length = S.net.ts.length := Paired.length hY.net.tie
    refine ⟨_, rfl, y, L.dx, _, rfl, hY1.ob, rfl, y, ll, L, S, rfl, hY1, L.np, _, _, _, rfl, rfl, SqT.of hY1.net.ob, rfl, L.at_, L.tv, rfl, SqT.of hY1.net.ts, for_enumT (K := K) (a := L.at_) (xs := L.tv) (fun i σ H2 => (∃ x2 x3 x4, σ = [some (.ref y), some (.ref D), x2, x3, x4]) ∧ Same H H2 ∧
        ∃ tvs, H2 D = some (.lst tvs) ∧ Paired (WayV H2) tvs (waysTo S i) ∧ tvs.length ≤ i)
      ⟨⟨none, none, none, rfl⟩, s1, [], upd_same, .nil, Nat.zero_le _⟩ (fun i σ H2 _ h => SqT.of (h.2.1 _ _ hY.net.ts)) ?_ ?_⟩
    · rintro i v σ H2 tp hi ⟨⟨x2, x3, x4, rfl⟩, s2, tvs, hDv, pr, hli⟩ htp
      obtain ⟨⟨o1, o2, k⟩, hn, a, rfl, ha⟩ := paired_at' hY.net.tie hi
      have s3 := same_new (o := .tup [.int (i : Nat), .ref a]) htp
      have hil : i < L.tv.length := (List.getElem?_eq_some_iff.mp hi).1
      have ht : tieAt S.net.ts (i : Int) = some (o1, o2, k) := by rw [tieAt_nat]; exact hn
      refine ⟨tp, _, rfl, SqT.of upd_same, rfl, _, _, rfl, _, _, rfl, rfl, ?_⟩
      have hY3 := hY.same (s2.trans s3)
      refine ⟨_, rfl, y, L.dx, _, rfl, hY3.ob, rfl, _, rfl, y, ll, L, S, (i : Int), (o1, o2, k), rfl, hY3, ht, fun r H4 s4 hr4 => ?_⟩
      have s5 := s3.trans s4
      have lts : tvs.length < sizeLine := Nat.lt_of_le_of_lt (by omega : tvs.length ≤ 16) (by decide)
      rw [waysTo_succ]
      have ew : wayAt S i = if endsOf S i = (.child, .parent) then some ⟨i, o1, o2⟩ else if endsOf S i = (.parent, .child) then some ⟨i, o2, o1⟩ else none := by
        unfold wayAt
        rw [hn]
      -- one more
      have more : ∀ (Hx : Hp) (u : Addr) (c q : Int), Same H4 Hx → Hx u = none → wayAt S i = some ⟨i, c, q⟩ →
          (∃ x2' x3' x4', ([some (.ref y), some (.ref D), some (.int (i : Nat)), some (.ref a), some (.ref r)] : L2.St) = [some (.ref y), some (.ref D), x2', x3', x4']) ∧ Same H (upd (upd Hx u (.tup [.int (i : Nat), .int c, .int q])) D (.lst (tvs ++ [.ref u]))) ∧
          ∃ tvs', (upd (upd Hx u (.tup [.int (i : Nat), .int c, .int q])) D (.lst (tvs ++ [.ref u]))) D = some (.lst tvs') ∧ Paired (WayV (upd (upd Hx u (.tup [.int (i : Nat), .int c, .int q])) D (.lst (tvs ++ [.ref u])))) tvs' (waysTo S i ++ (wayAt S i).toList) ∧ tvs'.length ≤ i + 1 := fun Hx u c q sx hu e => by
        have s6 := (s5.trans sx).trans (same_new (o := .tup [.int (i : Nat), .int c, .int q]) hu)
        have t7 : TupK (upd Hx u (.tup [.int (i : Nat), .int c, .int q])) (upd (upd Hx u (.tup [.int (i : Nat), .int c, .int q])) D (.lst (tvs ++ [.ref u]))) := tupK_upd fun xs e => by rw [s6 _ _ hDv] at e; cases e
        have une : u ≠ D := fun z => by rw [z, (s5.trans sx) _ _ hDv] at hu; cases hu
        refine ⟨⟨_, _, _, rfl⟩, fun x o e => ?_, _, upd_same, ?_, by rw [List.length_append]; simp only [List.length_cons, List.length_nil]; omega⟩
        · have xD : x ≠ D := fun w => by rw [w, hD] at e; cases e
          rw [upd_ne xD]; exact s6 _ _ (s2 _ _ e)
        · rw [e]
          exact paired_app (Paired.mapP pr fun _ _ r => r.keep ((TupK.of s6).trans t7)) (.cons ⟨u, rfl, by rw [upd_ne une]; exact upd_same⟩ .nil)
      have hdp : Dp K H4 (.ref r) (endD (endsOf S i)) := .tup (SqT.of hr4) (.cons (.str _) (.cons (.str _) .nil))
      have ha4 := s5 _ _ (s2 _ _ ha)
      refine ⟨_, rfl, (by show 2 ≤ sizeLine; decide), fun g hg => ?_⟩
      have s6 := same_new (o := .tup [.str "child", .str "parent"]) hg
      refine ⟨endD (endsOf S i), endD (.child, .parent), .tup (SqT.of (s6 _ _ hr4)) (.cons (.str _) (.cons (.str _) .nil)), .tup (SqT.of upd_same) (.cons (.str _) (.cons (.str _) .nil)), endD_shaped _, endD_shaped _, _, rfl, ?_⟩
      rw [end_eqv]
      by_cases c1 : endsOf S i = (.child, .parent)
      · rw [decide_eq_true c1]
        refine iteT ?_
        rw [if_pos c1] at ew
        refine ⟨_, rfl, .inl ⟨rfl, _, .inl (.inl (s6 _ _ (s5 _ _ hDv)))⟩, _, rfl, _, rfl, a, _, _, _, rfl, rfl, SqT.of (s6 _ _ ha4), rfl, _, rfl, a, _, _, _, rfl, rfl, SqT.of (s6 _ _ ha4), rfl, (by show 3 ≤ sizeLine; decide), fun u hu => ?_⟩
        refine ⟨D, tvs, .ref u, rfl, rfl, same_new hu _ _ (s6 _ _ (s5 _ _ hDv)), lts, ?_⟩
        exact more _ u o1 o2 s6 hu ew
      · rw [decide_eq_false c1]
        refine iteF ?_
        refine ⟨_, rfl, (by show 2 ≤ sizeLine; decide), fun g2 hg2 => ?_⟩
        have s7 := s6.trans (same_new (o := .tup [.str "parent", .str "child"]) hg2)
        refine ⟨endD (endsOf S i), endD (.parent, .child), .tup (SqT.of (s7 _ _ hr4)) (.cons (.str _) (.cons (.str _) .nil)), .tup (SqT.of upd_same) (.cons (.str _) (.cons (.str _) .nil)), endD_shaped _, endD_shaped _, _, rfl, ?_⟩
        rw [end_eqv]
        rw [if_neg c1] at ew
        by_cases c2 : endsOf S i = (.parent, .child)
        · rw [decide_eq_true c2]
          refine iteT ?_
          rw [if_pos c2] at ew
          refine ⟨_, rfl, .inl ⟨rfl, _, .inl (.inl (s7 _ _ (s5 _ _ hDv)))⟩, _, rfl, _, rfl, a, _, _, _, rfl, rfl, SqT.of (s7 _ _ ha4), rfl, _, rfl, a, _, _, _, rfl, rfl, SqT.of (s7 _ _ ha4), rfl, (by show 3 ≤ sizeLine; decide), fun u hu => ?_⟩
          refine ⟨D, tvs, .ref u, rfl, rfl, same_new hu _ _ (s7 _ _ (s5 _ _ hDv)), lts, ?_⟩
          exact more _ u o2 o1 s7 hu ew
        · rw [decide_eq_false c2]
          refine iteF ?_
          rw [if_neg c2] at ew
          rw [ew]
          refine ⟨⟨_, _, _, rfl⟩, (s2.trans s5).trans s7, tvs, s7 _ _ (s5 _ _ hDv), ?_, by omega⟩
          show Paired _ tvs (waysTo S i ++ [])
          rw [List.append_nil]
          exact Paired.mapP pr fun _ _ r => r.keep (.of (s5.trans s7))
    · rintro σ H2 ⟨⟨x2, x3, x4, rfl⟩, s2, tvs, hDv, pr, hli⟩
      rw [ltv] at pr
      exact ⟨_, rfl, q D tvs H2 s2 hD hDv pr (by omega)⟩
end
end Sw

/-! Sw: the walk of the frame's open_ties: a dict of lists. -/
namespace Sw
open PySem PySem.Spec PyProof.Rows L2

/-! ### lists that grow under keys -/
def addAt (m : Int → Option (List (Int × Int))) (b : Int) (x : Int × Int) : Int → Option (List (Int × Int)) := setAt m b (some ((m b).getD [] ++ [x]))
theorem addAt_get {m : Int → Option (List (Int × Int))} {b c : Int} {x : Int × Int} : (addAt m b x c).getD [] = (m c).getD [] ++ (if b = c then [x] else []) := by
  unfold addAt
  by_cases e : c = b
  · subst e; rw [setAt_same, if_pos rfl]; rfl
  · rw [setAt_ne e, if_neg (Ne.symm e), List.append_nil]
def adjM : List Way → Int → Option (List (Int × Int))
  | W => fun b => W.foldl (fun m w => addAt (addAt m w.ch (w.pl, w.pa)) w.pa (w.pl, w.ch)) (fun _ => none) b
theorem adjM_snoc (W : List Way) (w : Way) : adjM (W ++ [w]) = addAt (addAt (adjM W) w.ch (w.pl, w.pa)) w.pa (w.pl, w.ch) := by
  show (W ++ [w]).foldl _ _ = _
  rw [List.foldl_append]
  rfl
theorem adj_snoc (W : List Way) (w : Way) (b : Int) : adj (W ++ [w]) b = adj W b ++ ((if w.ch = b then [(w.pl, w.pa)] else []) ++ (if w.pa = b then [(w.pl, w.ch)] else [])) := by
  unfold adj
  rw [List.flatMap_append]
  simp
theorem adjM_get (W : List Way) : ∀ b, (adjM W b).getD [] = adj W b := by
  refine snoc_ind (P := fun W => ∀ b, (adjM W b).getD [] = adj W b) (fun b => rfl) (fun W w ih b => ?_) W
  rw [adjM_snoc, addAt_get, addAt_get, ih, adj_snoc, List.append_assoc]
theorem take_all {α : Type} {l : List α} {n : Nat} (h : n = l.length) : l.take n = l := by rw [h, List.take_length]

/-! ### in the heap -/
def AdjV (H : Hp) (v : V) (x : Int × Int) : Prop := ∃ a, v = .ref a ∧ H a = some (.tup [.int x.1, .int x.2])
theorem AdjV.keep {H H' : Hp} {v : V} {x : Int × Int} (k : TupK H H') (h : AdjV H v x) : AdjV H' v x := by
  obtain ⟨a, e, h⟩ := h
  exact ⟨a, e, k a _ h⟩
structure AdjS (H0 H : Hp) (D : Addr) (kvs : List (Key × V)) (la : Int → Addr) (ro : Addr → Int) (m : Int → Option (List (Int × Int))) (n : Nat) : Prop where
  dk : H D = some (.dK kvs)
  len : kvs.length ≤ n
  mp : MapAt (fun b v (_ : List (Int × Int)) => v = .ref (la b)) kvs m
  ls : ∀ b l, m b = some l → ro (la b) = b ∧ H0 (la b) = none ∧ ∃ tvs, H (la b) = some (.lst tvs) ∧ Paired (AdjV H) tvs l ∧ tvs.length ≤ n
  fr : ∀ c o, H0 c = some o → c ≠ D → H c = some o
section
variable {H0 H H' : Hp} {D : Addr} {kvs : List (Key × V)} {la : Int → Addr} {ro : Addr → Int} {m : Int → Option (List (Int × Int))} {n : Nat}
theorem AdjS.same (A : AdjS H0 H D kvs la ro m n) (s : Same H H') : AdjS H0 H' D kvs la ro m n :=
  ⟨s _ _ A.dk, A.len, A.mp, fun b l e => by
    obtain ⟨h1, h2, tvs, h3, h4, h5⟩ := A.ls b l e
    exact ⟨h1, h2, tvs, s _ _ h3, Paired.mapP h4 fun _ _ r => r.keep (.of s), h5⟩, fun c o e ne => s _ _ (A.fr c o e ne)⟩
theorem AdjS.key (A : AdjS H0 H D kvs la ro m n) {b : Int} (e : m b = none) {d : Addr} (hd : H d = none) :
    AdjS H0 (upd (upd H d (.lst [])) D (.dK (putK kvs (ik b) (.ref d)))) D (putK kvs (ik b) (.ref d)) (fun c => if c = b then d else la c) (fun a => if a = d then b else ro a) (setAt m b (some [])) (n + 1) := by
  have s1 : Same H (upd H d (.lst [])) := same_new hd
  have dD : d ≠ D := fun z => by rw [z, A.dk] at hd; cases hd
  have d0 : H0 d = none := by
    cases q : H0 d with
    | none => rfl
    | some o => rw [A.fr d o q dD] at hd; cases hd
  have t : TupK H (upd (upd H d (.lst [])) D (.dK (putK kvs (ik b) (.ref d)))) := (TupK.of s1).trans (tupK_upd fun xs e => by rw [s1 _ _ A.dk] at e; cases e)
  refine ⟨upd_same, Nat.le_trans (length_putK _ _ _) (Nat.succ_le_succ A.len), ?_, fun c l hc => ?_, fun c o hc nc => by rw [upd_ne nc]; exact s1 _ _ (A.fr c o hc nc)⟩
  · have h4 : MapAt (fun c v (_ : List (Int × Int)) => v = .ref (if c = b then d else la c)) kvs m := A.mp.imp fun c v C hC r => by
      have nc : c ≠ b := fun z => by rw [z, e] at hC; cases hC
      show v = .ref (if c = b then d else la c)
      rw [if_neg nc]; exact r
    exact h4.put (by show V.ref d = V.ref (if b = b then d else la b); rw [if_pos rfl])
  · show (if (if c = b then d else la c) = d then b else ro (if c = b then d else la c)) = c ∧ H0 (if c = b then d else la c) = none ∧ ∃ tvs, upd (upd H d (.lst [])) D (.dK (putK kvs (ik b) (.ref d))) (if c = b then d else la c) = some (.lst tvs) ∧ _
    by_cases ec : c = b
    · subst ec
      rw [setAt_same] at hc
      cases hc
      rw [if_pos rfl, if_pos rfl]
      exact ⟨rfl, d0, [], by rw [upd_ne dD]; exact upd_same, .nil, Nat.zero_le _⟩
    · rw [setAt_ne ec] at hc
      obtain ⟨h1, h2, tvs, h3, h4, h5⟩ := A.ls c l hc
      have nd : la c ≠ d := ne_of_none h3 hd
      have nD : la c ≠ D := ne_of h3 A.dk (by intro z; cases z)
      rw [if_neg ec, if_neg nd]
      exact ⟨h1, h2, tvs, by rw [upd_ne nD, upd_ne nd]; exact h3, Paired.mapP h4 fun _ _ r => r.keep t, by omega⟩
theorem AdjS.tail (A : AdjS H0 H D kvs la ro m n) {b p o : Int} {l : List (Int × Int)} (e : m b = some l) {u : Addr} (hu : H u = none) {tvs : List V} (ht : H (la b) = some (.lst tvs)) :
    AdjS H0 (upd (upd H u (.tup [.int p, .int o])) (la b) (.lst (tvs ++ [.ref u]))) D kvs la ro (setAt m b (some (l ++ [(p, o)]))) (n + 1) := by
  have s1 : Same H (upd H u (.tup [.int p, .int o])) := same_new hu
  have t2 : TupK (upd H u (.tup [.int p, .int o])) (upd (upd H u (.tup [.int p, .int o])) (la b) (.lst (tvs ++ [.ref u]))) := tupK_upd fun xs e => by rw [s1 _ _ ht] at e; cases e
  have t := (TupK.of s1).trans t2
  have nD : la b ≠ D := ne_of ht A.dk (by intro z; cases z)
  have nu : u ≠ la b := fun z => by rw [z, ht] at hu; cases hu
  obtain ⟨r1, r2, tvs', r3, r4, r5⟩ := A.ls b l e
  rw [ht] at r3
  cases r3
  refine ⟨by rw [upd_ne (Ne.symm nD)]; exact s1 _ _ A.dk, Nat.le_succ_of_le A.len, ?_, fun c l' hc => ?_, fun c o' hc nc => by rw [upd_ne (ne_of_none hc r2)]; exact s1 _ _ (A.fr c o' hc nc)⟩
  · refine ⟨A.mp.nd, A.mp.int, fun c => ?_⟩
    by_cases ec : c = b
    · subst ec
      rw [setAt_same]
      obtain ⟨v, hv, rv⟩ := A.mp.some_ e
      rw [hv]; exact rv
    · rw [setAt_ne ec]; exact (A.mp.val c).imp fun _ _ _ r => r
  · by_cases ec : c = b
    · subst ec
      rw [setAt_same] at hc
      cases hc
      refine ⟨r1, r2, tvs ++ [.ref u], upd_same, paired_app (Paired.mapP r4 fun _ _ r => r.keep t) (.cons ⟨u, rfl, by rw [upd_ne nu]; exact upd_same⟩ .nil), ?_⟩
      rw [List.length_append]
      simp only [List.length_cons, List.length_nil]
      omega
    · rw [setAt_ne ec] at hc
      obtain ⟨h1, h2, tv2, h3, h4, h5⟩ := A.ls c l' hc
      have nl : la c ≠ la b := fun z => ec (by rw [← h1, ← r1, z])
      exact ⟨h1, h2, tv2, by rw [upd_ne nl]; exact s1 _ _ h3, Paired.mapP h4 fun _ _ r => r.keep t, by omega⟩
end
section
variable {P : Program} {w : World} {K : PySem.W.Frag} {mg : Str → Option Value} {base : Heap}
/-- found.setdefault(b, []).append((p, o)) -/
theorem run_add {σ : L2.St} {H0 H : Hp} {Q : VK} {D : Addr} {kvs : List (Key × V)} {la : Int → Addr} {ro : Addr → Int} {m : Int → Option (List (Int × Int))} {n : Nat} {b p o : Int} (fi ki pi_ oi : Nat) (A : AdjS H0 H D kvs la ro m n) (hn : n ≤ 1000)
    (h1 : σ[fi]? = some (some (.ref D))) (h2 : σ[ki]? = some (some (.int b))) (h3 : σ[pi_]? = some (some (.int p))) (h4 : σ[oi]? = some (some (.int o)))
    (q : ∀ H' kvs' la' ro', AdjS H0 H' D kvs' la' ro' (addAt m b (p, o)) (n + 2) → Q .non H') :
    tBM K "list" rAppend (tDSetd (tVar fi) (tVar ki) (tLst tNil)) (tCons (tTup (tCons (tVar pi_) (tCons (tVar oi) tNil))) tNil) σ H Q := by
  have fin : ∀ (Hx : Hp) (kvs' : List (Key × V)) (la' : Int → Addr) (ro' : Addr → Int) (m' : Int → Option (List (Int × Int))) (l : List (Int × Int)), AdjS H0 Hx D kvs' la' ro' m' (n + 1) → m' b = some l → setAt m' b (some (l ++ [(p, o)])) = addAt m b (p, o) →
      (∃ xs, Hx (la' b) = some (.lst xs)) ∧ tCons (tTup (tCons (tVar pi_) (tCons (tVar oi) tNil))) tNil σ Hx fun vs H2 => rAppend (.ref (la' b)) vs H2 Q := fun Hx kvs' la' ro' m' l A' e em => by
    obtain ⟨_, _, tvs, ht, _, hl⟩ := A'.ls b l e
    refine ⟨⟨tvs, ht⟩, ?_⟩
    refine ⟨_, h3, _, h4, (by show 2 ≤ sizeLine; decide), fun u hu => ⟨la' b, tvs, .ref u, rfl, rfl, same_new hu _ _ ht, small1000 (by omega) |> fun z => Nat.lt_of_le_of_lt (by omega : tvs.length ≤ 1001) (by decide), ?_⟩⟩
    exact q _ _ _ _ (em ▸ A'.tail e hu ht)
  refine ⟨_, h1, D, rfl, .inl ⟨kvs, .inl A.dk⟩, _, h2, (by show 0 ≤ sizeLine; decide), fun d hd => ⟨kvs, ik b, same_new hd _ _ A.dk, rfl, Nat.lt_of_le_of_lt (Nat.le_trans A.len hn) (by decide), fun v hv => ?_, fun hv => ?_⟩⟩
  · obtain ⟨l, e, rfl⟩ := A.mp.of_val hv
    have A1 := A.same (same_new (o := .lst []) hd)
    have A2 : AdjS H0 (upd H d (.lst [])) D kvs la ro m (n + 1) := ⟨A1.dk, Nat.le_succ_of_le A1.len, A1.mp, fun c l hc => by
      obtain ⟨x1, x2, tv, x3, x4, x5⟩ := A1.ls c l hc
      exact ⟨x1, x2, tv, x3, x4, Nat.le_succ_of_le x5⟩, A1.fr⟩
    obtain ⟨⟨xs, hx⟩, f⟩ := fin _ _ _ _ _ l A2 e (by unfold addAt; rw [e]; rfl)
    exact ⟨.inl ⟨rfl, _, .inl (.inl hx)⟩, f⟩
  · have e : m b = none := by
      cases q2 : m b with
      | none => rfl
      | some l =>
        obtain ⟨v, hv2, _⟩ := A.mp.some_ q2
        rw [hv2] at hv; cases hv
    have A2 := A.key e hd
    obtain ⟨⟨xs, hx⟩, f⟩ := fin _ _ _ _ _ [] A2 setAt_same (by
      funext c
      unfold addAt
      by_cases ec : c = b
      · subst ec; rw [setAt_same, setAt_same, e]; rfl
      · rw [setAt_ne ec, setAt_ne ec, setAt_ne ec])
    rw [if_pos rfl] at hx
    have eb : (if b = b then d else la b) = d := if_pos rfl
    simp only [eb] at f
    exact ⟨.inl ⟨rfl, _, .inl (.inl hx)⟩, f⟩
/-- what the frame's dict says -/
def AdjR (H : Hp) (D : Addr) (W : List Way) : Prop := ∃ kvs, H D = some (.dK kvs) ∧ ∀ b, (valV kvs (ik b) = none ∧ adj W b = []) ∨ ∃ a tvs, valV kvs (ik b) = some (.ref a) ∧ H a = some (.lst tvs) ∧ Paired (AdjV H) tvs (adj W b) ∧ tvs.length ≤ 64
theorem AdjR.same {H H' : Hp} {D : Addr} {W : List Way} (h : AdjR H D W) (s : Same H H') : AdjR H' D W := by
  obtain ⟨kvs, h1, h2⟩ := h
  exact ⟨kvs, s _ _ h1, fun b => (h2 b).imp id fun ⟨a, tvs, x1, x2, x3, x4⟩ => ⟨a, tvs, x1, s _ _ x2, Paired.mapP x3 fun _ _ r => r.keep (.of s), x4⟩⟩
theorem AdjS.res {H0 H : Hp} {D : Addr} {kvs : List (Key × V)} {la : Int → Addr} {ro : Addr → Int} {n : Nat} {W : List Way} (A : AdjS H0 H D kvs la ro (adjM W) n) (hn : n ≤ 64) : AdjR H D W := by
  refine ⟨kvs, A.dk, fun b => ?_⟩
  have g := adjM_get W b
  cases e : adjM W b with
  | none =>
    rw [e] at g
    exact .inl ⟨A.mp.none_ e, g.symm⟩
  | some l =>
    rw [e] at g
    obtain ⟨v, hv, rfl⟩ := A.mp.some_ e
    obtain ⟨_, _, tvs, h3, h4, h5⟩ := A.ls b l e
    have g' : l = adj W b := g
    exact .inr ⟨_, tvs, hv, h3, g' ▸ h4, by omega⟩
def sp_ot (K : PySem.W.Frag) : Sp := fun vs H Q _ => ∃ y ll L S, vs = [.ref y] ∧ YdL K H y ll L S ∧ S.net.ts.length ≤ 16 ∧ ∀ D H', Same H H' → H D = none → AdjR H' D (waysOf S) → Q (.ref D) H'
theorem sc_ot : FnScope ["yard", "found", "place", "child", "parent"] ["yard"] (defScope s_ot) := ⟨rfl, rfl, rfl, by decide +kernel, rfl, by decide +kernel, by decide +kernel⟩
theorem ok_ot (T : Tx K mg) : Cal P w K mg base 5 (He.fAd K ("open_ties", none)) ["yard"] (sp_ot K) := by
  obtain ⟨fd, F⟩ := T.f_ot
  have GW := ok_ow (P := P) (w := w) (base := base) T
  refine Cal.mk2 F sc_ot (fun _ _ _ _ _ _ us hl => match us, hl with | [_], _ => rfl) (fun vs H Q E h => ?_) (fun cdv A outer s H vs Q E hr h => ?_)
  · obtain ⟨y, ll, L, S, rfl, _⟩ := h
    rfl
  · obtain ⟨y, ll, L, S, rfl, hY, h16, q⟩ := h
    refine ⟨_, pss_cons (ps_set (i := 1) sc_ot.nd rfl (.inl rfl) pe_dnewK)
      (pss_cons (ps_for PassesOwn.never rfl (pi_list (pc_call GW hr rfl T.g_ow (pa_cons (pv 0) pa_nil))) (pg_tup rfl (pgs_cons (pg_name (i := 2) sc_ot.nd rfl (.inl rfl)) (pgs_cons (pg_name (i := 3) sc_ot.nd rfl (.inl rfl)) (pgs_cons (pg_name (i := 4) sc_ot.nd rfl (.inl rfl)) pgs_nil))))
        (pss_cons (ps_expr (pe_bm PySem.F.plainAttrs_list PySem.F.slot_list_append PySem.F.type_list_append mt_append (pe_dsetd (pv 1) (pv 3) (pe_lst pa_nil) ⟨rfl, rfl, rfl, rfl⟩) (pa_cons (pe_tup (pa_cons (pv 2) (pa_cons (pv 4) pa_nil))) pa_nil)))
        (pss_one (ps_expr (pe_bm PySem.F.plainAttrs_list PySem.F.slot_list_append PySem.F.type_list_append mt_append (pe_dsetd (pv 1) (pv 4) (pe_lst pa_nil) ⟨rfl, rfl, rfl, rfl⟩) (pa_cons (pe_tup (pa_cons (pv 2) (pa_cons (pv 3) pa_nil))) pa_nil))))))
      (pss_one (ps_ret (pv 1)))), ?_⟩
    intro D hD
    have s1 : Same H (upd H D (.dK [])) := same_new hD
    refine ⟨_, rfl, y, ll, L, S, rfl, hY.same s1, h16, fun p tvs H1 s2 hp hpv pr hl => ?_⟩
    have pD : p ≠ D := fun z => by rw [z, upd_same] at hp; cases hp
    have lws : tvs.length = (waysOf S).length := Paired.length pr
    have A0 : AdjS H1 H1 D [] (fun _ => D) (fun _ => 0) (adjM []) 0 := ⟨s2 _ _ upd_same, Nat.le_refl _, MapAt.empty, (fun b l e => by cases e), fun c o e _ => e⟩
    refine ⟨p, rfl, ⟨_, SqL.of hpv⟩, for_list (K := K) (a := p) (xs := tvs) (fun i σ H2 => (∃ x2 x3 x4, σ = [some (.ref y), some (.ref D), x2, x3, x4]) ∧ ∃ kvs la ro, AdjS H1 H2 D kvs la ro (adjM ((waysOf S).take i)) (4 * i))
      ⟨⟨none, none, none, rfl⟩, [], _, _, A0⟩ (fun i σ H2 _ h => by obtain ⟨_, kvs, la, ro, A⟩ := h; exact SqL.of (A.fr _ _ hpv pD)) ?_ ?_⟩
    · rintro i v σ H2 hi ⟨⟨x2, x3, x4, rfl⟩, kvs, la, ro, A⟩
      obtain ⟨⟨pl, ch, pa⟩, hw, a, rfl, ha⟩ := paired_at' pr hi
      have hil : i < tvs.length := (List.getElem?_eq_some_iff.mp hi).1
      have aD : a ≠ D := fun z => by rw [z, s2 _ _ upd_same] at ha; cases ha
      refine ⟨a, _, rfl, SqT.of (A.fr _ _ ha aD), rfl, _, _, rfl, _, _, rfl, _, _, rfl, rfl, ?_⟩
      refine run_add 1 3 2 4 A (by omega) rfl rfl rfl rfl fun H3 kvs3 la3 ro3 A3 => ?_
      refine run_add 1 4 2 3 A3 (by omega) rfl rfl rfl rfl fun H4 kvs4 la4 ro4 A4 => ?_
      refine ⟨⟨_, _, _, rfl⟩, kvs4, la4, ro4, ?_⟩
      rw [take_step hw, adjM_snoc]
      exact A4
    · rintro σ H2 ⟨⟨x2, x3, x4, rfl⟩, kvs, la, ro, A⟩
      rw [take_all lws] at A
      refine ⟨_, rfl, q D H2 (fun c o e => ?_) hD (A.res (by omega))⟩
      exact A.fr _ _ (s2 _ _ (s1 _ _ e)) (ne_of_none e hD)
end
end Sw

/-! Sw: the walk of need_up, carried, part_of. -/
namespace Sw
open PySem PySem.Spec PyProof.Rows L2
section
variable {P : Program} {w : World} {K : PySem.W.Frag} {mg : Str → Option Value} {base : Heap}

/-! ### need_up -/
def sp_nu (K : PySem.W.Frag) : Sp := fun vs H Q _ => ∃ y ll L S b B, vs = [.ref y, .int b] ∧ YdL K H y ll L S ∧ S.there b = some B ∧ Q .non H
theorem sc_nu : FnScope ["yard", "bridge"] ["yard", "bridge"] (defScope s_nu) := ⟨rfl, rfl, rfl, by decide +kernel, rfl, by decide +kernel, by decide +kernel⟩
theorem ps_no2 {X : Cx} {st : Stmt} : PS X st (fun _ _ _ => False) := ⟨fun _ _ _ _ _ _ h => False.elim h⟩
theorem ok_nu (T : Tx K mg) : Cal P w K mg base 2 (He.fAd K ("need_up", none)) ["yard", "bridge"] (sp_nu K) := by
  obtain ⟨fd, F⟩ := T.f_nu
  have GB := ok_Yg (P := P) (w := w) (base := base) T
  refine Cal.mk2 F sc_nu (fun _ _ _ _ _ _ us hl => match us, hl with | [_, _], _ => rfl) (fun vs H Q E h => ?_) (fun cdv A outer s H vs Q E hr h => ?_)
  · obtain ⟨y, ll, L, S, b, B, rfl, _⟩ := h
    rfl
  · obtain ⟨y, ll, L, S, b, B, rfl, hY, hB, q⟩ := h
    refine ⟨_, pss_one (ps_if (PW.pt (pw_or (pt_not (pt_val (pe_callB call_isi (by rfl) T.z_isinstance (by decide +kernel) (pa_cons (pv 1) (pa_cons (pe_bltn (v := .ty "int") (by rfl) T.z_int (by decide +kernel) rfl) pa_nil)))))
      (pw_or (pt_val (pe_callB call_isi (by rfl) T.z_isinstance (by decide +kernel) (pa_cons (pv 1) (pa_cons (pe_bltn (v := .ty "bool") (by rfl) T.z_bool (by decide +kernel) rfl) pa_nil))))
        (pw_or1 (pt_cmpR op_isN (pc_meth (pv 0) T.clY T.m_Yg GB hr (pa_cons (pv 1) pa_nil)) pe_non (nomark _)))))) (pss_one ps_no2) pss_nil), ?_⟩
    refine ⟨_, rfl, _, _, _, _, true, rfl, .ty "int", .base (.int b), kit_ty (by decide +kernel), _, rfl, iteF ?_⟩
    refine ⟨_, rfl, _, _, _, _, false, rfl, .ty "bool", .base (.int b), kit_ty (by decide +kernel), _, rfl, iteF ?_⟩
    refine ⟨_, rfl, y, L.dx, _, rfl, hY.ob, rfl, _, rfl, y, ll, L, S, b, rfl, hY, rfl, _, rfl, ?_⟩
    have e : thereV L S b = .ref (L.ba b) := by
      unfold thereV
      rw [hB]
    rw [e]
    exact iteF q

/-! ### carried -/
def ToldV (H : Hp) (v : V) (x : Int × Option Int) : Prop := ∃ a, v = .ref a ∧ H a = some (.tup [.int x.1, upV x.2])
theorem ToldV.keep {H H' : Hp} {v : V} {x : Int × Option Int} (k : TupK H H') (h : ToldV H v x) : ToldV H' v x := by
  obtain ⟨a, e, h⟩ := h
  exact ⟨a, e, k a _ h⟩
theorem told_in {S : Yd} (G : Good S) {b : Int} (hb : b ∈ S.net.bs) {n : Nat} {told : Told} (t : Tree (waysOf S) b n told) : ∀ x, x ∈ told.map (·.1) → x ∈ S.net.bs := by
  intro x hx
  obtain ⟨⟨y, c⟩, hy, e⟩ := List.mem_map.mp hx
  have e' : y = x := e
  subst e'
  obtain ⟨j, hj⟩ := List.getElem?_of_mem hy
  rcases t.came j y c hj with z | ⟨p, i, u, ci, _, _, _, _, ha⟩
  · subst z
    rw [t.hd] at hj
    cases hj
    exact hb
  · obtain ⟨v, hv, _, h1⟩ := mem_adj.mp ha
    obtain ⟨e1, e2⟩ := G.way hv
    rcases h1 with ⟨_, e⟩ | ⟨_, e⟩
    · rw [← e]; exact e2
    · rw [← e]; exact e1
theorem told_ten {S : Yd} (G : Good S) {b : Int} (hb : b ∈ S.net.bs) {n : Nat} {told : Told} (t : Tree (waysOf S) b n told) : told.length ≤ 10 := by
  have h := nd_le t.nd (told_in G hb t)
  rw [List.length_map] at h
  exact Nat.le_trans h G.net.ten
def sp_ca (K : PySem.W.Frag) : Sp := fun vs H Q _ => ∃ y ll L S b B, vs = [.ref y, .int b] ∧ YdL K H y ll L S ∧ Good S ∧ S.there b = some B ∧
  ∀ t ts told H', Same H H' → H t = none → H' t = some (.lst ts) → Paired (ToldV H') ts told → Sent (waysOf S) b told.length told → told.length ≤ 10 → Q (.ref t) H'
theorem sc_ca : FnScope ["yard", "bridge", "tied", "told", "at", "here", "came", "place", "other"] ["yard", "bridge"] (defScope s_ca) := ⟨rfl, rfl, rfl, by decide +kernel, rfl, by decide +kernel, by decide +kernel⟩
theorem ok_ca (T : Tx K mg) : Cal P w K mg base 6 (He.fAd K ("carried", none)) ["yard", "bridge"] (sp_ca K) := by
  obtain ⟨fd, F⟩ := T.f_ca
  have GN := ok_nu (P := P) (w := w) (base := base) T
  have GO := ok_ot (P := P) (w := w) (base := base) T
  refine Cal.mk2 F sc_ca (fun _ _ _ _ _ _ us hl => match us, hl with | [_, _], _ => rfl) (fun vs H Q E h => ?_) (fun cdv A outer s H vs Q E hr h => ?_)
  · obtain ⟨y, ll, L, S, b, B, rfl, _⟩ := h
    rfl
  · obtain ⟨y, ll, L, S, b, B, rfl, hY, G, hB, q⟩ := h
    have hu := hu_of hr
    have hr2 : Room 2 _ := hr.mono (by decide)
    have hb := G.dom b B hB
    have FO := G.forest
    refine ⟨_, pss_cons (ps_expr (pc_call GN hr2 rfl T.g_nu (pa_cons (pv 0) (pa_cons (pv 1) pa_nil))))
      (pss_cons (ps_set (i := 2) sc_ca.nd rfl (.inl rfl) (pc_call GO hr rfl T.g_ot (pa_cons (pv 0) pa_nil)))
      (pss_cons (ps_set (i := 3) sc_ca.nd rfl (.inl rfl) (pe_lst (pa_cons (pe_tup (pa_cons (pv 1) (pa_cons pe_non pa_nil))) pa_nil)))
      (pss_cons (ps_set (i := 4) sc_ca.nd rfl (.inl rfl) pe_int)
      (pss_cons (ps_while PassesOwn.never (pt_cmpR op_lt (pv 4) (pe_callB call_len_seq (by rfl) T.z_len PySem.boot_len (pa_cons (pv 3) pa_nil)) (nomark _))
        (pss_cons (ps_asg (pe_ix ix_list (pv 3) (pv 4) (fun _ _ => rfl)) (pg_tup rfl (pgs_cons (pg_name (i := 5) sc_ca.nd rfl (.inl rfl)) (pgs_cons (pg_name (i := 6) sc_ca.nd rfl (.inl rfl)) pgs_nil))))
        (pss_cons (ps_for PassesOwn.never rfl (pi_list (pe_dget2 hu (pv 2) (pv 5) (pe_lst pa_nil) ⟨rfl, rfl, rfl, rfl⟩)) (pg_tup rfl (pgs_cons (pg_name (i := 7) sc_ca.nd rfl (.inl rfl)) (pgs_cons (pg_name (i := 8) sc_ca.nd rfl (.inl rfl)) pgs_nil)))
          (pss_one (ps_if (pt_cmpR op_ne (pv 7) (pv 6) (nomark _)) (pss_one (ps_expr (pe_bm PySem.F.plainAttrs_list PySem.F.slot_list_append PySem.F.type_list_append mt_append (pv 3) (pa_cons (pe_tup (pa_cons (pv 8) (pa_cons (pv 7) pa_nil))) pa_nil)))) pss_nil)))
        (pss_one (ps_aug (i := 4) sc_ca.nd rfl (.inl rfl) pe_int ip_add)))))
      (pss_one (ps_ret (pv 3))))))), ?_⟩
    refine ⟨_, rfl, _, rfl, y, ll, L, S, b, B, rfl, hY, hB, ?_⟩
    refine ⟨_, rfl, y, ll, L, S, rfl, hY, G.net.few, fun D H1 s1 hD hA => ?_⟩
    refine ⟨_, rfl, (by show 2 ≤ sizeLine; decide), fun t0 ht0 => ⟨(by show 1 ≤ sizeLine; decide), fun t ht => ?_⟩⟩
    have s2 : Same H1 (upd H1 t0 (.tup [.int b, .non])) := same_new ht0
    have s3 : Same (upd H1 t0 (.tup [.int b, .non])) (upd (upd H1 t0 (.tup [.int b, .non])) t (.lst [.ref t0])) := same_new ht
    generalize hHB : upd (upd H1 t0 (.tup [.int b, .non])) t (.lst [.ref t0]) = HB at s3
    have hBt : HB t = some (.lst [.ref t0]) := by rw [← hHB]; exact upd_same
    have hBt0 : HB t0 = some (.tup [.int b, .non]) := s3 _ _ upd_same
    have ht1 : H1 t = none := (upd_none ht).2
    have htH : H t = none := by
      cases e : H t with
      | none => rfl
      | some o => rw [s1 _ _ e] at ht1; cases ht1
    have hAB := hA.same (s2.trans s3)
    obtain ⟨kvs, hkD, hkv⟩ := id hAB
    have Dt : D ≠ t := fun z => by rw [z, hBt] at hkD; cases hkD
    -- the invariant
    let Pv : Nat → L2.St → Hp → Prop := fun n σ H' => (∃ x5 x6 x7 x8, σ = [some (.ref y), some (.int b), some (.ref D), some (.ref t), some (.int (n : Nat)), x5, x6, x7, x8]) ∧
      (∀ c o, HB c = some o → c ≠ t → H' c = some o) ∧ ∃ vs told, H' t = some (.lst vs) ∧ Paired (ToldV H') vs told ∧ Sent (waysOf S) b n told ∧ n ≤ told.length
    refine ⟨fun m σ H' => ∃ n, m = 20 - n ∧ Pv n σ H', ⟨20, 0, rfl, ⟨none, none, none, none, rfl⟩, fun c o e _ => e, [.ref t0], [(b, none)], hBt, .cons ⟨t0, rfl, hBt0⟩ .nil, Sent.start _ _, Nat.zero_le _⟩, ?_⟩
    rintro m σ H2 ⟨n, rfl, ⟨x5, x6, x7, x8, rfl⟩, fr, vs, told, hvs, pr, St, hn⟩
    have lvs : vs.length = told.length := Paired.length pr
    have ten := told_ten G hb St.tree
    refine ⟨_, rfl, _, rfl, t, vs, rfl, .inl (SqL.of hvs), _, _, rfl, rfl, _, rfl, ?_⟩
    refine ite2 (fun c => ?_) (fun c => ?_)
    · have hlt : n < told.length := by
        have := of_decide_eq_true c
        omega
      obtain ⟨⟨x, cm⟩, hx⟩ : ∃ x, told[n]? = some x := ⟨_, List.getElem?_eq_getElem hlt⟩
      obtain ⟨v, hv, a, rfl, ha⟩ := paired_at pr hx
      refine ⟨Pv (n + 1), fun σ' H' h => ⟨20 - (n + 1), by omega, n + 1, rfl, h⟩, ?_⟩
      refine ⟨_, rfl, _, rfl, t, vs, (n : Int), .ref a, rfl, rfl, SqL.of hvs, at_of rfl hv, a, _, rfl, SqT.of ha, rfl, _, _, rfl, _, _, rfl, rfl, ?_⟩
      have hkD2 := fr _ _ hkD Dt
      refine ⟨_, rfl, D, rfl, .inl ⟨kvs, .inl hkD2⟩, _, rfl, (by show 0 ≤ sizeLine; decide), fun d hd => ⟨_, DGet.k (k := ik x) (same_new hd _ _ hkD2), ?_⟩⟩
      have s4 : Same H2 (upd H2 d (.lst [])) := same_new hd
      have hl : ∃ la tvs, (valV kvs (ik x)).getD (.ref d) = .ref la ∧ la ≠ t ∧ upd H2 d (.lst []) la = some (.lst tvs) ∧ Paired (AdjV (upd H2 d (.lst []))) tvs (adj (waysOf S) x) ∧ tvs.length ≤ 64 := by
        rcases hkv x with ⟨e, e2⟩ | ⟨la, tvs, e, h1, h2, h3⟩
        · rw [e, e2]
          exact ⟨d, [], rfl, (fun z => by rw [z, hvs] at hd; cases hd), upd_same, .nil, Nat.zero_le _⟩
        · rw [e]
          have lt : la ≠ t := fun z => by
            obtain ⟨kv2, hk2, hr2⟩ := hA
            have e2 : kv2 = kvs := by
              have := s3 _ _ (s2 _ _ hk2)
              rw [hkD] at this
              cases this; rfl
            subst e2
            rcases hr2 x with ⟨e3, _⟩ | ⟨l3, tv3, e3, h4, _⟩
            · rw [e] at e3; cases e3
            · rw [e] at e3
              cases e3
              rw [z, ht1] at h4; cases h4
          have tk : TupK HB H2 := fun c xs e => fr c _ e (ne_of e hBt (by intro z; cases z))
          exact ⟨la, tvs, rfl, lt, s4 _ _ (fr _ _ h1 lt), Paired.mapP h2 fun _ _ r => (r.keep tk).keep (.of s4), h3⟩
      obtain ⟨la, tvs, el, lt, hla, pa, l64⟩ := hl
      rw [el]
      refine ⟨la, rfl, ⟨_, SqL.of hla⟩, for_list (K := K) (a := la) (xs := tvs) (fun i σ H4 => (∃ x7 x8, σ = [some (.ref y), some (.int b), some (.ref D), some (.ref t), some (.int (n : Nat)), some (.int x), some (upV cm), x7, x8]) ∧
          (∀ c o, (upd H2 d (.lst [])) c = some o → c ≠ t → H4 c = some o) ∧ ∃ vs', H4 t = some (.lst vs') ∧ Paired (ToldV H4) vs' (told ++ news cm ((adj (waysOf S) x).take i)) ∧ vs'.length ≤ 10 + i)
        ⟨⟨_, _, rfl⟩, fun c o e _ => e, vs, s4 _ _ hvs, by rw [List.take_zero, news_nil, List.append_nil]; exact Paired.mapP pr fun _ _ r => r.keep (.of s4), by omega⟩ (fun i σ H4 _ h => SqL.of (h.2.1 _ _ hla lt)) ?_ ?_⟩
      · rintro i v σ H4 hi ⟨⟨x7, x8, rfl⟩, fr4, vs', hvs', pr', hl'⟩
        obtain ⟨⟨p, o⟩, hz, u, rfl, hu2⟩ := paired_at' pa hi
        have hil : i < tvs.length := (List.getElem?_eq_some_iff.mp hi).1
        have ut : u ≠ t := ne_of hu2 (s4 _ _ hvs) (by intro z; cases z)
        refine ⟨u, _, rfl, SqT.of (fr4 _ _ hu2 ut), rfl, _, _, rfl, _, _, rfl, rfl, ?_⟩
        refine ⟨_, rfl, _, rfl, up_scal _ _, _, rfl, ?_⟩
        rw [up_eq]
        rw [take_step hz, news_snoc]
        by_cases c1 : cm = some p
        · rw [decide_eq_true c1]
          refine iteF ?_
          rw [if_pos c1.symm]
          exact ⟨⟨_, _, rfl⟩, fr4, vs', hvs', pr', by omega⟩
        · rw [decide_eq_false c1]
          refine iteT ?_
          rw [if_neg (Ne.symm c1)]
          refine ⟨_, rfl, .inl ⟨rfl, _, .inl (.inl hvs')⟩, _, rfl, _, rfl, (by show 2 ≤ sizeLine; decide), fun g hg => ?_⟩
          have s5 := same_new (o := .tup [.int o, .int p]) hg
          refine ⟨t, vs', .ref g, rfl, rfl, s5 _ _ hvs', Nat.lt_of_le_of_lt (by omega : vs'.length ≤ 100) (by decide), ?_⟩
          have t6 : TupK (upd H4 g (.tup [.int o, .int p])) (upd (upd H4 g (.tup [.int o, .int p])) t (.lst (vs' ++ [.ref g]))) := tupK_upd fun xs e => by rw [s5 _ _ hvs'] at e; cases e
          have gt : g ≠ t := fun z => by rw [z, hvs'] at hg; cases hg
          refine ⟨⟨_, _, rfl⟩, fun c o e ne => by rw [upd_ne ne]; exact s5 _ _ (fr4 c o e ne), _, upd_same, ?_, by rw [List.length_append]; simp only [List.length_cons, List.length_nil]; omega⟩
          rw [← List.append_assoc]
          exact paired_app (Paired.mapP pr' fun _ _ r => r.keep ((TupK.of s5).trans t6)) (.cons ⟨g, rfl, by rw [upd_ne gt]; exact upd_same⟩ .nil)
      · rintro σ H4 ⟨⟨x7, x8, rfl⟩, fr4, vs', hvs', pr', hl'⟩
        rw [take_all (Paired.length pa)] at pr'
        refine ⟨_, rfl, n, 1, rfl, rfl, ?_⟩
        refine ⟨⟨_, _, _, _, rfl⟩, fun c o e ne => fr4 _ _ (s4 _ _ (fr _ _ e ne)) ne, vs', _, hvs', pr', St.next FO hx, ?_⟩
        rw [List.length_append]
        omega
    · have en : n = told.length := by
        have h1 : ¬ (n : Int) < (vs.length : Int) := fun z => c (decide_eq_true z)
        omega
      subst en
      exact ⟨_, rfl, q t vs told H2 (fun c o e => fr _ _ (s3 _ _ (s2 _ _ (s1 _ _ e))) (ne_of_none e htH)) htH hvs pr St ten⟩

/-! ### part_of -/
theorem pg_tupB {X : Cx} {K' : PySem.W.Frag} {es : List Expr} {k : Nat} {t : TGs} {n : Nat} {pos : Pos} (hK : X.K = K') (hc : X.calm = true) (h : PGs X es t)
    (hn : (assignEach es X.env).length = n := by rfl) (hst : (assignEach es X.env).findIdx? (·.1) = none := by rfl) : PG X (.Tuple es k pos) (gTup K' n t) := hK ▸ pg_tup hc h hn hst
def sp_po (K : PySem.W.Frag) : Sp := fun vs H Q _ => ∃ y ll L S b B, vs = [.ref y, .int b] ∧ YdL K H y ll L S ∧ Good S ∧ S.there b = some B ∧
  ∀ (p : Addr) (ns : List Int) (told : Told) (H' : Hp), Same H H' → H' p = some (.lst (ns.map V.int)) → ns.Perm (told.map (·.1)) → ns.Pairwise (· ≤ ·) → Sent (waysOf S) b told.length told → told.length ≤ 10 → Q (.ref p) H'
theorem sc_po : FnScope ["yard", "bridge", "here", "came"] ["yard", "bridge"] (defScope s_po) := ⟨rfl, rfl, rfl, by decide +kernel, rfl, by decide +kernel, by decide +kernel⟩
theorem ok_po (T : Tx K mg) : Cal P w K mg base 7 (He.fAd K ("part_of", none)) ["yard", "bridge"] (sp_po K) := by
  obtain ⟨fd, F⟩ := T.f_po
  have GC := ok_ca (P := P) (w := w) (base := base) T
  refine Cal.mk2 F sc_po (fun _ _ _ _ _ _ us hl => match us, hl with | [_, _], _ => rfl) (fun vs H Q E h => ?_) (fun cdv A outer s H vs Q E hr h => ?_)
  · obtain ⟨y, ll, L, S, b, B, rfl, _⟩ := h
    rfl
  · obtain ⟨y, ll, L, S, b, B, rfl, hY, G, hB, q⟩ := h
    refine ⟨_, pss_one (ps_ret (pe_callB cr_sorted (by rfl) T.z_sorted boot_sorted (pa_cons (pe_lc (own := [("here", 2), ("came", 3)]) (g := gTup K 2 (gCons (gName 2) (gCons (gName 3) gNil))) rfl sc_po.nd (pi_list (pc_call GC hr rfl T.g_ca (pa_cons (pv 0) (pa_cons (pv 1) pa_nil))))
          (blkOk_by (own := [("here", 2), ("came", 3)]) (N := ["yard", "bridge", "here", "came"]) (sc := defScope s_po) (by decide +kernel))
          (fun _ _ _ _ _ => pg_tupB (K' := K) (by rfl) rfl (pgs_cons (pg_name (i := 2) sc_po.nd rfl (.inl rfl)) (pgs_cons (pg_name (i := 3) sc_po.nd rfl (.inl rfl)) pgs_nil))) (fun _ _ _ _ _ => pts_nil) (fun _ _ _ _ _ => pv 2)) pa_nil))), ?_⟩
    refine ⟨_, rfl, _, rfl, y, ll, L, S, b, B, rfl, hY, G, hB, fun t ts told H1 s1 ht hts pr St ten => ⟨t, rfl, ⟨_, SqL.of hts⟩, fun D hD => ?_⟩⟩
    have s2 : Same H1 (upd H1 D (.lst [])) := same_new hD
    have lts : ts.length = told.length := Paired.length pr
    refine lc_list (K := K) (a := t) (xs := ts) (fun i H' => H' D = some (.lst (((told.map (·.1)).take i).map V.int)) ∧ Same H1 H') ⟨upd_same, s2⟩ (fun i H' _ h => SqL.of (h.2 _ _ hts)) ?_ ?_
    · rintro i v H' hi ⟨hDv, s3⟩
      obtain ⟨⟨x, cm⟩, hz, a, rfl, ha⟩ := paired_at' pr hi
      have hil : i < ts.length := (List.getElem?_eq_some_iff.mp hi).1
      refine ⟨a, _, rfl, SqT.of (s3 _ _ ha), rfl, _, _, rfl, _, _, rfl, rfl, ?_⟩
      have hm : (told.map (·.1))[i]? = some x := by rw [List.getElem?_map, hz]; rfl
      refine ⟨rfl, ?_⟩
      unfold tYes
      refine iteT ?_
      refine ⟨_, rfl, _, hDv, Nat.lt_of_le_of_lt (by rw [List.length_map]; exact Nat.le_trans (List.length_take_le _ _) (by omega) : _ ≤ 100) (by decide), ?_, fun c o e => ?_⟩
      · rw [take_step hm, List.map_append]; exact upd_same
      · have hne : c ≠ D := fun z => by rw [z, hD] at e; cases e
        rw [upd_ne hne]; exact s3 _ _ e
    · rintro H' ⟨hDv, s3⟩
      rw [take_all (by rw [List.length_map]; exact lts)] at hDv
      refine ⟨D, told.map (·.1), rfl, SqL.of hDv, by rw [List.length_map]; omega, fun ns p perm rise hp => ?_⟩
      exact q p ns told _ ((s1.trans s3).trans (same_new hp)) upd_same perm rise St ten
end
end Sw

/-! Sw: the walk of is_within, need_bridges, tie_of, make_net. -/
namespace Sw
open PySem PySem.Spec PyProof.Rows L2
theorem flat_ints : ∀ ns : List Int, (ns.map V.int).all flatV = true
  | [] => rfl
  | n :: ns => by
    rw [List.map_cons, List.all_cons, flat_ints ns]
    rfl
theorem inV_ints (x : Int) : ∀ ns : List Int, inV (.int x) (ns.map V.int) = decide (x ∈ ns)
  | [] => by simp [inV]
  | n :: ns => by
    have ih := inV_ints x ns
    unfold inV at ih ⊢
    rw [List.map_cons, List.any_cons, ih]
    show ((n == x) || decide (x ∈ ns)) = decide (x ∈ n :: ns)
    rw [Bool.eq_iff_iff, Bool.or_eq_true, decide_eq_true_iff, decide_eq_true_iff, List.mem_cons, beq_iff_eq]
    exact or_congr eq_comm Iff.rfl
theorem pe_gi {X : Cx} {x : Str} {i : Int} {pos : Pos} (hg : Gl X x) (h : ∃ t, X.mg x = some (.int i t)) (hd : (x == ("__debug__" : Str)) = false := by decide) : PE X (.Name x pos) (tC (.int i)) := by
  obtain ⟨t, e⟩ := h
  exact pe_glob hg e ⟨t, rfl⟩ hd
section
variable {P : Program} {w : World} {K : PySem.W.Frag} {mg : Str → Option Value} {base : Heap}

/-! ### is_within -/
def sp_iw : Sp := fun vs H Q _ => ∃ i lo hi : Int, vs = [.int i, .int lo, .int hi] ∧ lo ≤ i ∧ i ≤ hi ∧ Q (.bl true) H
theorem sc_iw : FnScope ["thing", "least", "most"] ["thing", "least", "most"] (defScope s_iw) := ⟨rfl, rfl, rfl, by decide +kernel, rfl, by decide +kernel, by decide +kernel⟩
theorem ok_iw (T : Tx K mg) : Cal P w K mg base 1 (He.fAd K ("is_within", none)) ["thing", "least", "most"] sp_iw := by
  obtain ⟨fd, F⟩ := T.f_iw
  refine Cal.mk2 F sc_iw (fun _ _ _ _ _ _ us hl => match us, hl with | [_, _, _], _ => rfl) (fun vs H Q E h => ?_) (fun cdv A outer s H vs Q E hr h => ?_)
  · obtain ⟨i, lo, hi, rfl, _⟩ := h
    rfl
  · obtain ⟨i, lo, hi, rfl, h0, h1, q⟩ := h
    refine ⟨_, pss_one (ps_ret (pe_and (pe_callB call_isi (by rfl) T.z_isinstance (by decide +kernel) (pa_cons (pv 0) (pa_cons (pe_bltn (v := .ty "int") (by rfl) T.z_int (by decide +kernel) rfl) pa_nil)))
      (pe_and (pe_not (pe_callB call_isi (by rfl) T.z_isinstance (by decide +kernel) (pa_cons (pv 0) (pa_cons (pe_bltn (v := .ty "bool") (by rfl) T.z_bool (by decide +kernel) rfl) pa_nil))))
        (pe_one (pe_chain op_le op_le (pv 1) (pv 0) (pv 2)))))), ?_⟩
    refine ⟨_, rfl, _, _, _, _, true, rfl, .ty "int", .base (.int i), kit_ty (by decide +kernel), _, rfl, iteT ?_⟩
    refine ⟨_, rfl, _, _, _, _, false, rfl, .ty "bool", .base (.int i), kit_ty (by decide +kernel), _, rfl, _, rfl, iteT ?_⟩
    refine ⟨_, rfl, _, rfl, _, _, rfl, rfl, _, rfl, iteP (decide_eq_true h0) ?_⟩
    refine ⟨_, rfl, _, _, rfl, rfl, ?_⟩
    show Q (V.bl (decide (i ≤ hi))) H
    rw [decide_eq_true h1]
    exact q

/-! ### need_bridges -/
def sp_nb : Sp := fun vs H Q _ => ∃ (a : Addr) (bs : List Int), vs = [.ref a] ∧ H a = some (.lst (bs.map V.int)) ∧ bs.Nodup ∧ 1 ≤ bs.length ∧ bs.length ≤ 10 ∧ (∀ b, b ∈ bs → 0 ≤ b ∧ b ≤ 999) ∧ ∀ H', Same H H' → Q .non H'
theorem sc_nb : FnScope ["bridges", "spot", "number"] ["bridges"] (defScope s_nb) := ⟨rfl, rfl, rfl, by decide +kernel, rfl, by decide +kernel, by decide +kernel⟩
theorem nd_take {l : List Int} {i : Nat} {x : Int} (h : l.Nodup) (hx : l[i]? = some x) : x ∉ l.take i := fun hm => by
  obtain ⟨j, hj, e⟩ := List.mem_take_iff_getElem.mp hm
  have e2 : l[j]? = some x := by rw [← e]; exact List.getElem?_eq_getElem _
  have := nd_inj h e2 hx
  omega
theorem cut_to {xs : List V} {i : Nat} (h : i ≤ xs.length) : cutV xs none (some (i : Int)) = xs.take i := by
  unfold cutV
  rw [HT.sIx_none, HT.sIx_nat, List.drop_zero, Nat.sub_zero, Nat.min_eq_left h]
theorem ok_nb (T : Tx K mg) : Cal P w K mg base 2 (He.fAd K ("need_bridges", none)) ["bridges"] sp_nb := by
  obtain ⟨fd, F⟩ := T.f_nb
  have GI := ok_iw (P := P) (w := w) (base := base) T
  refine Cal.mk2 F sc_nb (fun _ _ _ _ _ _ us hl => match us, hl with | [_], _ => rfl) (fun vs H Q E h => ?_) (fun cdv A outer s H vs Q E hr h => ?_)
  · obtain ⟨a, bs, rfl, _⟩ := h
    rfl
  · obtain ⟨a, bs, rfl, ha, nd, l1, l10, rg, q⟩ := h
    refine ⟨_, pss_cons (ps_if (PW.pt (pw_or (pt_not (pt_val (pe_callB call_isi (by rfl) T.z_isinstance (by decide +kernel) (pa_cons (pv 0) (pa_cons (pe_bltn (v := .ty "list") (by rfl) T.z_list (by decide +kernel) rfl) pa_nil)))))
        (pw_or1 (pt_not (pt_chain op_le op_le pe_int (pe_callB call_len_seq (by rfl) T.z_len PySem.boot_len (pa_cons (pv 0) pa_nil)) (pe_gi (by rfl) T.i_MOST_BRIDGES)))))) (pss_one ps_no2) pss_nil)
      (pss_one (ps_for PassesOwn.never rfl (pi_enum (by rfl) T.z_enumerate (pa_cons (pv 0) pa_nil)) (pg_tup rfl (pgs_cons (pg_name (i := 1) sc_nb.nd rfl (.inl rfl)) (pgs_cons (pg_name (i := 2) sc_nb.nd rfl (.inl rfl)) pgs_nil)))
        (pss_one (ps_if (PW.pt (pw_or (pt_not (pt_val (pc_call GI hr rfl T.g_iw (pa_cons (pv 2) (pa_cons pe_int (pa_cons (pe_gi (by rfl) T.i_MOST_NUMBER) pa_nil))))))
          (pw_or1 (pt_cmpR op_in_seq (pv 2) (pe_slice sl_list (pv 0) po_none (po_some (pv 1))) (by rfl))))) (pss_one ps_no2) pss_nil)))), ?_⟩
    refine ⟨_, rfl, _, _, _, _, true, rfl, .ty "list", .base (.lst ha), kit_ty (by decide +kernel), _, rfl, iteF ?_⟩
    refine ⟨_, rfl, a, _, rfl, .inl (SqL.of ha), _, _, rfl, rfl, _, rfl, iteP (decide_eq_true (by rw [List.length_map]; omega)) ?_⟩
    refine ⟨_, _, rfl, rfl, _, rfl, ?_⟩
    rw [decide_eq_true (by rw [List.length_map]; omega : ((bs.map V.int).length : Int) ≤ 10)]
    refine iteF ?_
    refine ⟨_, rfl, a, _, rfl, SqL.of ha, for_it (walk_enum (K := K) (a := a) (xs := bs.map V.int)) (fun i σ H' => (∃ x1 x2, σ = [some (.ref a), x1, x2]) ∧ Same H H') ⟨⟨none, none, rfl⟩, Same.refl H⟩ (fun i σ H' _ h => SqL.of (h.2 _ _ ha)) ?_ ?_⟩
    · rintro i v σ H1 H2 hi ⟨⟨x1, x2, rfl⟩, s1⟩ ⟨tp, xi, v2, rfl, htp, rfl, e1, e2⟩
      cases e1
      obtain ⟨b, hb, rfl⟩ := map_at e2
      have s2 := same_new (o := .tup [.int (i : Nat), .int b]) htp
      have hrg := rg b (List.mem_of_getElem? hb)
      refine ⟨tp, _, rfl, SqT.of upd_same, rfl, _, _, rfl, _, _, rfl, rfl, ?_⟩
      refine ⟨_, rfl, b, 0, 999, rfl, hrg.1, hrg.2, _, rfl, iteF ?_⟩
      refine ⟨_, rfl, _, rfl, _, rfl, (i : Int), rfl, a, _, rfl, SqL.of (s2 _ _ (s1 _ _ ha)), fun p hp => ?_⟩
      have s3 := same_new (o := .lst (cutV (bs.map V.int) none (some (i : Int)))) hp
      refine ⟨p, ((bs.take i).map V.int), rfl, .inl (SqL.of (by rw [upd_same, cut_to (Nat.le_of_lt (by simpa using hi)), List.map_take])), rfl, flat_ints _, _, rfl, ?_⟩
      show if (inV (.int b) ((bs.take i).map V.int)) = true then _ else _
      rw [inV_ints, decide_eq_false (nd_take nd hb)]
      refine iteF ?_
      exact ⟨⟨_, _, rfl⟩, (s1.trans s2).trans s3⟩
    · rintro σ H1 ⟨⟨x1, x2, rfl⟩, s1⟩
      exact q H1 s1

/-! ### tie_of -/
def norm (t : Tie) : Tie := (if t.2.1 < t.1 then t.2.1 else t.1, if t.1 < t.2.1 then t.2.1 else t.1, t.2.2)
def sp_tf : Sp := fun vs H Q _ => ∃ (a u : Addr) (bs : List Int) (t : Tie), vs = [.ref a, .ref u] ∧ H a = some (.lst (bs.map V.int)) ∧ H u = some (.tup [.int t.1, .int t.2.1, .int t.2.2]) ∧ t.1 ∈ bs ∧ t.2.1 ∈ bs ∧ t.1 ≠ t.2.1 ∧ 1 ≤ t.2.2 ∧ t.2.2 ≤ 1000 ∧
  (∀ b, b ∈ bs → 0 ≤ b ∧ b ≤ 999) ∧ ∀ v H', Same H H' → TieAt H' v (norm t) → Q v H'
theorem sc_tf : FnScope ["bridges", "thing", "number"] ["bridges", "thing"] (defScope s_tf) := ⟨rfl, rfl, rfl, by decide +kernel, rfl, by decide +kernel, by decide +kernel⟩
theorem ok_tf (T : Tx K mg) : Cal P w K mg base 2 (He.fAd K ("tie_of", none)) ["bridges", "thing"] sp_tf := by
  obtain ⟨fd, F⟩ := T.f_tf
  have GI := ok_iw (P := P) (w := w) (base := base) T
  refine Cal.mk2 F sc_tf (fun _ _ _ _ _ _ us hl => match us, hl with | [_, _], _ => rfl) (fun vs H Q E h => ?_) (fun cdv A outer s H vs Q E hr h => ?_)
  · obtain ⟨a, u, bs, t, rfl, _⟩ := h
    rfl
  · obtain ⟨a, u, bs, ⟨o1, o2, k⟩, rfl, ha, hu, m1, m2, ne, k1, k2, rg, q⟩ := h
    refine ⟨_, pss_cons (ps_if (PW.pt (pw_or (pt_not (pt_val (pe_callB call_isi (by rfl) T.z_isinstance (by decide +kernel) (pa_cons (pv 1) (pa_cons (pe_bltn (v := .ty "tuple") (by rfl) T.z_tuple (by decide +kernel) rfl) pa_nil)))))
        (pw_or (pt_cmpR op_ne (pe_callB call_len_seq (by rfl) T.z_len PySem.boot_len (pa_cons (pv 1) pa_nil)) pe_int (nomark _))
          (pw_or1 (pt_not (pt_val (pc_call GI hr rfl T.g_iw (pa_cons (pe_ix ix_tup (pv 1) pe_int (fun _ _ => rfl)) (pa_cons pe_int (pa_cons (pe_gi (by rfl) T.i_MOST_COST) pa_nil)))))))))) (pss_one ps_no2) pss_nil)
      (pss_cons (ps_for PassesOwn.never rfl (pi_tup (pe_slice sl_tup (pv 1) po_none (po_some pe_int))) (pg_name (i := 2) sc_tf.nd rfl (.inl rfl))
        (pss_one (ps_if (PW.pt (pw_or (pt_not (pt_val (pc_call GI hr rfl T.g_iw (pa_cons (pv 2) (pa_cons pe_int (pa_cons (pe_gi (by rfl) T.i_MOST_NUMBER) pa_nil))))))
          (pw_or1 (pt_cmpR op_notIn_seq (pv 2) (pv 0) (by rfl))))) (pss_one ps_no2) pss_nil)))
      (pss_cons (ps_if (pt_cmpR op_eq (pe_ix ix_tup (pv 1) pe_int (fun _ _ => rfl)) (pe_ix ix_tup (pv 1) pe_int (fun _ _ => rfl)) (nomark _)) (pss_one ps_no2) pss_nil)
      (pss_one (ps_ret (pe_tup (pa_cons (pe_callB (cr_min2T rfl hr.units) (by rfl) T.z_min boot_min (pa_cons (pe_slice sl_tup (pv 1) po_none (po_some pe_int)) pa_nil))
        (pa_cons (pe_callB (cr_max2T rfl hr.units) (by rfl) T.z_max boot_max (pa_cons (pe_slice sl_tup (pv 1) po_none (po_some pe_int)) pa_nil)) (pa_cons (pe_ix ix_tup (pv 1) pe_int (fun _ _ => rfl)) pa_nil)))))))), ?_⟩
    have nw : ¬ (HT.sIx 3 0 none = 0 ∧ HT.sIx 3 3 (some 2) = 3) := by decide
    refine ⟨_, rfl, _, _, _, _, true, rfl, .ty "tuple", .base (.tup hu), kit_ty (by decide +kernel), _, rfl, iteF ?_⟩
    refine ⟨_, rfl, u, _, rfl, .inr (SqT.of hu), rfl, _, rfl, iteF ?_⟩
    refine ⟨_, rfl, u, _, _, _, rfl, rfl, SqT.of hu, rfl, k, 1, 1000, rfl, k1, k2, _, rfl, iteF ?_⟩
    refine ⟨_, rfl, 2, rfl, u, _, rfl, SqT.of hu, nw, fun p hp => ?_⟩
    have s1 := same_new (o := .tup (cutV [.int o1, .int o2, .int k] none (some 2))) hp
    refine ⟨p, rfl, ⟨_, SqT.of upd_same⟩, for_tup (K := K) (a := p) (xs := [o1, o2].map V.int) (fun i σ H' => (∃ x2, σ = [some (.ref a), some (.ref u), x2]) ∧ Same H H' ∧ H' p = some (.tup ([o1, o2].map V.int))) ⟨⟨none, rfl⟩, s1, upd_same⟩ (fun i σ H' _ h => SqT.of h.2.2) ?_ ?_⟩
    · rintro i v σ H1 hi ⟨⟨x2, rfl⟩, s2, hp2⟩
      obtain ⟨b, hb, rfl⟩ := map_at hi
      have hm : b ∈ bs := by
        have := List.mem_of_getElem? hb
        simp only [List.mem_cons, List.not_mem_nil, or_false] at this
        rcases this with e | e
        · rw [e]; exact m1
        · rw [e]; exact m2
      have hrg := rg b hm
      refine ⟨_, rfl, b, 0, 999, rfl, hrg.1, hrg.2, _, rfl, iteF ?_⟩
      refine ⟨_, rfl, _, rfl, a, bs.map V.int, rfl, .inl (SqL.of (s2 _ _ ha)), rfl, flat_ints _, _, rfl, ?_⟩
      show if (!inV (.int b) (bs.map V.int)) = true then _ else _
      rw [inV_ints, decide_eq_true hm]
      exact iteF ⟨⟨_, rfl⟩, s2, hp2⟩
    · rintro σ H1 ⟨⟨x2, rfl⟩, s2, hp2⟩
      have hu1 := s2 _ _ hu
      refine ⟨_, rfl, u, _, _, _, rfl, rfl, SqT.of hu1, rfl, _, rfl, u, _, _, _, rfl, rfl, SqT.of hu1, rfl, rfl, _, rfl, ?_⟩
      rw [dec_int, int_beq, decide_eq_false ne]
      refine iteF ?_
      refine ⟨_, rfl, 2, rfl, u, _, rfl, SqT.of hu1, nw, fun g hg => ⟨g, o1, o2, rfl, SqT.of upd_same, ?_⟩⟩
      have s3 := same_new (o := .tup (cutV [.int o1, .int o2, .int k] none (some 2))) hg
      refine ⟨_, rfl, 2, rfl, u, _, rfl, SqT.of (s3 _ _ hu1), nw, fun g2 hg2 => ⟨g2, o1, o2, rfl, SqT.of upd_same, ?_⟩⟩
      have s4 := s3.trans (same_new (o := .tup (cutV [.int o1, .int o2, .int k] none (some 2))) hg2)
      refine ⟨_, rfl, u, _, _, _, rfl, rfl, SqT.of (s4 _ _ hu1), rfl, (by show 3 ≤ sizeLine; decide), fun r hr' => ?_⟩
      exact q (.ref r) _ ((s2.trans s4).trans (same_new hr')) ⟨r, rfl, upd_same⟩

/-! ### make_net -/
def sp_mn : Sp := fun vs H Q _ => ∃ (a ta : Addr) (bs : List Int) (tvs : List V) (ts : List Tie), vs = [.ref a, .ref ta] ∧ H a = some (.lst (bs.map V.int)) ∧ bs.Nodup ∧ 1 ≤ bs.length ∧ bs.length ≤ 10 ∧ (∀ b, b ∈ bs → 0 ≤ b ∧ b ≤ 999) ∧
  H ta = some (.lst tvs) ∧ Paired (TieAt H) tvs ts ∧ ts.length ≤ 16 ∧ (∀ t, t ∈ ts → t.1 ∈ bs ∧ t.2.1 ∈ bs ∧ t.1 ≠ t.2.1 ∧ 1 ≤ t.2.2 ∧ t.2.2 ≤ 1000) ∧
  ∀ np ab at_ tv N H', Same H H' → NetAt H' np ab at_ tv N → NetOk N → Q (.ref np) H'
theorem sc_mn : FnScope ["bridges", "ties", "thing"] ["bridges", "ties"] (defScope s_mn) := ⟨rfl, rfl, rfl, by decide +kernel, rfl, by decide +kernel, by decide +kernel⟩
theorem ok_mn (T : Tx K mg) : Cal P w K mg base 3 (He.fAd K ("make_net", none)) ["bridges", "ties"] sp_mn := by
  obtain ⟨fd, F⟩ := T.f_mn
  have GN := ok_nb (P := P) (w := w) (base := base) T
  have GT := ok_tf (P := P) (w := w) (base := base) T
  refine Cal.mk2 F sc_mn (fun _ _ _ _ _ _ us hl => match us, hl with | [_, _], _ => rfl) (fun vs H Q E h => ?_) (fun cdv A outer s H vs Q E hr h => ?_)
  · obtain ⟨a, ta, bs, tvs, ts, rfl, _⟩ := h
    rfl
  · obtain ⟨a, ta, bs, tvs, ts, rfl, ha, nd, l1, l10, rg, hta, pr, l16, tok, q⟩ := h
    refine ⟨_, pss_cons (ps_expr (pc_call GN hr rfl T.g_nb (pa_cons (pv 0) pa_nil)))
      (pss_cons (ps_if (PW.pt (pw_or (pt_not (pt_val (pe_callB call_isi (by rfl) T.z_isinstance (by decide +kernel) (pa_cons (pv 1) (pa_cons (pe_bltn (v := .ty "list") (by rfl) T.z_list (by decide +kernel) rfl) pa_nil)))))
        (pw_or1 (pt_cmpR op_gt (pe_callB call_len_seq (by rfl) T.z_len PySem.boot_len (pa_cons (pv 1) pa_nil)) (pe_gi (by rfl) T.i_MOST_TIES) (nomark _))))) (pss_one ps_no2) pss_nil)
      (pss_one (ps_ret (pe_tup (pa_cons (pe_callTy call_tuple_of (by rfl) T.z_tuple (by decide +kernel) (pa_cons (pe_callB cr_sorted (by rfl) T.z_sorted boot_sorted (pa_cons (pv 0) pa_nil)) pa_nil))
        (pa_cons (pe_callTy call_tuple_of (by rfl) T.z_tuple (by decide +kernel) (pa_cons (pe_lc (own := [("thing", 2)]) (g := gName 2) rfl sc_mn.nd (pi_list (pv 1))
          (blkOk_by (own := [("thing", 2)]) (N := ["bridges", "ties", "thing"]) (sc := defScope s_mn) (by decide +kernel))
          (fun _ _ _ _ _ => pg_name (i := 2) sc_mn.nd rfl (.inl rfl)) (fun _ _ _ _ _ => pts_nil) (fun _ _ _ _ _ => pc_call GT hr rfl T.g_tf (pa_cons (pv 0) (pa_cons (pv 2) pa_nil)))) pa_nil)) pa_nil)))))), ?_⟩
    refine ⟨_, rfl, a, bs, rfl, ha, nd, l1, l10, rg, fun H1 s1 => ?_⟩
    have hta1 := s1 _ _ hta
    have lts : tvs.length = ts.length := Paired.length pr
    refine ⟨_, rfl, _, _, _, _, true, rfl, .ty "list", .base (.lst hta1), kit_ty (by decide +kernel), _, rfl, iteF ?_⟩
    refine ⟨_, rfl, ta, _, rfl, .inl (SqL.of hta1), _, _, rfl, rfl, _, rfl, ?_⟩
    show if (decide ((16 : Int) < (tvs.length : Int))) = true then _ else _
    rw [decide_eq_false (by omega)]
    refine iteF ?_
    refine ⟨_, rfl, a, bs, rfl, SqL.of (s1 _ _ ha), by omega, fun ns p perm rise hp => ⟨p, _, rfl, .inl ⟨SqL.of upd_same, fun ab hab => ?_⟩⟩⟩
    have s2 := s1.trans ((same_new (o := .lst (ns.map V.int)) hp).trans (same_new (o := .tup (ns.map V.int)) hab))
    have hab2 : (upd (upd H1 p (.lst (ns.map V.int))) ab (.tup (ns.map V.int))) ab = some (.tup (ns.map V.int)) := upd_same
    generalize upd (upd H1 p (.lst (ns.map V.int))) ab (.tup (ns.map V.int)) = H2 at s2 hab2
    refine ⟨_, rfl, ta, rfl, ⟨_, SqL.of (s2 _ _ hta)⟩, fun D hD => ?_⟩
    have s3 : Same H2 (upd H2 D (.lst [])) := same_new hD
    refine lc_list (K := K) (a := ta) (xs := tvs) (fun i H' => Same H2 H' ∧ ∃ vs, H' D = some (.lst vs) ∧ Paired (TieAt H') vs ((ts.take i).map norm)) ⟨s3, [], upd_same, by rw [List.take_zero]; exact .nil⟩ (fun i H' _ h => SqL.of (h.1 _ _ (s2 _ _ hta))) ?_ ?_
    · rintro i v H' hi ⟨s4, vs, hvs, pr'⟩
      obtain ⟨t, hz, u, rfl, hu⟩ := paired_at' pr hi
      have hil : i < tvs.length := (List.getElem?_eq_some_iff.mp hi).1
      obtain ⟨t1, t2, t3, t4, t5⟩ := tok t (List.mem_of_getElem? hz)
      have lvs : vs.length ≤ 16 := by
        rw [Paired.length pr', List.length_map]
        exact Nat.le_trans (List.length_take_le _ _) (by omega)
      refine ⟨rfl, ?_⟩
      unfold tYes
      refine iteT ?_
      refine ⟨_, rfl, _, rfl, a, u, bs, t, rfl, s4 _ _ (s2 _ _ ha), s4 _ _ (s2 _ _ hu), t1, t2, t3, t4, t5, rg, fun v2 H5 s5 hv2 => ⟨vs, s5 _ _ hvs, small16 lvs, fun c o e => ?_, vs ++ [v2], upd_same, ?_⟩⟩
      · have hne : c ≠ D := fun z => by rw [z, hD] at e; cases e
        rw [upd_ne hne]; exact s5 _ _ (s4 _ _ e)
      · have t6 : TupK H5 (upd H5 D (.lst (vs ++ [v2]))) := tupK_upd fun xs e => by rw [s5 _ _ hvs] at e; cases e
        rw [take_step hz, List.map_append]
        exact paired_app (Paired.mapP pr' fun _ _ r => r.keep ((TupK.of s5).trans t6)) (.cons (hv2.keep t6) .nil)
    · rintro H' ⟨s4, vs, hvs, pr'⟩
      rw [take_all lts] at pr'
      refine ⟨D, _, rfl, .inl ⟨SqL.of hvs, fun at_ hat => ⟨(by show 2 ≤ sizeLine; decide), fun np hnp => ?_⟩⟩⟩
      have s5 := same_new (o := .tup vs) hat
      have s6 := same_new (o := .tup [.ref ab, .ref at_]) hnp
      have nn : ns.Nodup := perm.nodup_iff.mpr nd
      have ln : ns.length = bs.length := perm.length_eq
      refine q np ab at_ vs ⟨ns, ts.map norm⟩ _ (((s2.trans s4).trans s5).trans s6) ⟨upd_same, s6 _ _ (s5 _ _ (s4 _ _ hab2)), s6 _ _ upd_same, Paired.mapP pr' fun _ _ r => (r.keep (.of s5)).keep (.of s6)⟩ ⟨rise_of rise nn, by show 1 ≤ ns.length; omega, by show ns.length ≤ 10; omega, by show (ts.map norm).length ≤ 16; rw [List.length_map]; exact l16, fun t ht => ?_⟩
      obtain ⟨t0, h0, rfl⟩ := List.mem_map.mp ht
      obtain ⟨t1, t2, t3, t4, t5⟩ := tok t0 h0
      obtain ⟨o1, o2, k⟩ := t0
      have t1' := perm.mem_iff.mpr t1
      have t2' := perm.mem_iff.mpr t2
      have e3 : o1 ≠ o2 := t3
      show (if o2 < o1 then o2 else o1) < (if o1 < o2 then o2 else o1) ∧ (if o2 < o1 then o2 else o1) ∈ ns ∧ (if o1 < o2 then o2 else o1) ∈ ns ∧ 1 ≤ k
      by_cases c : o1 < o2
      · rw [if_neg (by omega), if_pos c]
        exact ⟨c, t1', t2', t4⟩
      · rw [if_pos (by omega), if_neg c]
        exact ⟨by omega, t2', t1', t4⟩
end
end Sw

/-! Sw: the walk of the law's draws. -/
namespace Sw
open PySem PySem.Spec PyProof.Rows L2

/-! ### a row: two ints in a list -/
def RowOk (H : Hp) (p : Addr) : Prop := ∃ x y : Int, H p = some (.lst [.int x, .int y]) ∧ 0 ≤ y ∧ y < 2147483587
def Rc (p : Addr) (H H' : Hp) : Prop := (∀ b o, H b = some o → b ≠ p → H' b = some o) ∧ RowOk H' p
theorem RowOk.same {H H' : Hp} {p : Addr} (r : RowOk H p) (s : Same H H') : RowOk H' p := by
  obtain ⟨x, y, e, h⟩ := r
  exact ⟨x, y, s _ _ e, h⟩
theorem Rc.of {H H' : Hp} {p : Addr} (r : RowOk H p) (s : Same H H') : Rc p H H' := ⟨fun b o e _ => s b o e, r.same s⟩
theorem Rc.trans {A B C : Hp} {p : Addr} (x : Rc p A B) (y : Rc p B C) : Rc p A C := ⟨fun b o e n => y.1 b o (x.1 b o e n) n, y.2⟩
theorem Rc.then {A B C : Hp} {p : Addr} (x : Rc p A B) (s : Same B C) : Rc p A C := x.trans (Rc.of x.2 s)
theorem Rc.tup {H H' : Hp} {p : Addr} (c : Rc p H H') (r : RowOk H p) : TupK H H' := fun a xs e => by
  obtain ⟨x, y, e2, _⟩ := r
  exact c.1 a _ e (ne_of e e2 (by intro z; cases z))
theorem Rc.none {H H' : Hp} {p a : Addr} (c : Rc p H H') (h : H' a = none) : H a = none := by
  obtain ⟨x, y, e2, _⟩ := c.2
  cases e : H a with
  | none => rfl
  | some o =>
    have n : a ≠ p := fun z => by rw [z, e2] at h; cases h
    rw [c.1 a o e n] at h; cases h
theorem Rc.yk {H H' : Hp} {p ll : Addr} (c : Rc p H H') (r : RowOk H p) (n : p ≠ ll) : YKeep ll H H' := by
  refine ⟨c.tup r, fun b o e hl => c.1 b o e fun z => ?_⟩
  obtain ⟨x, y, e2, _⟩ := r
  rw [z, e2] at e
  exact n (z ▸ hl _ (Option.some.inj e).symm)
theorem at_int {ns : List Int} {t : Int} (h0 : 0 ≤ t) (h1 : t < ns.length) : ∃ z, z ∈ ns ∧ ns[t.toNat]? = some z ∧ atI (ns.map V.int) t = some (.int z) := by
  have hk : t.toNat < ns.length := by omega
  refine ⟨ns[t.toNat], List.getElem_mem hk, List.getElem?_eq_getElem hk, ?_⟩
  refine at_of (j := t.toNat) (by omega) ?_
  rw [List.getElem?_map, List.getElem?_eq_getElem hk]
  rfl
section
variable {P : Program} {w : World} {K : PySem.W.Frag} {mg : Str → Option Value} {base : Heap}

/-! ### _law_cell_at -/
def sp_lc (K : PySem.W.Frag) : Sp := fun vs H Q _ => ∃ (a : Addr) (ns : List Int) (k : Int), vs = [.ref a, .int k] ∧ SqL K H a (ns.map V.int) ∧ 0 ≤ k ∧ ∀ c : Int, Q (.int c) H
theorem sc_lc : FnScope ["script", "k"] ["script", "k"] (defScope s_lc) := ⟨rfl, rfl, rfl, by decide +kernel, rfl, by decide +kernel, by decide +kernel⟩
theorem ok_lc (T : Tx K mg) : Cal P w K mg base 1 (He.fAd K ("_law_cell_at", none)) ["script", "k"] (sp_lc K) := by
  obtain ⟨fd, F⟩ := T.f_lc
  refine Cal.mk2 F sc_lc (fun _ _ _ _ _ _ us hl => match us, hl with | [_, _], _ => rfl) (fun vs H Q E h => ?_) (fun cdv A outer s H vs Q E hr h => ?_)
  · obtain ⟨a, ns, k, rfl, _⟩ := h
    rfl
  · obtain ⟨a, ns, k, rfl, hS, h0, q⟩ := h
    refine ⟨_, pss_cons (ps_if (pt_cmpR op_lt (pv 1) (pe_callB call_len_seq (by rfl) T.z_len PySem.boot_len (pa_cons (pv 0) pa_nil)) (nomark _)) (pss_one (ps_ret (pe_ix ix_list (pv 0) (pv 1) (fun _ _ => rfl)))) pss_nil)
      (pss_one (ps_ret pe_int)), ?_⟩
    refine ⟨_, rfl, _, rfl, a, _, rfl, .inl hS, _, _, rfl, rfl, _, rfl, ?_⟩
    refine ite2 (fun c => ?_) (fun c => q 0)
    have hk : k < ((ns.map V.int).length : Int) := of_decide_eq_true c
    rw [List.length_map] at hk
    obtain ⟨z, _, _, hz⟩ := at_int h0 hk
    exact ⟨_, rfl, _, rfl, a, _, k, _, rfl, rfl, hS, hz, q z⟩

/-! ### _law_row -/
def sp_lr : Sp := fun vs H Q _ => ∃ c : Int, vs = [.int c] ∧ ∀ p H', Same H H' → H p = none → RowOk H' p → Q (.ref p) H'
theorem sc_lr : FnScope ["cell"] ["cell"] (defScope s_lr) := ⟨rfl, rfl, rfl, by decide +kernel, rfl, by decide +kernel, by decide +kernel⟩
theorem ok_lr (T : Tx K mg) : Cal P w K mg base 1 (He.fAd K ("_law_row", none)) ["cell"] sp_lr := by
  obtain ⟨fd, F⟩ := T.f_lr
  refine Cal.mk2 F sc_lr (fun _ _ _ _ _ _ us hl => match us, hl with | [_], _ => rfl) (fun vs H Q E h => ?_) (fun cdv A outer s H vs Q E hr h => ?_)
  · obtain ⟨c, rfl, _⟩ := h
    rfl
  · obtain ⟨c, rfl, q⟩ := h
    refine ⟨_, pss_one (ps_ret (pe_lst (pa_cons (pv 0) (pa_cons (pe_op op_mod (pv 0) pe_int) pa_nil)))), ?_⟩
    refine ⟨_, rfl, _, rfl, c, 2147483587, rfl, rfl, (by show (0 : Int) < 2147483587; decide), (by show 2 ≤ sizeLine; decide), fun p hp => ?_⟩
    exact q p _ (same_new hp) hp ⟨c, c % 2147483587, upd_same, Int.emod_nonneg _ (by decide), Int.emod_lt_of_pos _ (by decide)⟩

/-! ### _law_take -/
def sp_lt : Sp := fun vs H Q _ => ∃ (p : Addr) (n : Int), vs = [.ref p, .int n] ∧ RowOk H p ∧ 0 < n ∧ n < 1073741824 ∧ ∀ (t : Int) (H' : Hp), 0 ≤ t → t < n → Rc p H H' → Q (.int t) H'
theorem sc_lt : FnScope ["row", "many", "told"] ["row", "many"] (defScope s_lt) := ⟨rfl, rfl, rfl, by decide +kernel, rfl, by decide +kernel, by decide +kernel⟩
theorem ok_lt (T : Tx K mg) : Cal P w K mg base 1 (He.fAd K ("_law_take", none)) ["row", "many"] sp_lt := by
  obtain ⟨fd, F⟩ := T.f_lt
  refine Cal.mk2 F sc_lt (fun _ _ _ _ _ _ us hl => match us, hl with | [_, _], _ => rfl) (fun vs H Q E h => ?_) (fun cdv A outer s H vs Q E hr h => ?_)
  · obtain ⟨p, n, rfl, _⟩ := h
    rfl
  · obtain ⟨p, n, rfl, ⟨x, y, hp, y0, y1⟩, n0, n1, q⟩ := h
    refine ⟨_, pss_cons (ps_if (pt_cmpR op_gt (pe_ix ix_list (pv 0) pe_int (fun _ _ => rfl)) (pe_op op_pow pe_int pe_int) (nomark _))
        (pss_cons (ps_set (i := 2) sc_lt.nd rfl (.inl rfl) (pe_op op_mod (pe_ix ix_list (pv 0) pe_int (fun _ _ => rfl)) (pv 1)))
        (pss_cons (ps_asg (pe_op op_fdiv (pe_ix ix_list (pv 0) pe_int (fun _ _ => rfl)) (pv 1)) (pg_sub (pv 0) pe_int set_list))
        (pss_one (ps_ret (pv 2))))) pss_nil)
      (pss_cons (ps_asg (pe_op op_mod (pe_op op_add (pe_op op_add (pe_op op_mul (pe_ix ix_list (pv 0) pe_int (fun _ _ => rfl)) (pe_ix ix_list (pv 0) pe_int (fun _ _ => rfl))) (pe_op op_mul pe_int (pe_ix ix_list (pv 0) pe_int (fun _ _ => rfl)))) pe_int) pe_int) (pg_sub (pv 0) pe_int set_list))
      (pss_one (ps_ret (pe_op op_mod (pe_op op_fdiv (pe_ix ix_list (pv 0) pe_int (fun _ _ => rfl)) pe_int) (pv 1))))), ?_⟩
    refine ⟨_, rfl, p, _, 0, _, rfl, rfl, SqL.of hp, rfl, 10, 18, rfl, rfl, ⟨by decide, by decide, by decide⟩, x, _, rfl, rfl, _, rfl, ?_⟩
    refine ite2 (fun c => ?_) (fun c => ?_)
    · refine ⟨_, rfl, p, _, 0, _, rfl, rfl, SqL.of hp, rfl, _, rfl, x, n, rfl, rfl, n0, ?_⟩
      refine ⟨_, rfl, p, _, 0, _, rfl, rfl, SqL.of hp, rfl, _, rfl, x, n, rfl, rfl, ⟨n0, n1⟩, ?_⟩
      refine ⟨_, rfl, p, _, 0, 0, rfl, rfl, hp, rfl, ?_⟩
      exact ⟨_, rfl, q _ _ (Int.emod_nonneg _ (by omega)) (Int.emod_lt_of_pos _ n0) ⟨fun b o e nb => by rw [upd_ne nb]; exact e, x / n, y, upd_same, y0, y1⟩⟩
    · have c1 : CMul y y := .inl ⟨by omega, by omega⟩
      have c2 : CMul 69621 y := .inr ⟨by omega, by omega⟩
      refine ⟨_, rfl, p, _, 1, _, rfl, rfl, SqL.of hp, rfl, _, rfl, p, _, 1, _, rfl, rfl, SqL.of hp, rfl, y, y, rfl, rfl, c1, ?_⟩
      refine ⟨_, rfl, p, _, 1, _, rfl, rfl, SqL.of hp, rfl, 69621, y, rfl, rfl, c2, _, _, rfl, rfl, _, _, rfl, rfl, _, 2147483587, rfl, rfl, (by show (0 : Int) < 2147483587; decide), ?_⟩
      refine ⟨_, rfl, p, _, 1, 1, rfl, rfl, hp, rfl, ?_⟩
      have hp2 : (upd H p (.lst [.int x, .int ((y * y + 69621 * y + 12345) % 2147483587)])) p = some (.lst [.int x, .int ((y * y + 69621 * y + 12345) % 2147483587)]) := upd_same
      refine ⟨_, rfl, p, _, 1, _, rfl, rfl, SqL.of hp2, rfl, _, 8, rfl, rfl, ⟨by decide, by decide⟩, _, rfl, _, n, rfl, rfl, n0, ?_⟩
      exact q _ _ (Int.emod_nonneg _ (by omega)) (Int.emod_lt_of_pos _ n0) ⟨fun b o e nb => (upd_ne nb).trans e, x, _, hp2, Int.emod_nonneg _ (by decide), Int.emod_lt_of_pos _ (by decide)⟩
end
end Sw

/-! Sw: the walk of the law's net. -/
namespace Sw
open PySem PySem.Spec PyProof.Rows L2
def TieGood (bs : List Int) (t : Tie) : Prop := t.1 ∈ bs ∧ t.2.1 ∈ bs ∧ t.1 ≠ t.2.1 ∧ 1 ≤ t.2.2 ∧ t.2.2 ≤ 1000
/-- a row that turns and a list that grows; all else stands -/
def Fl (p q : Addr) (H H' : Hp) : Prop := (∀ b o, H b = some o → b ≠ p → b ≠ q → H' b = some o) ∧ RowOk H' p
theorem Fl.rc {p q : Addr} {A B C : Hp} (x : Fl p q A B) (y : Rc p B C) : Fl p q A C := ⟨fun b o e n m => y.1 b o (x.1 b o e n m) n, y.2⟩
theorem cr_setOfIw {X : Cx} {w : World} (hw : X.w = w) (hc : X.calm = true) : CallR X (.type "set") (rSetOfI X.K w) := hw ▸ cr_setOfI hc
theorem cr_sortedSetw {X : Cx} {w : World} (hw : X.w = w) (hc : X.calm = true) : CallR X (.builtin "sorted") (L2.rSortedSet w) := hw ▸ L2.cr_sortedSet hc
theorem RowOk.upd_ {H : Hp} {p a : Addr} {o : HO} (r : RowOk H p) (n : p ≠ a) : RowOk (upd H a o) p := by
  obtain ⟨x, y, e, h⟩ := r
  exact ⟨x, y, by rw [upd_ne n]; exact e, h⟩
theorem Fl.grow {p q u : Addr} {A H : Hp} {tvs : List V} {ts : List Tie} {a b k : Int} (f : Fl p q A H) (hq : H q = some (.lst tvs)) (pr : Paired (TieAt H) tvs ts) (hu : H u = none) (pq : p ≠ q) :
    Fl p q A (upd (upd H u (.tup [.int a, .int b, .int k])) q (.lst (tvs ++ [.ref u]))) ∧ (upd (upd H u (.tup [.int a, .int b, .int k])) q (.lst (tvs ++ [.ref u]))) q = some (.lst (tvs ++ [.ref u])) ∧
      Paired (TieAt (upd (upd H u (.tup [.int a, .int b, .int k])) q (.lst (tvs ++ [.ref u])))) (tvs ++ [.ref u]) (ts ++ [(a, b, k)]) := by
  have s1 : Same H (upd H u (.tup [.int a, .int b, .int k])) := same_new hu
  have t2 : TupK (upd H u (.tup [.int a, .int b, .int k])) (upd (upd H u (.tup [.int a, .int b, .int k])) q (.lst (tvs ++ [.ref u]))) := tupK_upd fun xs e => by rw [s1 _ _ hq] at e; cases e
  have uq : u ≠ q := fun z => by rw [z, hq] at hu; cases hu
  refine ⟨⟨fun c o e n m => by rw [upd_ne m]; exact s1 _ _ (f.1 c o e n m), (f.2.same s1).upd_ pq⟩, upd_same, paired_app (Paired.mapP pr fun _ _ r => r.keep ((TupK.of s1).trans t2)) (.cons ⟨u, rfl, by rw [upd_ne uq]; exact upd_same⟩ .nil)⟩
theorem paired_rev {α β : Type} {R : α → β → Prop} : ∀ {l : List α} {m : List β}, Paired R l m → Paired R l.reverse m.reverse
  | _, _, .nil => .nil
  | _, _, .cons r t => by
    rw [List.reverse_cons, List.reverse_cons]
    exact paired_app (paired_rev t) (.cons r .nil)
section
variable {P : Program} {w : World} {K : PySem.W.Frag} {mg : Str → Option Value} {base : Heap}
def sp_ln : Sp := fun vs H Q _ => ∃ p, vs = [.ref p] ∧ RowOk H p ∧ ∀ np ab at_ tv N H', Rc p H H' → NetAt H' np ab at_ tv N → NetOk N → Q (.ref np) H'
theorem sc_ln : FnScope ["row", "many", "step", "bridges", "ties", "k", "one", "other", "cost"] ["row"] (defScope s_ln) := ⟨rfl, rfl, rfl, by decide +kernel, rfl, by decide +kernel, by decide +kernel⟩
theorem ok_ln (T : Tx K mg) : Cal P w K mg base 4 (He.fAd K ("_law_net", none)) ["row"] sp_ln := by
  obtain ⟨fd, F⟩ := T.f_ln
  have GT := ok_lt (P := P) (w := w) (base := base) T
  have GM := ok_mn (P := P) (w := w) (base := base) T
  refine Cal.mk2 F sc_ln (fun _ _ _ _ _ _ us hl => match us, hl with | [_], _ => rfl) (fun vs H Q E h => ?_) (fun cdv A outer s H vs Q E hr h => ?_)
  · obtain ⟨p, rfl, _⟩ := h
    rfl
  · obtain ⟨p, rfl, row, q⟩ := h
    have hr1 : Room 1 _ := hr.mono (by decide)
    refine ⟨_, pss_cons (ps_set (i := 1) sc_ln.nd rfl (.inl rfl) (pe_op op_add pe_int (pc_call GT hr1 rfl T.g_lt (pa_cons (pv 0) (pa_cons (pe_ix ix_list (pe_lst (pa_cons pe_int (pa_cons pe_int pa_nil))) (pe_callTy call_int1 (by rfl) T.z_int (by decide +kernel) (pa_cons (pe_cmpR op_eq (pc_call GT hr1 rfl T.g_lt (pa_cons (pv 0) (pa_cons pe_int pa_nil))) pe_int (nomark _)) pa_nil)) (fun _ _ => rfl)) pa_nil)))))
      (pss_cons (ps_set (i := 2) sc_ln.nd rfl (.inr rfl) (pe_ix ix_list (pe_lst (pa_cons pe_int (pa_cons pe_int (pa_cons pe_int (pa_cons pe_int pa_nil))))) (pc_call GT hr1 rfl T.g_lt (pa_cons (pv 0) (pa_cons pe_int pa_nil))) (fun _ _ => rfl)))
      (pss_cons (ps_setLc (i := 3) (own := [("k", 5)]) (g := gName 5) rfl sc_ln.nd rfl rfl (sw_true rfl rfl rfl (by decide +kernel)) (pi_range1 (by rfl) T.z_range (pa_cons (pv 1) pa_nil))
          (blkOk_by (own := [("k", 5)]) (N := ["row", "many", "step", "bridges", "ties", "k", "one", "other", "cost"]) (sc := defScope s_ln) (by decide +kernel))
          (fun _ _ _ _ _ => pg_name (i := 5) sc_ln.nd rfl (.inl rfl)) (fun _ _ _ _ _ => pts_nil) (fun _ _ _ _ _ => pe_op op_fdiv (pe_op op_mul (pv 2) (pe_op op_add (pe_op op_mul pe_int (pv 5)) (pc_call GT hr1 rfl T.g_lt (pa_cons (pv 0) (pa_cons pe_int pa_nil))))) pe_int))
      (pss_cons (ps_set (i := 3) sc_ln.nd rfl (.inl rfl) (pe_callB (cr_sortedSetw (w := w) (by rfl) rfl) (by rfl) T.z_sorted boot_sorted (pa_cons (pe_callTy (cr_setOfIw (w := w) (by rfl) rfl) (by rfl) T.z_set (by decide +kernel) (pa_cons (pv 3) pa_nil)) pa_nil)))
      (pss_cons (ps_set (i := 4) sc_ln.nd rfl (.inl rfl) (pe_lst pa_nil))
      (pss_cons (ps_for PassesOwn.never rfl (pi_range2 (by rfl) T.z_range (pa_cons pe_int (pa_cons (pe_callB call_len_seq (by rfl) T.z_len PySem.boot_len (pa_cons (pv 3) pa_nil)) pa_nil))) (pg_name (i := 5) sc_ln.nd rfl (.inl rfl))
        (pss_one (ps_if (pt_cmpR op_gt (pc_call GT hr1 rfl T.g_lt (pa_cons (pv 0) (pa_cons pe_int pa_nil))) pe_int (nomark _))
          (pss_one (ps_expr (pe_bm PySem.F.plainAttrs_list PySem.F.slot_list_append PySem.F.type_list_append mt_append (pv 4) (pa_cons (pe_tup (pa_cons (pe_ix ix_list (pv 3) (pc_call GT hr1 rfl T.g_lt (pa_cons (pv 0) (pa_cons (pv 5) pa_nil))) (fun _ _ => rfl)) (pa_cons (pe_ix ix_list (pv 3) (pv 5) (fun _ _ => rfl)) (pa_cons (pe_op op_add pe_int (pc_call GT hr1 rfl T.g_lt (pa_cons (pv 0) (pa_cons pe_int pa_nil)))) pa_nil)))) pa_nil)))) pss_nil)))
      (pss_cons (ps_for PassesOwn.never rfl (pi_range1 (by rfl) T.z_range (pa_cons (pc_call GT hr1 rfl T.g_lt (pa_cons (pv 0) (pa_cons pe_int pa_nil))) pa_nil)) (pg_name (i := 5) sc_ln.nd rfl (.inl rfl))
        (pss_cons (ps_set (i := 6) sc_ln.nd rfl (.inl rfl) (pe_ix ix_list (pv 3) (pc_call GT hr1 rfl T.g_lt (pa_cons (pv 0) (pa_cons (pe_callB call_len_seq (by rfl) T.z_len PySem.boot_len (pa_cons (pv 3) pa_nil)) pa_nil))) (fun _ _ => rfl)))
        (pss_cons (ps_set (i := 7) sc_ln.nd rfl (.inl rfl) (pe_ix ix_list (pv 3) (pc_call GT hr1 rfl T.g_lt (pa_cons (pv 0) (pa_cons (pe_callB call_len_seq (by rfl) T.z_len PySem.boot_len (pa_cons (pv 3) pa_nil)) pa_nil))) (fun _ _ => rfl)))
        (pss_cons (ps_set (i := 8) sc_ln.nd rfl (.inl rfl) (pe_ix ix_list (pe_lst (pa_cons pe_int (pa_cons pe_int (pa_cons pe_int (pa_cons (pe_op op_add pe_int (pc_call GT hr1 rfl T.g_lt (pa_cons (pv 0) (pa_cons pe_int pa_nil)))) (pa_cons (pe_op op_add pe_int (pc_call GT hr1 rfl T.g_lt (pa_cons (pv 0) (pa_cons pe_int pa_nil)))) pa_nil)))))) (pc_call GT hr1 rfl T.g_lt (pa_cons (pv 0) (pa_cons pe_int pa_nil))) (fun _ _ => rfl)))
        (pss_one (ps_if (PW.pt (pw_and (pt_cmpR op_ne (pv 6) (pv 7) (nomark _)) (pw_and1 (pt_cmpR op_lt (pe_callB call_len_seq (by rfl) T.z_len PySem.boot_len (pa_cons (pv 4) pa_nil)) pe_int (nomark _)))))
          (pss_one (ps_expr (pe_bm PySem.F.plainAttrs_list PySem.F.slot_list_append PySem.F.type_list_append mt_append (pv 4) (pa_cons (pe_tup (pa_cons (pv 6) (pa_cons (pv 7) (pa_cons (pv 8) pa_nil)))) pa_nil)))) pss_nil))))))
      (pss_one (ps_ret (pc_call GM hr rfl T.g_mn (pa_cons (pv 3) (pa_cons (pe_step (pv 4) (pe_ix ix_list (pe_lst (pa_cons pe_int (pa_cons (pe_un un_neg pe_int) pa_nil))) (pc_call GT hr1 rfl T.g_lt (pa_cons (pv 0) (pa_cons pe_int pa_nil))) (fun _ _ => rfl))) pa_nil))))))))))), ?_⟩
    -- many
    refine ⟨_, rfl, (by show 2 ≤ sizeLine; decide), fun g0 hg0 => ?_⟩
    have s1 := same_new (o := .lst [.int 6, .int 10]) hg0
    refine ⟨_, rfl, p, 4, rfl, row.same s1, by decide, by decide, fun t1 H1 t10 t11 c1 => ⟨rfl, .inr ⟨_, rfl, ?_⟩⟩⟩
    have hg1 := c1.1 g0 _ upd_same (fun z => by obtain ⟨x, y, e, _⟩ := row; rw [z, e] at hg0; cases hg0)
    obtain ⟨m0, hm0, ham⟩ : ∃ m0 : Int, (m0 = 6 ∨ m0 = 10) ∧ atI [V.int 6, V.int 10] (if decide (V.int t1 = V.int 0) = true then 1 else 0) = some (.int m0) := by
      cases decide (V.int t1 = V.int 0) with
      | false => exact ⟨6, .inl rfl, rfl⟩
      | true => exact ⟨10, .inr rfl, rfl⟩
    refine ⟨g0, _, _, _, rfl, rfl, SqL.of hg1, ham, ?_⟩
    refine ⟨p, m0, rfl, c1.2, by omega, by omega, fun t2 H2 t20 t21 c2 => ⟨1, t2, rfl, rfl, ?_⟩⟩
    have C2 : Rc p H H2 := ((Rc.of row s1).trans c1).trans c2
    -- step
    refine ⟨(by show 4 ≤ sizeLine; decide), fun g3 hg3 => ?_⟩
    have s3 := same_new (o := .lst [.int 1, .int 3, .int 10, .int 90]) hg3
    refine ⟨_, rfl, p, 4, rfl, C2.2.same s3, by decide, by decide, fun t3 H3 t30 t31 c3 => ?_⟩
    have hg4 := c3.1 g3 _ upd_same (fun z => by obtain ⟨x, y, e, _⟩ := C2.2; rw [z, e] at hg3; cases hg3)
    obtain ⟨st, hst, _, hat⟩ := at_int (ns := [1, 3, 10, 90]) t30 t31
    have st0 : 1 ≤ st ∧ st ≤ 90 := by
      simp only [List.mem_cons, List.not_mem_nil, or_false] at hst
      omega
    refine ⟨g3, _, t3, _, rfl, rfl, SqL.of hg4, hat, ?_⟩
    have C3 : Rc p H H3 := (C2.then s3).trans c3
    -- bridges
    have hm : 1 ≤ 1 + t2 ∧ 1 + t2 ≤ 10 := by omega
    refine ⟨_, rfl, 1 + t2, rfl, by omega, by omega, fun D hD => ?_⟩
    have Dp : D ≠ p := fun z => by obtain ⟨x, y, e, _⟩ := C3.2; rw [z, e] at hD; cases hD
    refine lc_range (fun i H' => Rc p H3 H' ∧ ∃ ns : List Int, H' D = some (.lst (ns.map V.int)) ∧ ns.length = i ∧ ∀ b, b ∈ ns → 0 ≤ b ∧ b ≤ 999) ⟨Rc.of C3.2 (same_new hD), [], upd_same, rfl, fun b hb => by cases hb⟩ ?_ ?_
    · rintro i H4 hi ⟨c4, ns, hns, hl, hbd⟩
      refine ⟨rfl, ?_⟩
      unfold tYes
      refine iteT ?_
      have hi10 : i < 10 := by omega
      refine ⟨_, rfl, _, rfl, 2, _, rfl, rfl, .inl ⟨by decide, by decide⟩, _, rfl, p, 2, rfl, c4.2, by decide, by decide, fun t H5 t0 t1 c5 => ?_⟩
      have e0 : 0 ≤ 2 * (0 + (i : Int)) + t := by omega
      have e1 : 2 * (0 + (i : Int)) + t ≤ 19 := by omega
      refine ⟨_, _, rfl, rfl, st, 2 * (0 + (i : Int)) + t, rfl, rfl, .inl ⟨by omega, by omega⟩, _, 2, rfl, rfl, ⟨by decide, by decide⟩, ?_⟩
      have hD5 := c5.1 _ _ hns Dp
      have p0 : 0 ≤ st * (2 * (0 + (i : Int)) + t) := Int.mul_nonneg (by omega) e0
      have p1 : st * (2 * (0 + (i : Int)) + t) ≤ 90 * 19 := Int.mul_le_mul st0.2 e1 e0 (by decide)
      refine ⟨_, hD5, Nat.lt_of_le_of_lt (by rw [List.length_map]; omega : _ ≤ 10) (by decide), ?_, ns ++ [st * (2 * (0 + (i : Int)) + t) / 2], by rw [upd_same, List.map_append]; rfl, by rw [List.length_append, hl]; rfl, fun b hb => ?_⟩
      · have c6 : Rc p H3 H5 := c4.trans c5
        refine ⟨fun b o e nb => ?_, ?_⟩
        · rw [upd_ne (ne_of_none e hD)]; exact c6.1 b o e nb
        · obtain ⟨x, y, e, h⟩ := c6.2
          exact ⟨x, y, by rw [upd_ne (Ne.symm Dp)]; exact e, h⟩
      · rcases List.mem_append.mp hb with hb | hb
        · exact hbd b hb
        · have e := List.mem_singleton.mp hb
          subst e
          omega
    · rintro H4 ⟨c4, ns, hns, hl, hbd⟩
      have ln : 1 ≤ ns.length ∧ ns.length ≤ 10 := by omega
      refine ⟨_, rfl, D, ns, rfl, SqL.of hns, by omega, fun a c ha hc => ⟨a, _, c, rfl, upd_same, by omega, fun bs bp rise mem len hbp => ?_⟩⟩
      have sa := same_new (o := SetO w a (fun j => decide (j ∈ ns)) c) ha
      have sb := same_new (o := .lst (bs.map V.int)) hbp
      have CE : Rc p H (upd (upd H4 a (SetO w a (fun j => decide (j ∈ ns)) c)) bp (.lst (bs.map V.int))) := (C3.trans c4).then (sa.trans sb)
      have hbs : (upd (upd H4 a (SetO w a (fun j => decide (j ∈ ns)) c)) bp (.lst (bs.map V.int))) bp = some (.lst (bs.map V.int)) := upd_same
      generalize upd (upd H4 a (SetO w a (fun j => decide (j ∈ ns)) c)) bp (.lst (bs.map V.int)) = HE at CE hbs
      have bpp : bp ≠ p := fun z => by
        obtain ⟨x, y, e, _⟩ := c4.2
        rw [← z] at e
        rw [sa _ _ e] at hbp; cases hbp
      have bmem : ∀ b, b ∈ bs → 0 ≤ b ∧ b ≤ 999 := fun b hb => hbd b (of_decide_eq_true ((mem b).mp hb))
      have nd : bs.Nodup := lt_nd rise
      have l10 : bs.length ≤ 10 := by omega
      have l1 : 1 ≤ bs.length := by
        obtain ⟨x, hx⟩ : ∃ x, ns[0]? = some x := ⟨_, List.getElem?_eq_getElem (by omega)⟩
        have hx2 := (mem x).mpr (decide_eq_true (List.mem_of_getElem? hx))
        exact List.length_pos_of_mem hx2
      -- ties
      refine ⟨(by show 0 ≤ sizeLine; decide), fun tp htp => ?_⟩
      have tpp : p ≠ tp := fun z => by obtain ⟨x, y, e, _⟩ := CE.2; rw [← z, e] at htp; cases htp
      have tpb : bp ≠ tp := fun z => by rw [← z, hbs] at htp; cases htp
      have f0 : Fl p tp HE (upd HE tp (.lst [])) := ⟨fun b o e _ m => by rw [upd_ne m]; exact e, CE.2.upd_ tpp⟩
      have gb : ∀ {H' : Hp}, Fl p tp HE H' → H' bp = some (.lst (bs.map V.int)) := fun f => f.1 _ _ hbs bpp tpb
      have lb : ((bs.map V.int).length : Int) = bs.length := by rw [List.length_map]
      refine ⟨_, rfl, bp, _, rfl, .inl (SqL.of (gb f0)), 1, ((bs.map V.int).length : Int), rfl, ⟨by decide, by decide, by omega, by omega⟩, for_range (fun i σ H' => (∃ x5 x6 x7 x8, σ = [some (.ref p), some (.int (1 + t2)), some (.int st), some (.ref bp), some (.ref tp), x5, x6, x7, x8]) ∧ Fl p tp HE H' ∧
          ∃ tvs ts, H' tp = some (.lst tvs) ∧ Paired (TieAt H') tvs ts ∧ ts.length ≤ i ∧ ∀ t, t ∈ ts → TieGood bs t)
        ⟨⟨none, none, none, none, rfl⟩, f0, [], [], upd_same, .nil, Nat.le_refl _, fun t ht => by cases ht⟩ ?_ ?_⟩
      · rintro i σ H5 hi ⟨⟨x5, x6, x7, x8, rfl⟩, f5, tvs, ts, htv, pr, hl5, tg⟩
        have hi9 : i + 1 < bs.length := by
          rw [lb] at hi
          omega
        refine ⟨_, rfl, p, 6, rfl, f5.2, by decide, by decide, fun t H6 h60 h61 c6 => ⟨t, 0, rfl, rfl, _, rfl, ?_⟩⟩
        have f6 := f5.rc c6
        have tk6 := c6.tup f5.2
        have htv6 := c6.1 _ _ htv (Ne.symm tpp)
        refine ite2 (fun _ => ?_) (fun _ => ?_)
        · refine ⟨_, rfl, .inl ⟨rfl, _, .inl (.inl htv6)⟩, _, rfl, _, rfl, _, rfl, p, 1 + (i : Int), rfl, f6.2, by omega, by omega, fun t7 H7 h70 h71 c7 => ?_⟩
          have f7 := f6.rc c7
          obtain ⟨o1, m1, e1, a1⟩ := at_int (ns := bs) (t := t7) h70 (by omega)
          obtain ⟨o2, m2, e2, a2⟩ := at_int (ns := bs) (t := 1 + (i : Int)) (by omega) (by omega)
          have ne : o1 ≠ o2 := fun z => by
            rw [z] at e1
            have := nd_inj nd e1 e2
            omega
          refine ⟨bp, _, t7, _, rfl, rfl, SqL.of (gb f7), a1, _, rfl, _, rfl, bp, _, 1 + (i : Int), _, rfl, rfl, SqL.of (gb f7), a2, ?_⟩
          refine ⟨_, rfl, p, 3, rfl, f7.2, by decide, by decide, fun t8 H8 h80 h81 c8 => ⟨1, t8, rfl, rfl, (by show 3 ≤ sizeLine; decide), fun u hu => ?_⟩⟩
          have f8 := f7.rc c8
          have tk8 := (tk6.trans (c7.tup f6.2)).trans (c8.tup f7.2)
          have htv8 := c8.1 _ _ (c7.1 _ _ htv6 (Ne.symm tpp)) (Ne.symm tpp)
          have lt : tvs.length = ts.length := Paired.length pr
          refine ⟨tp, tvs, .ref u, rfl, rfl, same_new hu _ _ htv8, Nat.lt_of_le_of_lt (by omega : tvs.length ≤ 100) (by decide), ?_⟩
          obtain ⟨g1, g2, g3⟩ := f8.grow (a := o1) (b := o2) (k := 1 + t8) htv8 (Paired.mapP pr fun _ _ r => r.keep tk8) hu tpp
          refine ⟨⟨_, _, _, _, rfl⟩, g1, _, _, g2, g3, by rw [List.length_append]; simp only [List.length_cons, List.length_nil]; omega, fun z hz => ?_⟩
          rcases List.mem_append.mp hz with hz | hz
          · exact tg z hz
          · have e := List.mem_singleton.mp hz
            subst e
            exact ⟨m1, m2, ne, by show 1 ≤ 1 + t8; omega, by show 1 + t8 ≤ 1000; omega⟩
        · exact ⟨⟨_, _, _, _, rfl⟩, f6, tvs, ts, htv6, Paired.mapP pr fun _ _ r => r.keep tk6, by omega, tg⟩
      · rintro σ H5 ⟨⟨x5, x6, x7, x8, rfl⟩, f5, tvs, ts, htv, pr, hl5, tg⟩
        rw [lb] at hl5
        refine ⟨_, rfl, p, 9, rfl, f5.2, by decide, by decide, fun n9 H6 h60 h61 c6 => ⟨n9, rfl, by omega, by omega, ?_⟩⟩
        have f6 := f5.rc c6
        have tk6 := c6.tup f5.2
        have htv6 := c6.1 _ _ htv (Ne.symm tpp)
        refine for_range (fun i σ H' => (∃ x5 x6 x7 x8, σ = [some (.ref p), some (.int (1 + t2)), some (.int st), some (.ref bp), some (.ref tp), x5, x6, x7, x8]) ∧ Fl p tp HE H' ∧
            ∃ tvs ts, H' tp = some (.lst tvs) ∧ Paired (TieAt H') tvs ts ∧ ts.length ≤ 16 ∧ ∀ t, t ∈ ts → TieGood bs t)
          ⟨⟨_, _, _, _, rfl⟩, f6, tvs, ts, htv6, Paired.mapP pr fun _ _ r => r.keep tk6, by omega, tg⟩ ?_ ?_
        · clear htv pr hl5 tg htv6 tk6 f6 c6 f5
          rintro i σ H5 hi ⟨⟨x5, x6, x7, x8, rfl⟩, f5, tvs, ts, htv, pr, hl5, tg⟩
          -- one
          refine ⟨_, rfl, _, rfl, _, rfl, bp, _, rfl, .inl (SqL.of (gb f5)), p, ((bs.map V.int).length : Int), rfl, f5.2, by omega, by omega, fun t7 H7 h70 h71 c7 => ?_⟩
          have f7 := f5.rc c7
          obtain ⟨o1, m1, e1, a1⟩ := at_int (ns := bs) (t := t7) h70 (by omega)
          refine ⟨bp, _, t7, _, rfl, rfl, SqL.of (gb f7), a1, ?_⟩
          -- other
          refine ⟨_, rfl, _, rfl, _, rfl, bp, _, rfl, .inl (SqL.of (gb f7)), p, ((bs.map V.int).length : Int), rfl, f7.2, by omega, by omega, fun t8 H8 h80 h81 c8 => ?_⟩
          have f8 := f7.rc c8
          obtain ⟨o2, m2, e2, a2⟩ := at_int (ns := bs) (t := t8) h80 (by omega)
          refine ⟨bp, _, t8, _, rfl, rfl, SqL.of (gb f8), a2, ?_⟩
          -- cost
          refine ⟨_, rfl, p, 4, rfl, f8.2, by decide, by decide, fun t9 H9 h90 h91 c9 => ⟨1, t9, rfl, rfl, ?_⟩⟩
          have f9 := f8.rc c9
          refine ⟨_, rfl, p, 1000, rfl, f9.2, by decide, by decide, fun ta Ha ha0 ha1 ca => ⟨1, ta, rfl, rfl, (by show 5 ≤ sizeLine; decide), fun g hg => ?_⟩⟩
          have fa_ := f9.rc ca
          have sg := same_new (o := .lst [.int 1, .int 1, .int 2, .int (1 + t9), .int (1 + ta)]) hg
          have cg : Rc p Ha (upd Ha g (.lst [.int 1, .int 1, .int 2, .int (1 + t9), .int (1 + ta)])) := Rc.of fa_.2 sg
          have fg := fa_.rc cg
          refine ⟨_, rfl, p, 5, rfl, fg.2, by decide, by decide, fun tb Hb hb0 hb1 cb => ?_⟩
          have fb := fg.rc cb
          have gp : g ≠ p := fun z => by obtain ⟨x, y, e, _⟩ := fa_.2; rw [z, e] at hg; cases hg
          obtain ⟨ck, mck, _, ack⟩ := at_int (ns := [1, 1, 2, 1 + t9, 1 + ta]) (t := tb) hb0 hb1
          have ck0 : 1 ≤ ck ∧ ck ≤ 1000 := by
            simp only [List.mem_cons, List.not_mem_nil, or_false] at mck
            omega
          refine ⟨g, _, tb, _, rfl, rfl, SqL.of (cb.1 g _ upd_same gp), ack, ?_⟩
          have tkb : TupK H5 Hb := ((((c7.tup f5.2).trans (c8.tup f7.2)).trans (c9.tup f8.2)).trans (ca.tup f9.2)).trans ((TupK.of sg).trans (cb.tup fg.2))
          have htb : Hb tp = some (.lst tvs) := cb.1 _ _ (sg _ _ (ca.1 _ _ (c9.1 _ _ (c8.1 _ _ (c7.1 _ _ htv (Ne.symm tpp)) (Ne.symm tpp)) (Ne.symm tpp)) (Ne.symm tpp))) (Ne.symm tpp)
          have prb : Paired (TieAt Hb) tvs ts := Paired.mapP pr fun _ _ r => r.keep tkb
          have lt : tvs.length = ts.length := Paired.length pr
          refine ⟨_, rfl, _, rfl, rfl, _, rfl, ?_⟩
          rw [dec_int, int_beq]
          by_cases ce : o1 = o2
          · rw [decide_eq_true ce]
            refine iteF ?_
            refine iteF ?_
            exact ⟨⟨_, _, _, _, rfl⟩, fb, tvs, ts, htb, prb, hl5, tg⟩
          · rw [decide_eq_false ce]
            refine iteT ?_
            refine ⟨_, rfl, tp, _, rfl, .inl (SqL.of htb), _, _, rfl, rfl, _, rfl, ?_⟩
            refine ite2 (fun cl => ?_) (fun cl => ?_)
            · have l15 : tvs.length < 16 := by
                have := of_decide_eq_true cl
                omega
              refine ⟨_, rfl, .inl ⟨rfl, _, .inl (.inl htb)⟩, _, rfl, _, rfl, _, rfl, (by show 3 ≤ sizeLine; decide), fun u hu => ?_⟩
              refine ⟨tp, tvs, .ref u, rfl, rfl, same_new hu _ _ htb, Nat.lt_of_le_of_lt (by omega : tvs.length ≤ 100) (by decide), ?_⟩
              obtain ⟨g1, g2, g3⟩ := fb.grow (a := o1) (b := o2) (k := ck) htb prb hu tpp
              refine ⟨⟨_, _, _, _, rfl⟩, g1, _, _, g2, g3, by rw [List.length_append]; simp only [List.length_cons, List.length_nil]; omega, fun z hz => ?_⟩
              rcases List.mem_append.mp hz with hz | hz
              · exact tg z hz
              · have e := List.mem_singleton.mp hz
                subst e
                exact ⟨m1, m2, ce, ck0.1, ck0.2⟩
            · exact ⟨⟨_, _, _, _, rfl⟩, fb, tvs, ts, htb, prb, hl5, tg⟩
        · clear htv pr hl5 tg htv6 tk6 f6 c6 f5
          rintro σ H5 ⟨⟨x5, x6, x7, x8, rfl⟩, f5, tvs, ts, htv, pr, hl5, tg⟩
          refine ⟨_, rfl, _, rfl, 1, rfl, (by show 2 ≤ sizeLine; decide), fun g hg => ?_⟩
          have sg := same_new (o := .lst [.int 1, .int (-1)]) hg
          have cg : Rc p H5 (upd H5 g (.lst [.int 1, .int (-1)])) := Rc.of f5.2 sg
          have fg := f5.rc cg
          refine ⟨_, rfl, p, 2, rfl, fg.2, by decide, by decide, fun tb Hb hb0 hb1 cb => ?_⟩
          have fb := fg.rc cb
          have gp : g ≠ p := fun z => by obtain ⟨x, y, e, _⟩ := f5.2; rw [z, e] at hg; cases hg
          obtain ⟨ck, mck, _, ack⟩ := at_int (ns := [1, -1]) (t := tb) hb0 hb1
          have ck0 : ck = 1 ∨ ck = -1 := by
            simp only [List.mem_cons, List.not_mem_nil, or_false] at mck
            exact mck
          have tkb : TupK H5 Hb := (TupK.of sg).trans (cb.tup fg.2)
          have htb : Hb tp = some (.lst tvs) := cb.1 _ _ (sg _ _ htv) (Ne.symm tpp)
          have prb : Paired (TieAt Hb) tvs ts := Paired.mapP pr fun _ _ r => r.keep tkb
          refine ⟨g, _, tb, _, rfl, rfl, SqL.of (cb.1 g _ upd_same gp), ack, ck, rfl, tp, tvs, rfl, SqL.of htb, by rcases ck0 with e | e <;> rw [e] <;> simp, fun qa ys hqa hys => ?_⟩
          have sq := same_new (o := .lst ys) hqa
          have fin : ∀ ts' : List Tie, Paired (TieAt Hb) ys ts' → ts'.length ≤ 16 → (∀ t, t ∈ ts' → TieGood bs t) → sp_mn [.ref bp, .ref qa] (upd Hb qa (.lst ys)) Q E0 := fun ts' pr' l' tg' => by
            refine ⟨bp, qa, bs, ys, ts', rfl, sq _ _ (gb fb), nd, l1, l10, bmem, upd_same, Paired.mapP pr' fun _ _ r => r.keep (.of sq), l', tg', fun np ab at_ tv N H9 s9 hN ok => ?_⟩
            refine q np ab at_ tv N H9 ?_ hN ok
            have f9 := fb.rc ((Rc.of fb.2 sq).then s9)
            refine ⟨fun b o e nb => f9.1 b o (CE.1 b o e nb) nb fun z => ?_, f9.2⟩
            rw [z] at e
            have e2 := CE.1 _ _ e (Ne.symm tpp)
            rw [htp] at e2; cases e2
          rcases hys with e | e
          · subst e
            exact fin ts prb hl5 tg
          · subst e
            exact fin ts.reverse (paired_rev prb) (by rw [List.length_reverse]; exact hl5) fun t ht => tg t (List.mem_reverse.mp ht)
end
end Sw

/-! Sw: lists of ints as data; the walk of the law's deeds drawn. -/
namespace Sw
open PySem PySem.Spec PyProof.Rows L2

/-! ### data -/
theorem canAll_ints : ∀ ns : List Int, PyData.canLayAll0 (ns.map PyData.int) = true
  | [] => rfl
  | _ :: r => by simp [PyData.canLayAll0, PyData.canLay0, canAll_ints r]
theorem depAll_ints : ∀ ns : List Int, PyData.depthAll (ns.map PyData.int) = 0
  | [] => rfl
  | _ :: r => by simp [PyData.depthAll, PyData.depth, depAll_ints r]
theorem shaped_ints (ns : List Int) : SeqAt.shaped (.list (ns.map PyData.int)) = true := by
  simp [SeqAt.shaped, PyData.canLay0, PyData.depth, canAll_ints, depAll_ints]
theorem eqvAll_ints : ∀ ns ms : List Int, PyData.eqvAll (ns.map PyData.int) (ms.map PyData.int) = decide (ns = ms)
  | [], [] => by simp [PyData.eqvAll]
  | [], _ :: _ => by simp [PyData.eqvAll]
  | _ :: _, [] => by simp [PyData.eqvAll]
  | a :: r, b :: t => by
    have h : PyData.eqvAll ((a :: r).map PyData.int) ((b :: t).map PyData.int) = ((a == b) && PyData.eqvAll (r.map PyData.int) (t.map PyData.int)) := by
      simp only [List.map_cons, PyData.eqvAll, PyData.eqv]
    rw [h, eqvAll_ints r t, Bool.eq_iff_iff]
    simp
theorem eqv_ints (ns ms : List Int) : PyData.eqv (.list (ns.map PyData.int)) (.list (ms.map PyData.int)) = decide (ns = ms) := by
  rw [← eqvAll_ints]
  simp only [PyData.eqv]
theorem dpAll_ints {K : PySem.W.Frag} {H : Hp} : ∀ ns : List Int, DpAll K H (ns.map V.int) (ns.map PyData.int)
  | [] => .nil
  | _ :: r => .cons (.int _) (dpAll_ints r)
theorem dp_ints {K : PySem.W.Frag} {H : Hp} {a : Addr} {ns : List Int} (h : SqL K H a (ns.map V.int)) : Dp K H (.ref a) (.list (ns.map PyData.int)) := .lst h (dpAll_ints ns)
def tieD (t : Tie) : PyData := .tuple [.int t.1, .int t.2.1, .int t.2.2]
theorem canAll_ties : ∀ ts : List Tie, PyData.canLayAll0 (ts.map tieD) = true
  | [] => rfl
  | _ :: r => by simp [PyData.canLayAll0, PyData.canLay0, tieD, canAll_ties r]
theorem depAll_ties : ∀ ts : List Tie, PyData.depthAll (ts.map tieD) ≤ 1
  | [] => by simp [PyData.depthAll]
  | t :: r => by
    have h := depAll_ties r
    simp only [List.map_cons, PyData.depthAll, PyData.depth, tieD]
    omega
theorem shaped_ties (ts : List Tie) : SeqAt.shaped (.tuple (ts.map tieD)) = true := by
  have h := depAll_ties ts
  unfold SeqAt.shaped
  rw [Bool.and_eq_true]
  refine ⟨by simp only [PyData.canLay0]; exact canAll_ties ts, decide_eq_true ?_⟩
  simp only [PyData.depth]
  omega
theorem eqv_ties (ts : List Tie) : PyData.eqv (.tuple (ts.map tieD)) (.tuple []) = decide (ts = []) := by
  cases ts with
  | nil => simp [PyData.eqv, PyData.eqvAll]
  | cons t r => simp [PyData.eqv, PyData.eqvAll]
theorem dpAll_ties {K : PySem.W.Frag} {H : Hp} : ∀ {tv : List V} {ts : List Tie}, Paired (TieAt H) tv ts → DpAll K H tv (ts.map tieD)
  | _, _, .nil => .nil
  | _, _, .cons ⟨a, e, h⟩ t => by
    subst e
    exact .cons (.tup (SqT.of h) (.cons (.int _) (.cons (.int _) (.cons (.int _) .nil)))) (dpAll_ties t)
theorem at_str {ss : List Str} {k : Bool} {a b : Str} : ∃ x, x = (if k then b else a) ∧ atI [V.str a, V.str b] (if k = true then 1 else 0) = some (.str x) := by
  cases k with
  | false => exact ⟨a, rfl, rfl⟩
  | true => exact ⟨b, rfl, rfl⟩
section
variable {P : Program} {w : World} {K : PySem.W.Frag} {mg : Str → Option Value} {base : Heap}

/-! ### what the yard's down tells -/
structure DownAt (H : Hp) (r : Addr) (bl cl : List Int) (S : Yd) : Prop where
  ob : ∃ b1 c1, H r = some (.tup [.ref b1, .ref c1]) ∧ H b1 = some (.tup (bl.map V.int)) ∧ H c1 = some (.tup (cl.map V.int))
  bs : ∀ b, b ∈ bl ↔ b ∈ S.net.bs ∧ S.there b = none
  ts : ∀ p, p ∈ cl ↔ S.cut p = true
theorem DownAt.keep {H H' : Hp} {r : Addr} {bl cl : List Int} {S : Yd} (h : DownAt H r bl cl S) (t : TupK H H') : DownAt H' r bl cl S := by
  obtain ⟨⟨b1, c1, e1, e2, e3⟩, h1, h2⟩ := h
  exact ⟨⟨b1, c1, t _ _ e1, t _ _ e2, t _ _ e3⟩, h1, h2⟩

/-! ### _law_turned -/
def sp_lu (K : PySem.W.Frag) : Sp := fun vs H Q _ => ∃ p np ab at_ tv r bl cl S, vs = [.ref p, .ref np, .ref r] ∧ RowOk H p ∧ NetAt H np ab at_ tv S.net ∧ NetOk S.net ∧ DownAt H r bl cl S ∧ ∀ v d H', Rc p H H' → DeedAt H' v d → Can S d → Q v H'
theorem sc_lu : FnScope ["row", "net", "downs", "place", "bridge"] ["row", "net", "downs"] (defScope s_lu) := ⟨rfl, rfl, rfl, by decide +kernel, rfl, by decide +kernel, by decide +kernel⟩
theorem ok_lu (T : Tx K mg) : Cal P w K mg base 2 (He.fAd K ("_law_turned", none)) ["row", "net", "downs"] (sp_lu K) := by
  obtain ⟨fd, F⟩ := T.f_lu
  have GT := ok_lt (P := P) (w := w) (base := base) T
  refine Cal.mk2 F sc_lu (fun _ _ _ _ _ _ us hl => match us, hl with | [_, _, _], _ => rfl) (fun vs H Q E h => ?_) (fun cdv A outer s H vs Q E hr h => ?_)
  · obtain ⟨p, np, ab, at_, tv, r, bl, cl, S, rfl, _⟩ := h
    rfl
  · obtain ⟨p, np, ab, at_, tv, r, bl, cl, S, rfl, row, hN, ok, hD, q⟩ := h
    refine ⟨_, pss_cons (ps_set (i := 3) sc_lu.nd rfl (.inl rfl) (pc_call GT hr rfl T.g_lt (pa_cons (pv 0) (pa_cons (pe_callB (call_max2 rfl) (by rfl) T.z_max boot_max (pa_cons pe_int (pa_cons (pe_callB call_len_seq (by rfl) T.z_len PySem.boot_len (pa_cons (pe_ix ix_tup (pv 1) pe_int (fun _ _ => rfl)) pa_nil)) pa_nil))) pa_nil))))
      (pss_cons (ps_set (i := 4) sc_lu.nd rfl (.inl rfl) (pe_ix ix_tup (pe_ix ix_tup (pv 1) pe_int (fun _ _ => rfl)) (pc_call GT hr rfl T.g_lt (pa_cons (pv 0) (pa_cons (pe_callB call_len_seq (by rfl) T.z_len PySem.boot_len (pa_cons (pe_ix ix_tup (pv 1) pe_int (fun _ _ => rfl)) pa_nil)) pa_nil))) (fun _ _ => rfl)))
      (pss_cons (ps_if (PW.pt (pw_and (pt_cmpR op_eq (pc_call GT hr rfl T.g_lt (pa_cons (pv 0) (pa_cons pe_int pa_nil))) pe_int (nomark _)) (pw_and1 (pt_cmpR (op_neD hr.units) (pe_ix ix_tup (pv 1) pe_int (fun _ _ => rfl)) (pe_tup pa_nil) (nomark _)))))
        (pss_one (ps_ret (pe_tup (pa_cons (pe_ix ix_list (pe_lst (pa_cons pe_str (pa_cons pe_str pa_nil))) (pe_callTy call_int1 (by rfl) T.z_int (by decide +kernel) (pa_cons (pe_cmpR op_in_seq (pv 3) (pe_ix ix_tup (pv 2) pe_int (fun _ _ => rfl)) (by rfl)) pa_nil)) (fun _ _ => rfl)) (pa_cons pe_str (pa_cons (pv 3) pa_nil)))))) pss_nil)
      (pss_one (ps_ret (pe_tup (pa_cons (pe_ix ix_list (pe_lst (pa_cons pe_str (pa_cons pe_str pa_nil))) (pe_callTy call_int1 (by rfl) T.z_int (by decide +kernel) (pa_cons (pe_cmpR op_in_seq (pv 4) (pe_ix ix_tup (pv 2) pe_int (fun _ _ => rfl)) (by rfl)) pa_nil)) (fun _ _ => rfl)) (pa_cons pe_str (pa_cons (pv 4) pa_nil)))))))), ?_⟩
    have ltv : tv.length = S.net.ts.length := Paired.length hN.tie
    have hf := ok.few
    have ht := ok.ten
    have h1 := ok.some_
    -- place
    refine ⟨_, rfl, _, rfl, np, _, _, _, rfl, rfl, SqT.of hN.ob, rfl, at_, tv, rfl, .inr (SqT.of hN.ts), 1, (tv.length : Int), rfl, ?_⟩
    obtain ⟨m, hm0, hm1, hm2, hm3⟩ : ∃ m : Int, (if (tv.length : Int) > 1 then (tv.length : Int) else 1) = m ∧ 0 < m ∧ m < 1073741824 ∧ (S.net.ts ≠ [] → m = S.net.ts.length) := by
      by_cases c : (tv.length : Int) > 1
      · exact ⟨tv.length, if_pos c, by omega, by omega, fun _ => by omega⟩
      · refine ⟨1, if_neg c, by omega, by omega, fun ne => ?_⟩
        have := List.length_pos_iff.mpr ne
        omega
    rw [hm0]
    refine ⟨p, m, rfl, row, hm1, hm2, fun t H1 t0 t1 c1 => ?_⟩
    have hN1 := hN.keep (c1.tup row)
    -- bridge
    refine ⟨_, rfl, np, _, _, _, rfl, rfl, SqT.of hN1.ob, rfl, _, rfl, _, rfl, np, _, _, _, rfl, rfl, SqT.of hN1.ob, rfl, ab, _, rfl, .inr (SqT.of hN1.bs), p, ((S.net.bs.map V.int).length : Int), rfl, c1.2, by rw [List.length_map]; omega, by rw [List.length_map]; omega, fun t2 H2 t20 t21 c2 => ?_⟩
    have hN2 := hN1.keep (c2.tup c1.2)
    rw [List.length_map] at t21
    obtain ⟨b, mb, _, ab_⟩ := at_int t20 t21
    refine ⟨ab, _, t2, _, rfl, rfl, SqT.of hN2.bs, ab_, ?_⟩
    -- the test
    refine ⟨_, rfl, p, 2, rfl, c2.2, by decide, by decide, fun t3 H3 t30 t31 c3 => ⟨rfl, _, rfl, ?_⟩⟩
    have hN3 := hN2.keep (c3.tup c2.2)
    have C3 : Rc p H H3 := (c1.trans c2).trans c3
    have hD3 := hD.keep (C3.tup row)
    obtain ⟨⟨b1, cc, er, eb, ec⟩, hbs, hts⟩ := id hD3
    have last : ∀ (H4 : Hp) (Q2 : V → Hp → Prop), Same H3 H4 → (∀ v d H', Rc p H H' → DeedAt H' v d → Can S d → Q2 v H') → tTup (tCons (tOp (rIxL K) (tLst (tCons (tC (.str "fall")) (tCons (tC (.str "back")) tNil))) (tCB (fun xs H Q => (∃ i, xs = [.int i] ∧ Q (.int i) H) ∨ ∃ k, xs = [.bl k] ∧ Q (.int (if k then 1 else 0)) H) (tCons (tOp (rIn K false) (tVar 4) (tOp (rIxT K) (tVar 2) (tC (.int 0)))) tNil))) (tCons (tC (.str "bridge")) (tCons (tVar 4) tNil)))
        [some (.ref p), some (.ref np), some (.ref r), some (.int t), some (.int b)] H4 Q2 := fun H4 Q2 s4 q2 => by
      refine ⟨(by show 2 ≤ sizeLine; decide), fun g hg => ?_⟩
      have s5 := same_new (o := .lst [.str "fall", .str "back"]) hg
      refine ⟨_, rfl, _, rfl, r, _, _, _, rfl, rfl, SqT.of (s5 _ _ (s4 _ _ er)), rfl, b1, _, rfl, .inr (SqT.of (s5 _ _ (s4 _ _ eb))), rfl, flat_ints _, .inr ⟨_, rfl, ?_⟩⟩
      obtain ⟨x, ex, ax⟩ := at_str (ss := []) (k := inV (.int b) (bl.map V.int)) (a := "fall") (b := "back")
      refine ⟨g, _, _, _, rfl, rfl, SqL.of upd_same, ax, _, rfl, (by show 3 ≤ sizeLine; decide), fun u hu => ?_⟩
      rw [inV_ints] at ex
      have sE := (s4.trans s5).trans (same_new (o := .tup [.str x, .str "bridge", .int b]) hu)
      by_cases c : b ∈ bl
      · rw [decide_eq_true c] at ex
        have ex' : x = "back" := ex
        subst ex'
        obtain ⟨h1, h2⟩ := (hbs b).mp c
        exact q2 (.ref u) (.backB b) _ (C3.then sE) ⟨u, rfl, upd_same⟩ ⟨h1, h2⟩
      · rw [decide_eq_false c] at ex
        have ex' : x = "fall" := ex
        subst ex'
        refine q2 (.ref u) (.fallB b) _ (C3.then sE) ⟨u, rfl, upd_same⟩ ⟨mb, ?_⟩
        cases e : S.there b with
        | none => exact absurd ((hbs b).mpr ⟨mb, e⟩) c
        | some B => exact ⟨B, rfl⟩
    rw [dec_int, int_beq]
    by_cases ce : t3 = 0
    · rw [decide_eq_true ce]
      refine iteT ?_
      refine ⟨_, rfl, np, _, _, _, rfl, rfl, SqT.of hN3.ob, rfl, (by show 0 ≤ sizeLine; decide), fun e0 he0 => ?_⟩
      have s4 := same_new (o := .tup []) he0
      have hN4 := hN3.keep (TupK.of s4)
      refine ⟨.tuple (S.net.ts.map tieD), .tuple [], .tup (SqT.of hN4.ts) (dpAll_ties hN4.tie), .tup (SqT.of upd_same) .nil, shaped_ties _, shaped_ties [], _, rfl, ?_⟩
      rw [eqv_ties]
      by_cases cn : S.net.ts = []
      · rw [decide_eq_true cn]
        refine iteF ?_
        exact last _ _ s4 q
      · rw [decide_eq_false cn]
        refine iteT ?_
        have hm := hm3 cn
        refine ⟨(by show 2 ≤ sizeLine; decide), fun g hg => ?_⟩
        have s5 := same_new (o := .lst [.str "fall", .str "back"]) hg
        refine ⟨_, rfl, _, rfl, r, _, _, _, rfl, rfl, SqT.of (s5 _ _ (s4 _ _ er)), rfl, cc, _, rfl, .inr (SqT.of (s5 _ _ (s4 _ _ ec))), rfl, flat_ints _, .inr ⟨_, rfl, ?_⟩⟩
        obtain ⟨x, ex, ax⟩ := at_str (ss := []) (k := inV (.int t) (cl.map V.int)) (a := "fall") (b := "back")
        refine ⟨g, _, _, _, rfl, rfl, SqL.of upd_same, ax, _, rfl, (by show 3 ≤ sizeLine; decide), fun u hu => ?_⟩
        rw [inV_ints] at ex
        have sE := (s4.trans s5).trans (same_new (o := .tup [.str x, .str "tie", .int t]) hu)
        by_cases c : t ∈ cl
        · rw [decide_eq_true c] at ex
          have ex' : x = "back" := ex
          subst ex'
          exact q (.ref u) (.backT t) _ (C3.then sE) ⟨u, rfl, upd_same⟩ ⟨⟨t0, by omega⟩, (hts t).mp c⟩
        · rw [decide_eq_false c] at ex
          have ex' : x = "fall" := ex
          subst ex'
          refine q (.ref u) (.fallT t) _ (C3.then sE) ⟨u, rfl, upd_same⟩ ⟨⟨t0, by omega⟩, ?_⟩
          cases e : S.cut t with
          | false => rfl
          | true => exact absurd ((hts t).mpr e) c
    · rw [decide_eq_false ce]
      refine iteF ?_
      refine iteF ?_
      exact last _ _ (Same.refl H3) q
end
end Sw

/-! Sw: the walk of the law's draws of deeds, rounds, moves. -/
namespace Sw
open PySem PySem.Spec PyProof.Rows L2
theorem op_notIn_seqK {X : Cx} {K' : PySem.W.Frag} (hK : X.K = K') : OpR X (compareOp .NotIn) (rIn K' true) := hK ▸ op_notIn_seq
theorem op_in_seqK {X : Cx} {K' : PySem.W.Frag} (hK : X.K = K') : OpR X (compareOp .In) (rIn K' false) := hK ▸ op_in_seq
theorem ix_tupK {X : Cx} {K' : PySem.W.Frag} (hK : X.K = K') : IxR X (rIxT K') := hK ▸ ix_tup
/-- the row p, the road ll, dicts and instances may turn -/
def Fq (p ll : Addr) (H H' : Hp) : Prop := ∀ b o, H b = some o → b ≠ p → b ≠ ll → (∀ k, o ≠ .dK k) → (∀ C dx fs, o ≠ .ins C dx fs) → H' b = some o
theorem Fq.refl {p ll : Addr} (H : Hp) : Fq p ll H H := fun _ _ e _ _ _ _ => e
theorem Fq.trans {p ll : Addr} {A B C : Hp} (x : Fq p ll A B) (y : Fq p ll B C) : Fq p ll A C := fun b o e m n d i => y b o (x b o e m n d i) m n d i
theorem Fq.rc {p ll : Addr} {H H' : Hp} (c : Rc p H H') : Fq p ll H H' := fun b o e m _ _ _ => c.1 b o e m
theorem Fq.fr {p ll : Addr} {H H' : Hp} (c : Fr ll H H') : Fq p ll H H' := fun b o e _ n d i => c b o e n d i
theorem Fq.tup {p ll : Addr} {H H' : Hp} {xs : List V} (f : Fq p ll H H') (r : RowOk H p) (hl : H ll = some (.lst xs)) : TupK H H' := fun a ys e => by
  obtain ⟨x, y, e2, _⟩ := r
  exact f a _ e (ne_of e e2 (by intro z; cases z)) (ne_of e hl (by intro z; cases z)) (fun k z => by cases z) fun C dx fs z => by cases z
theorem RowOk.fr {p ll : Addr} {H H' : Hp} (r : RowOk H p) (f : Fr ll H H') (n : p ≠ ll) : RowOk H' p := by
  obtain ⟨x, y, e, h⟩ := r
  exact ⟨x, y, f.lst e n, h⟩
section
variable {P : Program} {w : World} {K : PySem.W.Frag} {mg : Str → Option Value} {base : Heap}

/-! ### _law_drawn -/
def sp_ld (K : PySem.W.Frag) : Sp := fun vs H Q _ => ∃ p y ll np ab at_ tv L S, vs = [.ref p, .ref y, .ref np] ∧ RowOk H p ∧ p ≠ ll ∧ YdL K H y ll L S ∧ Good S ∧ NetAt H np ab at_ tv S.net ∧ S.road.length ≤ 1000000 ∧
  ∀ v d H', Rc p H H' → DeedAt H' v d → Can S d → Q v H'
theorem sc_ld : FnScope ["row", "yard", "net", "road", "downs", "ups", "kind", "place", "bridge"] ["row", "yard", "net"] (defScope s_ld) := ⟨rfl, rfl, rfl, by decide +kernel, rfl, by decide +kernel, by decide +kernel⟩
theorem ok_ld (T : Tx K mg) : Cal P w K mg base 3 (He.fAd K ("_law_drawn", none)) ["row", "yard", "net"] (sp_ld K) := by
  obtain ⟨fd, F⟩ := T.f_ld
  have GT := ok_lt (P := P) (w := w) (base := base) T
  have GU := ok_lu (P := P) (w := w) (base := base) T
  have GR := ok_Yr (P := P) (w := w) (base := base) T
  have GW := ok_Yw (P := P) (w := w) (base := base) T
  refine Cal.mk2 F sc_ld (fun _ _ _ _ _ _ us hl => match us, hl with | [_, _, _], _ => rfl) (fun vs H Q E h => ?_) (fun cdv A outer s H vs Q E hr h => ?_)
  · obtain ⟨p, y, ll, np, ab, at_, tv, L, S, rfl, _⟩ := h
    rfl
  · obtain ⟨p, y, ll, np, ab, at_, tv, L, S, rfl, row, pll, hY, G, hN, hlen, q⟩ := h
    have hr1 : Room 1 _ := hr.mono (by decide)
    refine ⟨_, pss_cons (ps_set (i := 3) sc_ld.nd rfl (.inl rfl) (pe_callB call_len_seq (by rfl) T.z_len PySem.boot_len (pa_cons (pc_meth0 (pv 1) T.clY T.m_Yr GR hr1) pa_nil)))
      (pss_cons (ps_set (i := 4) sc_ld.nd rfl (.inr rfl) (pc_meth0 (pv 1) T.clY T.m_Yw GW hr1))
      (pss_cons (ps_setLc (i := 5) (own := [("bridge", 8)]) (g := gName 8) rfl sc_ld.nd rfl rfl (sw_true rfl rfl rfl (by decide +kernel)) (pi_tup (pe_ix ix_tup (pv 2) pe_int (fun _ _ => rfl)))
          (blkOk_by (own := [("bridge", 8)]) (N := ["row", "yard", "net", "road", "downs", "ups", "kind", "place", "bridge"]) (sc := defScope s_ld) (by decide +kernel))
          (fun _ _ _ _ _ => pg_name (i := 8) sc_ld.nd rfl (.inl rfl)) (fun _ _ _ _ _ => pts_one (pt_cmpR (op_notIn_seqK (K' := K) (by rfl)) (pv 8) (pe_ix (ix_tupK (K' := K) (by rfl)) (pv 4) pe_int (fun _ _ => rfl)) (by rfl))) (fun _ _ _ _ _ => pv 8))
      (pss_cons (ps_set (i := 6) sc_ld.nd rfl (.inl rfl) (pc_call GT hr1 rfl T.g_lt (pa_cons (pv 0) (pa_cons pe_int pa_nil))))
      (pss_cons (ps_if (PW.pt (pw_or (pt_cmpR op_eq (pv 6) pe_int (nomark _)) (pw_or1 (pt_cmpR (op_eqD hr.units) (pv 5) (pe_lst pa_nil) (nomark _))))) (pss_one (ps_ret (pc_call GU hr rfl T.g_lu (pa_cons (pv 0) (pa_cons (pv 2) (pa_cons (pv 4) pa_nil)))))) pss_nil)
      (pss_cons (ps_if (PW.pt (pw_or (pt_cmpR op_lt (pv 6) pe_int (nomark _)) (pw_or1 (pt_cmpR op_eq (pv 3) pe_int (nomark _)))))
        (pss_one (ps_ret (pe_tup (pa_cons pe_str (pa_cons (pe_ix ix_list (pv 5) (pc_call GT hr1 rfl T.g_lt (pa_cons (pv 0) (pa_cons (pe_callB call_len_seq (by rfl) T.z_len PySem.boot_len (pa_cons (pv 5) pa_nil)) pa_nil))) (fun _ _ => rfl)) pa_nil))))) pss_nil)
      (pss_cons (ps_set (i := 7) sc_ld.nd rfl (.inl rfl) (pe_ix ix_list (pe_lst (pa_cons pe_int (pa_cons pe_int (pa_cons (pe_op op_sub (pv 3) pe_int) (pa_cons (pc_call GT hr1 rfl T.g_lt (pa_cons (pv 0) (pa_cons (pv 3) pa_nil))) pa_nil))))) (pc_call GT hr1 rfl T.g_lt (pa_cons (pv 0) (pa_cons pe_int pa_nil))) (fun _ _ => rfl)))
      (pss_one (ps_ret (pe_ix ix_list (pe_lst (pa_cons (pe_tup (pa_cons pe_str (pa_cons (pv 7) pa_nil))) (pa_cons (pe_tup (pa_cons pe_str (pa_cons (pv 7) pa_nil))) pa_nil))) (pe_callTy call_int1 (by rfl) T.z_int (by decide +kernel) (pa_cons (pe_cmpR op_eq (pv 6) pe_int (nomark _)) pa_nil)) (fun _ _ => rfl)))))))))), ?_⟩
    -- road
    refine ⟨_, rfl, y, L.dx, _, rfl, hY.ob, rfl, y, ll, L, S, rfl, hY, fun g xs hg hx => ⟨g, xs, rfl, .inl (SqL.of upd_same), ?_⟩⟩
    have s1 : Same H (upd H g (.lst xs)) := same_new hg
    have hY1 := hY.same s1
    generalize upd H g (.lst xs) = H1 at s1 hY1
    -- downs
    refine ⟨_, rfl, y, L.dx, _, rfl, hY1.ob, rfl, y, ll, L, S, rfl, hY1, G, fun r b1 c1 bl cl H2 s2 er eb ec hbs hts => ?_⟩
    have C2 : Rc p H H2 := Rc.of row (s1.trans s2)
    have hN2 := (hN.keep (.of s1)).keep (.of s2)
    have hD2 : DownAt H2 r bl cl S := ⟨⟨b1, c1, er, eb, ec⟩, hbs, hts⟩
    -- ups
    refine ⟨_, rfl, np, _, _, _, rfl, rfl, SqT.of hN2.ob, rfl, ab, rfl, ⟨_, SqT.of hN2.bs⟩, fun D hD => ?_⟩
    have s3 : Same H2 (upd H2 D (.lst [])) := same_new hD
    have h10 := G.net.ten
    refine lc_tup (K := K) (a := ab) (xs := S.net.bs.map V.int) (fun i H' => H' D = some (.lst (((S.net.bs.take i).filter fun b => (S.there b).isSome).map V.int)) ∧ Same H2 H') ⟨upd_same, s3⟩ (fun i H' _ h => SqT.of (h.2 _ _ hN2.bs)) ?_ ?_
    · rintro i v H' hi ⟨hDv, s4⟩
      obtain ⟨b, hb, rfl⟩ := map_at hi
      have hm := List.mem_of_getElem? hb
      have hlt : i < S.net.bs.length := (List.getElem?_eq_some_iff.mp hb).1
      refine ⟨rfl, ?_⟩
      refine ⟨_, rfl, _, rfl, r, _, _, _, rfl, rfl, SqT.of (s4 _ _ er), rfl, b1, _, rfl, .inr (SqT.of (s4 _ _ eb)), rfl, flat_ints _, _, rfl, ?_⟩
      show if (!inV (.int b) (bl.map V.int)) = true then _ else _
      rw [inV_ints, take_step hb, List.filter_append, List.map_append]
      cases e : S.there b with
      | some B =>
        have c : b ∉ bl := fun z => by
          have h := ((hbs b).mp z).2
          rw [e] at h; cases h
        rw [decide_eq_false c]
        refine iteT ?_
        have e2 : ([b].filter fun b => (S.there b).isSome) = [b] := by simp [e]
        rw [e2]
        refine ⟨_, rfl, _, hDv, small16 ?_, upd_same, fun c o e3 => ?_⟩
        · rw [List.length_map]
          exact Nat.le_trans (List.length_filter_le _ _) (Nat.le_trans (List.length_take_le _ _) (by omega))
        · have hne : c ≠ D := fun z => by rw [z, hD] at e3; cases e3
          rw [upd_ne hne]; exact s4 _ _ e3
      | none =>
        rw [decide_eq_true ((hbs b).mpr ⟨hm, e⟩)]
        refine iteF ?_
        have e2 : ([b].filter fun b => (S.there b).isSome) = [] := by simp [e]
        rw [e2, List.map_nil, List.append_nil]
        exact ⟨hDv, s4⟩
    · rintro H3 ⟨hDv, s4⟩
      rw [List.length_map, List.take_length] at hDv
      generalize hU : (S.net.bs.filter fun b => (S.there b).isSome) = us at hDv
      have hus : ∀ b, b ∈ us → ∃ B, S.there b = some B := fun b hb => by
        rw [← hU] at hb
        exact Option.isSome_iff_exists.mp (List.mem_filter.mp hb).2
      have lus : us.length ≤ 10 := by rw [← hU]; exact Nat.le_trans (List.length_filter_le _ _) h10
      have C3 : Rc p H H3 := C2.then s4
      have Dp : D ≠ p := fun z => by obtain ⟨x, y, e, _⟩ := C2.2; rw [z, e] at hD; cases hD
      have hN3 := hN2.keep (.of s4)
      have hD3 := hD2.keep (.of s4)
      -- kind
      refine ⟨_, rfl, p, 14, rfl, C3.2, by decide, by decide, fun kd H4 k0 k1 c4 => ?_⟩
      have C4 := C3.trans c4
      have hDv4 := c4.1 _ _ hDv Dp
      have hN4 := hN3.keep (c4.tup C3.2)
      have hD4 := hD3.keep (c4.tup C3.2)
      have lu : ∀ H5, Same H4 H5 → sp_lu K [.ref p, .ref np, .ref r] H5 Q E0 := fun H5 s5 => ⟨p, np, ab, at_, tv, r, bl, cl, S, rfl, C4.2.same s5, hN4.keep (.of s5), G.net, hD4.keep (.of s5), fun v d H' c hv hc => q v d H' ((C4.then s5).trans c) hv hc⟩
      refine ⟨_, rfl, rfl, _, rfl, ?_⟩
      rw [dec_int, int_beq]
      by_cases c13 : kd = 13
      · rw [decide_eq_true c13]
        refine iteT ?_
        refine iteT ?_
        exact ⟨_, rfl, _, rfl, _, rfl, lu H4 (Same.refl H4)⟩
      · rw [decide_eq_false c13]
        refine iteF ?_
        refine ⟨_, rfl, (by show 0 ≤ sizeLine; decide), fun e0 he0 => ?_⟩
        have s5 := same_new (o := .lst []) he0
        refine ⟨.list (us.map PyData.int), .list (([] : List Int).map PyData.int), dp_ints (SqL.of (s5 _ _ hDv4)), dp_ints (ns := []) (SqL.of upd_same), shaped_ints _, shaped_ints _, _, rfl, ?_⟩
        rw [eqv_ints]
        by_cases cu : us = []
        · rw [decide_eq_true cu]
          refine iteT ?_
          exact ⟨_, rfl, _, rfl, _, rfl, lu _ s5⟩
        · rw [decide_eq_false cu]
          refine iteF ?_
          have lu1 : 1 ≤ us.length := List.length_pos_iff.mpr cu
          generalize hH5 : upd H4 e0 (.lst []) = H5 at s5
          have C5 := C4.then s5
          have hDv5 := s5 _ _ hDv4
          have tick : sp_lt [.ref p, .int ((us.map V.int).length : Int)] H5 (fun v H6 => rIxL K (.ref D) v H6 fun x H7 => tNil [] H7 fun xs H8 => ([V.str "tick", x] ++ xs).length ≤ sizeLine ∧ ∀ u, H8 u = none → Q (.ref u) (upd H8 u (.tup ([V.str "tick", x] ++ xs)))) E0 := by
            rw [List.length_map]
            refine ⟨p, us.length, rfl, C5.2, by omega, by omega, fun t H6 t0 t1 c6 => ?_⟩
            obtain ⟨b, mb, _, hb⟩ := at_int t0 t1
            refine ⟨D, _, t, _, rfl, rfl, SqL.of (c6.1 _ _ hDv5 Dp), hb, (by show 2 ≤ sizeLine; decide), fun u hu => ?_⟩
            exact q (.ref u) (.tick b) _ ((C5.trans c6).then (same_new hu)) ⟨u, rfl, upd_same⟩ (hus b mb)
          refine ⟨_, rfl, _, 5, rfl, rfl, _, rfl, ?_⟩
          refine ite2 (fun _ => ?_) (fun _ => ?_)
          · refine iteT ?_
            exact ⟨_, rfl, _, rfl, _, rfl, D, _, rfl, .inl (SqL.of hDv5), tick⟩
          · refine ⟨_, rfl, rfl, _, rfl, ?_⟩
            rw [dec_int, int_beq]
            by_cases cr : (xs.length : Int) = 0
            · rw [decide_eq_true cr]
              refine iteT ?_
              exact ⟨_, rfl, _, rfl, _, rfl, D, _, rfl, .inl (SqL.of hDv5), tick⟩
            · rw [decide_eq_false cr]
              refine iteF ?_
              have hxs : (xs.length : Int) = S.road.length := by rw [hx]
              refine ⟨_, rfl, _, 1, rfl, rfl, _, rfl, _, rfl, p, (xs.length : Int), rfl, C5.2, by omega, by omega, fun t H6 t0 t1 c6 => ?_⟩
              refine ⟨(by show 4 ≤ sizeLine; decide), fun g2 hg2 => ?_⟩
              have s7 := same_new (o := .lst [.int 0, .int 0, .int ((xs.length : Int) - 1), .int t]) hg2
              have C7 := (C5.trans c6).then s7
              refine ⟨_, rfl, p, 4, rfl, C7.2, by decide, by decide, fun t2 H8 t20 t21 c8 => ?_⟩
              have gp : g2 ≠ p := fun z => by obtain ⟨x, y, e, _⟩ := (C5.trans c6).2; rw [z, e] at hg2; cases hg2
              obtain ⟨pl, mpl, _, apl⟩ := at_int (ns := [0, 0, (xs.length : Int) - 1, t]) t20 t21
              have hpl : 0 ≤ pl ∧ pl < S.road.length := by
                simp only [List.mem_cons, List.not_mem_nil, or_false] at mpl
                omega
              refine ⟨g2, _, t2, _, rfl, rfl, SqL.of (c8.1 g2 _ upd_same gp), apl, ?_⟩
              have C8 := C7.trans c8
              refine ⟨_, rfl, (by show 2 ≤ sizeLine; decide), fun u1 hu1 => ⟨_, rfl, (by show 2 ≤ sizeLine; decide), fun u2 hu2 => ⟨(by show 2 ≤ sizeLine; decide), fun g3 hg3 => ?_⟩⟩⟩
              have s9 := same_new (o := .tup [.str "come", .int pl]) hu1
              have sA := same_new (o := .tup [.str "lost", .int pl]) hu2
              have sB := same_new (o := .lst [.ref u1, .ref u2]) hg3
              have CB := C8.then ((s9.trans sA).trans sB)
              have h1 := sB _ _ (sA _ _ (upd_same (H := H8) (a := u1) (o := .tup [.str "come", .int pl])))
              have h2 := sB _ _ (upd_same (H := upd H8 u1 (.tup [.str "come", .int pl])) (a := u2) (o := .tup [.str "lost", .int pl]))
              refine ⟨_, rfl, rfl, .inr ⟨_, rfl, ?_⟩⟩
              cases decide (V.int kd = V.int 12) with
              | false => exact ⟨g3, _, _, _, rfl, rfl, SqL.of upd_same, rfl, q (.ref u1) (.come pl) _ CB ⟨u1, rfl, h1⟩ hpl⟩
              | true => exact ⟨g3, _, _, _, rfl, rfl, SqL.of upd_same, rfl, q (.ref u2) (.lost pl) _ CB ⟨u2, rfl, h2⟩ hpl⟩
end
end Sw

/-! Sw: the walk of the law's rounds, moves, beginnings. -/
namespace Sw
open PySem PySem.Spec PyProof.Rows L2
section
variable {P : Program} {w : World} {K : PySem.W.Frag} {mg : Str → Option Value} {base : Heap}

/-! ### _law_round -/
def sp_lq (K : PySem.W.Frag) : Sp := fun vs H Q _ => ∃ y ll np ab at_ tv L S, vs = [.ref y, .ref np, .ref y] ∧ YdL K H y ll L S ∧ Good S ∧ NetAt H np ab at_ tv S.net ∧ S.road.length ≤ 900000 ∧
  ∀ L' S' H', YdL K H' y ll L' S' → Good S' → S'.net = S.net → S'.road.length ≤ S.road.length → Fr ll H H' → Q .non H'
theorem sc_lq : FnScope ["yard", "net", "doer", "downs", "bridge", "letter"] ["yard", "net", "doer"] (defScope s_lq) := ⟨rfl, rfl, rfl, by decide +kernel, rfl, by decide +kernel, by decide +kernel⟩
theorem ok_lq (T : Tx K mg) : Cal P w K mg base 5 (He.fAd K ("_law_round", none)) ["yard", "net", "doer"] (sp_lq K) := by
  obtain ⟨fd, F⟩ := T.f_lq
  have GR := ok_Yr (P := P) (w := w) (base := base) T
  have GW := ok_Yw (P := P) (w := w) (base := base) T
  have GD := ok_Yd (P := P) (w := w) (base := base) T
  refine Cal.mk2 F sc_lq (fun _ _ _ _ _ _ us hl => match us, hl with | [_, _, _], _ => rfl) (fun vs H Q E h => ?_) (fun cdv A outer s H vs Q E hr h => ?_)
  · obtain ⟨y, ll, np, ab, at_, tv, L, S, rfl, _⟩ := h
    rfl
  · obtain ⟨y, ll, np, ab, at_, tv, L, S, rfl, hY, G, hN, hlen, q⟩ := h
    have hr1 : Room 1 _ := hr.mono (by decide)
    refine ⟨_, pss_cons (ps_set (i := 3) sc_lq.nd rfl (.inl rfl) (pe_ix ix_tup (pc_meth0 (pv 0) T.clY T.m_Yw GW hr1) pe_int (fun _ _ => rfl)))
      (pss_cons (ps_for PassesOwn.never rfl (pi_tup (pe_ix ix_tup (pv 1) pe_int (fun _ _ => rfl))) (pg_name (i := 4) sc_lq.nd rfl (.inl rfl))
        (pss_one (ps_if (pt_cmpR op_notIn_seq (pv 4) (pv 3) (by rfl)) (pss_one (ps_expr (pc_meth (pv 2) T.clY T.m_Yd GD hr (pa_cons (pe_tup (pa_cons pe_str (pa_cons (pv 4) pa_nil))) pa_nil)))) pss_nil)))
      (pss_one (ps_for PassesOwn.never rfl (pi_list (pc_meth0 (pv 0) T.clY T.m_Yr GR hr1)) (pg_name (i := 5) sc_lq.nd rfl (.inl rfl))
        (pss_one (ps_expr (pc_meth (pv 2) T.clY T.m_Yd GD hr (pa_cons (pe_tup (pa_cons pe_str (pa_cons pe_int pa_nil))) pa_nil))))))), ?_⟩
    refine ⟨_, rfl, y, L.dx, _, rfl, hY.ob, rfl, y, ll, L, S, rfl, hY, G, fun r b1 c1 bl cl H1 s1 er eb ec hbs hts => ⟨r, _, _, _, rfl, rfl, SqT.of er, rfl, ?_⟩⟩
    have hY1 := hY.same s1
    have hN1 := hN.keep (.of s1)
    obtain ⟨lv1, hl1, _⟩ := id hY1.road
    have h10 := G.net.ten
    refine ⟨_, rfl, np, _, _, _, rfl, rfl, SqT.of hN1.ob, rfl, ab, rfl, ⟨_, SqT.of hN1.bs⟩, for_tup (K := K) (a := ab) (xs := S.net.bs.map V.int) (fun i σ H2 => (∃ x4 x5, σ = [some (.ref y), some (.ref np), some (.ref y), some (.ref b1), x4, x5]) ∧ Fr ll H1 H2 ∧
        ∃ L2 S2, YdL K H2 y ll L2 S2 ∧ Good S2 ∧ S2.net = S.net ∧ S2.road.length ≤ S.road.length + 16 * i ∧ ∀ b, (S2.there b).isSome = (S.there b).isSome)
      ⟨⟨none, none, rfl⟩, .refl H1, L, S, hY1, G, rfl, Nat.le_refl _, fun _ => rfl⟩ (fun i σ H2 _ h => SqT.of (h.2.1.tup hl1 _ _ hN1.bs)) ?_ ?_⟩
    · rintro i v σ H2 hi ⟨⟨x4, x5, rfl⟩, fr, L2, S2, hY2, G2, hn2, hr2, ht2⟩
      obtain ⟨b, hb, rfl⟩ := map_at hi
      have hm := List.mem_of_getElem? hb
      have hlt : i < S.net.bs.length := (List.getElem?_eq_some_iff.mp hb).1
      have eb2 := fr.tup hl1 _ _ eb
      refine ⟨_, rfl, _, rfl, b1, _, rfl, .inr (SqT.of eb2), rfl, flat_ints _, _, rfl, ?_⟩
      show if (!inV (.int b) (bl.map V.int)) = true then _ else _
      rw [inV_ints]
      cases e : S.there b with
      | none =>
        rw [decide_eq_true ((hbs b).mpr ⟨hm, e⟩)]
        refine iteF ?_
        exact ⟨⟨_, _, rfl⟩, fr, L2, S2, hY2, G2, hn2, by omega, ht2⟩
      | some B =>
        have c : b ∉ bl := fun z => by
          have h := ((hbs b).mp z).2
          rw [e] at h; cases h
        rw [decide_eq_false c]
        refine iteT ?_
        obtain ⟨B2, hB2⟩ : ∃ B2, S2.there b = some B2 := Option.isSome_iff_exists.mp (by rw [ht2, e]; rfl)
        refine ⟨_, rfl, y, L2.dx, _, rfl, hY2.ob, rfl, _, rfl, (by show 2 ≤ sizeLine; decide), fun u hu => ?_⟩
        have s3 := same_new (o := .tup [.str "tick", .int b]) hu
        refine ⟨y, ll, L2, S2, .ref u, .tick b, rfl, hY2.same s3, G2, ⟨u, rfl, upd_same⟩, ⟨B2, hB2⟩, by omega, fun L3 S3 H3 hY3 G3 n3 p3 f3 => ?_⟩
        obtain ⟨p3a, p3b⟩ := p3
        exact ⟨⟨_, _, rfl⟩, (fr.trans (.of s3)).trans f3, L3, S3, hY3, G3, n3.trans hn2, by omega, fun d => (p3b d).trans (ht2 d)⟩
    · rintro σ H2 ⟨⟨x4, x5, rfl⟩, fr, L2, S2, hY2, G2, hn2, hr2, ht2⟩
      rw [List.length_map] at hr2
      obtain ⟨lv2, hl2, _⟩ := id hY2.road
      refine ⟨_, rfl, y, L2.dx, _, rfl, hY2.ob, rfl, y, ll, L2, S2, rfl, hY2, fun g xs hg hx => ?_⟩
      have s3 : Same H2 (upd H2 g (.lst xs)) := same_new hg
      have gll : g ≠ ll := fun z => by rw [z, hl2] at hg; cases hg
      refine ⟨g, rfl, ⟨_, SqL.of upd_same⟩, for_list (K := K) (a := g) (xs := xs) (fun i σ H4 => (∃ x4 x5, σ = [some (.ref y), some (.ref np), some (.ref y), some (.ref b1), x4, x5]) ∧ Fr ll (upd H2 g (.lst xs)) H4 ∧
          ∃ L4 S4, YdL K H4 y ll L4 S4 ∧ Good S4 ∧ S4.net = S.net ∧ S4.road.length + i = xs.length)
        ⟨⟨_, _, rfl⟩, .refl _, L2, S2, hY2.same s3, G2, hn2, hx.symm⟩ (fun i σ H4 _ h => SqL.of (h.2.1.lst upd_same gll)) ?_ ?_⟩
      · rintro i v σ H4 hi ⟨⟨x4, x5, rfl⟩, fr4, L4, S4, hY4, G4, hn4, hr4⟩
        have hil : i < xs.length := (List.getElem?_eq_some_iff.mp hi).1
        refine ⟨_, rfl, y, L4.dx, _, rfl, hY4.ob, rfl, (by show 2 ≤ sizeLine; decide), fun u hu => ?_⟩
        have s5 := same_new (o := .tup [.str "come", .int 0]) hu
        refine ⟨y, ll, L4, S4, .ref u, .come 0, rfl, hY4.same s5, G4, ⟨u, rfl, upd_same⟩, ⟨by decide, by omega⟩, by omega, fun L5 S5 H5 hY5 G5 n5 p5 f5 => ?_⟩
        have p5' : S5.road.length + 1 = S4.road.length := p5
        exact ⟨⟨_, _, rfl⟩, (fr4.trans (.of s5)).trans f5, L5, S5, hY5, G5, n5.trans hn4, by omega⟩
      · rintro σ H4 ⟨⟨x4, x5, rfl⟩, fr4, L4, S4, hY4, G4, hn4, hr4⟩
        exact q L4 S4 H4 hY4 G4 hn4 (by omega) ((((Fr.of s1).trans fr).trans (.of s3)).trans fr4)

/-! ### _law_moved -/
def sp_lm (K : PySem.W.Frag) : Sp := fun vs H Q _ => ∃ p y ll np ab at_ tv L S, vs = [.ref p, .ref y, .ref np, .ref y] ∧ RowOk H p ∧ p ≠ ll ∧ YdL K H y ll L S ∧ Good S ∧ NetAt H np ab at_ tv S.net ∧ S.road.length ≤ 800000 ∧
  ∀ L' S' H', YdL K H' y ll L' S' → Good S' → S'.net = S.net → S'.road.length ≤ S.road.length + 64 → Fq p ll H H' → Q .non H'
theorem sc_lm : FnScope ["row", "yard", "net", "doer", "k"] ["row", "yard", "net", "doer"] (defScope s_lm) := ⟨rfl, rfl, rfl, by decide +kernel, rfl, by decide +kernel, by decide +kernel⟩
theorem post16 {S S' : Yd} {d : Deed} (h : Post S S' d) : S'.road.length ≤ S.road.length + 16 := by
  cases d with
  | tick b => exact h.1
  | come k =>
    have h' : S'.road.length + 1 = S.road.length := h
    omega
  | lost k =>
    have h' : S'.road.length + 1 = S.road.length := h
    omega
  | fallB b =>
    have h' : S'.road = S.road := h
    rw [h']; omega
  | backB b =>
    have h' : S'.road = S.road := h
    rw [h']; omega
  | fallT b =>
    have h' : S'.road = S.road := h
    rw [h']; omega
  | backT b =>
    have h' : S'.road = S.road := h
    rw [h']; omega
theorem ok_lm (T : Tx K mg) : Cal P w K mg base 6 (He.fAd K ("_law_moved", none)) ["row", "yard", "net", "doer"] (sp_lm K) := by
  obtain ⟨fd, F⟩ := T.f_lm
  have GT := ok_lt (P := P) (w := w) (base := base) T
  have GQ := ok_lq (P := P) (w := w) (base := base) T
  have GD := ok_Yd (P := P) (w := w) (base := base) T
  have GL := ok_ld (P := P) (w := w) (base := base) T
  refine Cal.mk2 F sc_lm (fun _ _ _ _ _ _ us hl => match us, hl with | [_, _, _, _], _ => rfl) (fun vs H Q E h => ?_) (fun cdv A outer s H vs Q E hr h => ?_)
  · obtain ⟨p, y, ll, np, ab, at_, tv, L, S, rfl, _⟩ := h
    rfl
  · obtain ⟨p, y, ll, np, ab, at_, tv, L, S, rfl, row, pll, hY, G, hN, hlen, q⟩ := h
    have hr1 : Room 1 _ := hr.mono (by decide)
    have hr3 : Room 3 _ := hr.mono (by decide)
    have hr4 : Room 4 _ := hr.mono (by decide)
    refine ⟨_, pss_cons (ps_if (pt_cmpR op_eq (pc_call GT hr1 rfl T.g_lt (pa_cons (pv 0) (pa_cons pe_int pa_nil))) pe_int (nomark _))
        (pss_cons (ps_for PassesOwn.never rfl (pi_range1 (by rfl) T.z_range (pa_cons (pe_op op_add pe_int (pc_call GT hr1 rfl T.g_lt (pa_cons (pv 0) (pa_cons pe_int pa_nil)))) pa_nil)) (pg_name (i := 4) sc_lm.nd rfl (.inl rfl))
          (pss_one (ps_expr (pc_call GQ hr rfl T.g_lq (pa_cons (pv 1) (pa_cons (pv 2) (pa_cons (pv 3) pa_nil)))))))
        (pss_one ps_retN)) pss_nil)
      (pss_one (ps_for PassesOwn.never rfl (pi_range1 (by rfl) T.z_range (pa_cons (pe_op op_add pe_int (pc_call GT hr1 rfl T.g_lt (pa_cons (pv 0) (pa_cons pe_int pa_nil)))) pa_nil)) (pg_name (i := 4) sc_lm.nd rfl (.inl rfl))
        (pss_one (ps_expr (pc_meth (pv 3) T.clY T.m_Yd GD hr4 (pa_cons (pc_call GL hr3 rfl T.g_ld (pa_cons (pv 0) (pa_cons (pv 1) (pa_cons (pv 2) pa_nil)))) pa_nil)))))), ?_⟩
    refine ⟨_, rfl, p, 3, rfl, row, by decide, by decide, fun t1 H1 t10 t11 c1 => ⟨rfl, _, rfl, ?_⟩⟩
    have hY1 := hY.keep (c1.yk row pll)
    have hN1 := hN.keep (c1.tup row)
    rw [dec_int, int_beq]
    by_cases c : t1 = 0
    · rw [decide_eq_true c]
      refine iteT ?_
      refine ⟨_, rfl, p, 3, rfl, c1.2, by decide, by decide, fun t2 H2 t20 t21 c2 => ⟨1, t2, rfl, rfl, 1 + t2, rfl, by omega, by omega, ?_⟩⟩
      have hY2 := hY1.keep (c2.yk c1.2 pll)
      have hN2 := hN1.keep (c2.tup c1.2)
      obtain ⟨lv2, hl2, _⟩ := id hY2.road
      have q2 : Fq p ll H H2 := (Fq.rc c1).trans (Fq.rc c2)
      refine for_range (fun i σ H3 => (∃ x4, σ = [some (.ref p), some (.ref y), some (.ref np), some (.ref y), x4]) ∧ Fr ll H2 H3 ∧ ∃ L3 S3, YdL K H3 y ll L3 S3 ∧ Good S3 ∧ S3.net = S.net ∧ S3.road.length ≤ S.road.length)
        ⟨⟨none, rfl⟩, .refl H2, L, S, hY2, G, rfl, Nat.le_refl _⟩ ?_ ?_
      · rintro i σ H3 hi ⟨⟨x4, rfl⟩, fr, L3, S3, hY3, G3, hn3, hr3'⟩
        refine ⟨_, rfl, _, rfl, _, rfl, y, ll, np, ab, at_, tv, L3, S3, rfl, hY3, G3, hn3 ▸ hN2.keep (fr.tup hl2), by omega, fun L4 S4 H4 hY4 G4 n4 r4 f4 => ?_⟩
        exact ⟨⟨_, rfl⟩, fr.trans f4, L4, S4, hY4, G4, n4.trans hn3, by omega⟩
      · rintro σ H3 ⟨⟨x4, rfl⟩, fr, L3, S3, hY3, G3, hn3, hr3'⟩
        exact q L3 S3 H3 hY3 G3 hn3 (by omega) (q2.trans (Fq.fr fr))
    · rw [decide_eq_false c]
      refine iteF ?_
      refine ⟨_, rfl, p, 4, rfl, c1.2, by decide, by decide, fun t2 H2 t20 t21 c2 => ⟨1, t2, rfl, rfl, 1 + t2, rfl, by omega, by omega, ?_⟩⟩
      have hY2 := hY1.keep (c2.yk c1.2 pll)
      have hN2 := hN1.keep (c2.tup c1.2)
      obtain ⟨lv2, hl2, _⟩ := id hY2.road
      have q2 : Fq p ll H H2 := (Fq.rc c1).trans (Fq.rc c2)
      refine for_range (fun i σ H3 => (∃ x4, σ = [some (.ref p), some (.ref y), some (.ref np), some (.ref y), x4]) ∧ Fq p ll H2 H3 ∧ RowOk H3 p ∧ ∃ L3 S3, YdL K H3 y ll L3 S3 ∧ Good S3 ∧ S3.net = S.net ∧ S3.road.length ≤ S.road.length + 16 * i)
        ⟨⟨none, rfl⟩, .refl H2, c2.2, L, S, hY2, G, rfl, Nat.le_refl _⟩ ?_ ?_
      · rintro i σ H3 hi ⟨⟨x4, rfl⟩, fq, row3, L3, S3, hY3, G3, hn3, hr3'⟩
        have hN3 := hN2.keep (fq.tup c2.2 hl2)
        refine ⟨_, rfl, y, L3.dx, _, rfl, hY3.ob, rfl, _, rfl, _, rfl, _, rfl, p, y, ll, np, ab, at_, tv, L3, S3, rfl, row3, pll, hY3, G3, hn3 ▸ hN3, by omega, fun v d H4 c4 hv hcan => ?_⟩
        have hY4 := hY3.keep (c4.yk row3 pll)
        refine ⟨y, ll, L3, S3, v, d, rfl, hY4, G3, hv, hcan, by omega, fun L5 S5 H5 hY5 G5 n5 p5 f5 => ?_⟩
        have h16 := post16 p5
        exact ⟨⟨_, rfl⟩, (fq.trans (Fq.rc c4)).trans (Fq.fr f5), c4.2.fr f5 pll, L5, S5, hY5, G5, n5.trans hn3, by omega⟩
      · rintro σ H3 ⟨⟨x4, rfl⟩, fq, row3, L3, S3, hY3, G3, hn3, hr3'⟩
        exact q L3 S3 H3 hY3 G3 hn3 (by omega) (q2.trans fq)

/-! ### _law_made -/
def sp_la (K : PySem.W.Frag) : Sp := fun vs H Q _ => ∃ (a : Addr) (ns : List Int), vs = [.ref a] ∧ SqL K H a (ns.map V.int) ∧
  ∀ r p np ab at_ tv y ll L S H', H' r = some (.tup [.ref p, .ref np, .ref y]) → YdL K H' y ll L S → Good S → S.road = [] → NetAt H' np ab at_ tv S.net → H ll = none → Fr ll H H' → Q (.ref r) H'
theorem sc_la : FnScope ["script", "row", "net"] ["script"] (defScope s_la) := ⟨rfl, rfl, rfl, by decide +kernel, rfl, by decide +kernel, by decide +kernel⟩
theorem ok_la (T : Tx K mg) : Cal P w K mg base 5 (He.fAd K ("_law_made", none)) ["script"] (sp_la K) := by
  obtain ⟨fd, F⟩ := T.f_la
  have GT := ok_lt (P := P) (w := w) (base := base) T
  have GC := ok_lc (P := P) (w := w) (base := base) T
  have GR := ok_lr (P := P) (w := w) (base := base) T
  have GN := ok_ln (P := P) (w := w) (base := base) T
  have GI := ok_Yi (P := P) (w := w) (base := base) T
  refine Cal.mk2 F sc_la (fun _ _ _ _ _ _ us hl => match us, hl with | [_], _ => rfl) (fun vs H Q E h => ?_) (fun cdv A outer s H vs Q E hr h => ?_)
  · obtain ⟨a, ns, rfl, _⟩ := h
    rfl
  · obtain ⟨a, ns, rfl, hS, q⟩ := h
    have hr1 : Room 1 _ := hr.mono (by decide)
    refine ⟨_, pss_cons (ps_set (i := 1) sc_la.nd rfl (.inl rfl) (pc_call GR hr1 rfl T.g_lr (pa_cons (pc_call GC hr1 rfl T.g_lc (pa_cons (pv 0) (pa_cons pe_int pa_nil))) pa_nil)))
      (pss_cons (ps_set (i := 2) sc_la.nd rfl (.inl rfl) (pc_call GN hr rfl T.g_ln (pa_cons (pv 1) pa_nil)))
      (pss_one (ps_ret (pe_tup (pa_cons (pv 1) (pa_cons (pv 2) (pa_cons (pc_make T.mkY GI hr rfl T.mgY (pa_cons (pv 2) (pa_cons (pe_op op_add pe_int (pc_call GT hr1 rfl T.g_lt (pa_cons (pv 1) (pa_cons pe_int pa_nil)))) pa_nil))) pa_nil))))))), ?_⟩
    refine ⟨_, rfl, a, ns, 0, rfl, hS, by decide, fun c => ⟨c, rfl, fun p H1 s1 hp row1 => ?_⟩⟩
    refine ⟨_, rfl, p, rfl, row1, fun np ab at_ tv N H2 c2 hN ok => ?_⟩
    refine ⟨_, rfl, _, rfl, _, rfl, _, rfl, p, 57, rfl, c2.2, by decide, by decide, fun t H3 t0 t1 c3 => ⟨4, t, rfl, rfl, fun x dx hx hdx nxd => ?_⟩⟩
    have C3 := c2.trans c3
    have hN3 := hN.keep (c3.tup c2.2)
    have s4 : Same H3 (upd (upd H3 dx (.own x)) x (.ins (CY K) dx [])) := (same_new hdx).trans (same_new (by rw [upd_ne (Ne.symm nxd)]; exact hx))
    have old : ∀ b o, H b = some o → H3 b = some o := fun b o e => C3.1 b o (s1 b o e) (ne_of_none e hp)
    refine ⟨x, dx, np, ab, at_, tv, N, 4 + t, rfl, upd_same, hN3.keep (.of s4), ok, fun ll L S H5 hY5 G5 n5 r5 hll f5 => ⟨rfl, ?_⟩⟩
    refine ⟨(by show 3 ≤ sizeLine; decide), fun r hr' => ?_⟩
    have s6 := same_new (o := .tup [.ref p, .ref np, .ref x]) hr'
    obtain ⟨lv5, hl5, _⟩ := id hY5.road
    have hll3 : H3 ll = none := (upd_none (upd_none hll).2).2
    have hllH : H ll = none := by
      cases e : H ll with
      | none => rfl
      | some o => rw [old _ _ e] at hll3; cases hll3
    have t5 : TupK (upd (upd H3 dx (.own x)) x (.ins (CY K) dx [])) H5 := fun b xs e => f5 b _ e (fun z => by rw [z, hll] at e; cases e) (fun k z => by cases z) fun C dx fs z => by cases z
    have hN5 : NetAt H5 np ab at_ tv S.net := n5 ▸ (hN3.keep (.of s4)).keep t5
    refine q r p np ab at_ tv x ll L S _ upd_same (hY5.same s6) G5 r5 (hN5.keep (.of s6)) hllH fun b o e n d i => s6 _ _ (f5 b o (s4 _ _ (old b o e)) n d i)
end
end Sw

set_option Elab.async false
set_option linter.all false
set_option maxRecDepth 100000
/-! Sw: what the law asks of the parts. Plain Lean, no program in sight. -/
namespace Sw
structure PartOk (W : List Way) (b : Int) (A B : List Int) : Prop where
  ra : A.Pairwise (· < ·)
  rb : B.Pairwise (· < ·)
  part : Part W b A
  mem : ∀ p, p ∈ B ↔ ∃ w, w ∈ W ∧ w.pl = p ∧ w.ch ∈ A
  len : B.length + 1 = A.length
  few : A.length ≤ 10
theorem Part.perm {W : List Way} {b : Int} {s t : List Int} (h : Part W b s) (e : ∀ x, x ∈ t ↔ x ∈ s) : Part W b t :=
  ⟨(e b).mpr h.has, fun w hw => by rw [e, e]; exact h.both w hw, fun P hb hP x hx => h.least P hb hP x ((e x).mp hx)⟩
theorem perm_rise {l m : List Int} (h : l.Perm m) (n : m.Nodup) (r : l.Pairwise (· ≤ ·)) : l.Pairwise (· < ·) := rise_of r (h.nodup_iff.mpr n)
/-- the two sorted lists of a part -/
theorem Sent.ok {W : List Way} (F : Forest W) {b : Int} {told : Told} (S : Sent W b told.length told) {A B : List Int} (ha : A.Perm (told.map (·.1))) (ra : A.Pairwise (· ≤ ·)) (hb : B.Perm (plsOf told)) (rb : B.Pairwise (· ≤ ·)) (hl : told.length ≤ 10) : PartOk W b A B := by
  refine ⟨perm_rise ha S.tree.nd ra, perm_rise hb (S.tree.pls_nd F) rb, (S.part F).perm fun x => ha.mem_iff, fun p => ?_, ?_, by have e2 := ha.length_eq; rw [List.length_map] at e2; omega⟩
  · rw [hb.mem_iff, S.pls F p]
    exact ⟨fun ⟨w, h1, h2, h3⟩ => ⟨w, h1, h2, ha.mem_iff.mpr h3⟩, fun ⟨w, h1, h2, h3⟩ => ⟨w, h1, h2, ha.mem_iff.mp h3⟩⟩
  · have h := S.tree.pls_len F
    have e1 := hb.length_eq
    have e2 := ha.length_eq
    rw [List.length_map] at e2
    omega
/-- told twice, the same -/
theorem Sent.same {W : List Way} (F : Forest W) {b : Int} {told told' : Told} (S : Sent W b told.length told) (S' : Sent W b told'.length told') {A A' : List Int} (ha : A.Perm (told.map (·.1))) (ra : A.Pairwise (· ≤ ·)) (ha' : A'.Perm (told'.map (·.1))) (ra' : A'.Pairwise (· ≤ ·)) : A = A' := by
  refine rise_ext (perm_rise ha S.tree.nd ra) (perm_rise ha' S'.tree.nd ra') fun x => ?_
  have P1 := (S.part F).perm (t := A) fun x => ha.mem_iff
  have P2 := (S'.part F).perm (t := A') fun x => ha'.mem_iff
  exact (P1.meet P2 P1.has P2.has).2 x
theorem PartOk.same {W : List Way} {b c x : Int} {A B A' B' : List Int} (h : PartOk W b A B) (g : PartOk W c A' B') (h1 : x ∈ A) (h2 : x ∈ A') : A = A' ∧ B = B' := by
  have e := (h.part.meet g.part h1 h2).2
  have ea : A = A' := rise_ext h.ra g.ra e
  refine ⟨ea, rise_ext h.rb g.rb fun p => ?_⟩
  rw [h.mem, g.mem, ea]
theorem rise_sub {W : List Way} (h : (W.map Way.pl).Pairwise (· < ·)) (f : Way → Bool) : ((W.filter f).map Way.pl).Pairwise (· < ·) :=
  List.Pairwise.sublist (List.Sublist.map _ List.filter_sublist) h
theorem PartOk.ties1 {W : List Way} (F : Forest W) {b : Int} {A B : List Int} (h : PartOk W b A B) : B = (W.filter fun w => decide (w.ch ∈ A)).map Way.pl := by
  refine rise_ext h.rb (rise_sub F.pls _) fun p => ?_
  rw [h.mem, List.mem_map]
  constructor
  · rintro ⟨w, h1, h2, h3⟩
    exact ⟨w, List.mem_filter.mpr ⟨h1, decide_eq_true h3⟩, h2⟩
  · rintro ⟨w, h1, h2⟩
    obtain ⟨h3, h4⟩ := List.mem_filter.mp h1
    exact ⟨w, h3, h2, of_decide_eq_true h4⟩
theorem PartOk.ties2 {W : List Way} (F : Forest W) {b : Int} {A B : List Int} (h : PartOk W b A B) : B = (W.filter fun w => decide (w.pa ∈ A)).map Way.pl := by
  refine rise_ext h.rb (rise_sub F.pls _) fun p => ?_
  rw [h.mem, List.mem_map]
  constructor
  · rintro ⟨w, h1, h2, h3⟩
    exact ⟨w, List.mem_filter.mpr ⟨h1, decide_eq_true ((h.part.both w h1).mp h3)⟩, h2⟩
  · rintro ⟨w, h1, h2⟩
    obtain ⟨h3, h4⟩ := List.mem_filter.mp h1
    exact ⟨w, h3, h2, (h.part.both w h3).mpr (of_decide_eq_true h4)⟩
/-- what is common to two parts -/
theorem PartOk.both {W : List Way} {b c : Int} {A B A' B' : List Int} (h : PartOk W b A B) (g : PartOk W c A' B') : (A.filter (fun x => decide (x ∈ A')) ≠ [] → A = A' ∧ B = B') ∧ (c ∈ A ↔ A.filter (fun x => decide (x ∈ A')) ≠ []) := by
  have key : A.filter (fun x => decide (x ∈ A')) ≠ [] → ∃ x, x ∈ A ∧ x ∈ A' := fun ne => by
    obtain ⟨x, hx⟩ := List.exists_mem_of_ne_nil _ ne
    obtain ⟨h1, h2⟩ := List.mem_filter.mp hx
    exact ⟨x, h1, of_decide_eq_true h2⟩
  refine ⟨fun ne => ?_, fun hc e => ?_, fun ne => ?_⟩
  · obtain ⟨x, h1, h2⟩ := key ne
    exact h.same g h1 h2
  · have hm : c ∈ A.filter (fun x => decide (x ∈ A')) := List.mem_filter.mpr ⟨hc, decide_eq_true g.part.has⟩
    rw [e] at hm; cases hm
  · obtain ⟨x, h1, h2⟩ := key ne
    rw [(h.same g h1 h2).1]
    exact g.part.has
/-- the places by which the told came -/
theorem Tree.tail {W : List Way} {b : Int} {n : Nat} {told : Told} (T : Tree W b n told) : ∃ r, told = (b, none) :: r ∧ ∀ x, x ∈ r → ∃ p, x.2 = some p := by
  cases told with
  | nil => have h := T.hd; simp at h
  | cons x r =>
    have h := T.hd
    simp at h
    subst h
    refine ⟨r, rfl, fun x hx => ?_⟩
    obtain ⟨j, hj⟩ := List.getElem?_of_mem hx
    obtain ⟨o, cm⟩ := x
    rcases T.came (j + 1) o cm (by simpa using hj) with e | ⟨p, _, _, _, e, _⟩
    · omega
    · exact ⟨p, e⟩
theorem pls_map : ∀ {r : Told}, (∀ x, x ∈ r → ∃ p, x.2 = some p) → plsOf r = r.map fun x => x.2.getD 0
  | [], _ => rfl
  | x :: r, h => by
    obtain ⟨p, e⟩ := h x List.mem_cons_self
    have ih := pls_map (r := r) fun y hy => h y (List.mem_cons_of_mem _ hy)
    unfold plsOf at ih ⊢
    rw [List.filterMap_cons, e, List.map_cons, ih, e]
    rfl
end Sw

set_option Elab.async false
set_option linter.all false
set_option maxRecDepth 100000
set_option maxHeartbeats 8000000
/-! Sw: the walk of the law's test. -/
namespace Sw
open PySem PySem.Spec PyProof.Rows L2

/-! ### data: pairs of lists -/
def pairD (A B : List Int) : PyData := .tuple [.list (A.map PyData.int), .list (B.map PyData.int)]
theorem shaped_pair (A B : List Int) : SeqAt.shaped (pairD A B) = true := by
  unfold SeqAt.shaped pairD
  rw [Bool.and_eq_true]
  refine ⟨by simp [PyData.canLay0, PyData.canLayAll0, canAll_ints], decide_eq_true ?_⟩
  simp [PyData.depth, PyData.depthAll, depAll_ints]
theorem eqv_pair (A B : List Int) : PyData.eqv (pairD A B) (pairD A B) = true := by
  have h1 : PyData.eqvAll (A.map PyData.int) (A.map PyData.int) = true := by rw [eqvAll_ints]; exact decide_eq_true rfl
  have h2 : PyData.eqvAll (B.map PyData.int) (B.map PyData.int) = true := by rw [eqvAll_ints]; exact decide_eq_true rfl
  simp only [pairD, PyData.eqv, PyData.eqvAll, h1, h2, Bool.and_self]
def PartV (H : Hp) (W : List Way) (b : Int) (v : V) : Prop := ∃ u la lb A B, v = .ref u ∧ H u = some (.tup [.ref la, .ref lb]) ∧ H la = some (.lst (A.map V.int)) ∧ H lb = some (.lst (B.map V.int)) ∧ PartOk W b A B
theorem PartV.keep {H H' : Hp} {W : List Way} {b : Int} {v : V} {D : Addr} {k : List (Key × V)} (h : PartV H W b v) (hD : H D = some (.dK k)) (s : ∀ c o, H c = some o → c ≠ D → H' c = some o) : PartV H' W b v := by
  obtain ⟨u, la, lb, A, B, e, h1, h2, h3, h4⟩ := h
  exact ⟨u, la, lb, A, B, e, s _ _ h1 (ne_of h1 hD (by intro z; cases z)), s _ _ h2 (ne_of h2 hD (by intro z; cases z)), s _ _ h3 (ne_of h3 hD (by intro z; cases z)), h4⟩
theorem cut_from1 {x : V} {xs : List V} : cutV (x :: xs) (some 1) none = xs := by
  have e : HT.sIx (x :: xs).length 0 (some 1) = 1 := by
    have h := HT.sIx_nat (x :: xs).length 0 1
    rw [show ((1 : Nat) : Int) = 1 from rfl] at h
    rw [h, List.length_cons]
    omega
  unfold cutV
  rw [e, HT.sIx_none, List.length_cons, Nat.add_sub_cancel]
  show List.take xs.length xs = xs
  rw [List.take_length]
section
variable {P : Program} {w : World} {K : PySem.W.Frag} {mg : Str → Option Value} {base : Heap}
def sp_lg (K : PySem.W.Frag) : Sp := fun vs H Q _ => ∃ y ll np ab at_ tv L S, vs = [.ref y, .ref np] ∧ YdL K H y ll L S ∧ Good S ∧ NetAt H np ab at_ tv S.net ∧ ∀ H', Same H H' → Q (.bl true) H'
theorem sc_lg : FnScope ["yard", "net", "parts", "bridge", "told", "some", "ways", "ties", "other", "both", "one", "way"] ["yard", "net"] (defScope s_lg) := ⟨rfl, rfl, rfl, by decide +kernel, rfl, by decide +kernel, by decide +kernel⟩
abbrev NLg : List Str := ["yard", "net", "parts", "bridge", "told", "some", "ways", "ties", "other", "both", "one", "way"]
theorem ok_lg (T : Tx K mg) : Cal P w K mg base 8 (He.fAd K ("_law_right", none)) ["yard", "net"] (sp_lg K) := by
  obtain ⟨fd, F⟩ := T.f_lg
  have GW := ok_Yw (P := P) (w := w) (base := base) T
  have GC := ok_ca (P := P) (w := w) (base := base) T
  have GP := ok_po (P := P) (w := w) (base := base) T
  have GO := ok_ow (P := P) (w := w) (base := base) T
  refine Cal.mk2 F sc_lg (fun _ _ _ _ _ _ us hl => match us, hl with | [_, _], _ => rfl) (fun vs H Q E h => ?_) (fun cdv A outer s H vs Q E hr h => ?_)
  · obtain ⟨y, ll, np, ab, at_, tv, L, S, rfl, _⟩ := h
    rfl
  · obtain ⟨y, ll, np, ab, at_, tv, L, S, rfl, hY, G, hN, q⟩ := h
    have hu := hu_of hr
    have hr1 : Room 1 _ := hr.mono (by decide)
    have hr4 : Room 4 _ := hr.mono (by decide)
    have hr6 : Room 6 _ := hr.mono (by decide)
    have FO := G.forest
    refine ⟨_, pss_cons (ps_set (i := 2) sc_lg.nd rfl (.inr rfl) pe_dnewK)
      (pss_cons (ps_for PassesOwn.never rfl (pi_tup (pe_ix ix_tup (pv 1) pe_int (fun _ _ => rfl))) (pg_name (i := 3) sc_lg.nd rfl (.inl rfl))
        (pss_one (ps_if (pt_cmpR op_notIn_seq (pv 3) (pe_ix ix_tup (pc_meth0 (pv 0) T.clY T.m_Yw GW hr1) pe_int (fun _ _ => rfl)) (by rfl))
          (pss_cons (ps_set (i := 4) sc_lg.nd rfl (.inl rfl) (pc_call GC hr6 rfl T.g_ca (pa_cons (pv 0) (pa_cons (pv 3) pa_nil))))
          (pss_cons (ps_set (i := 5) sc_lg.nd rfl (.inr rfl) (pe_lc (own := [("one", 10)]) (g := gName 10) rfl sc_lg.nd (pi_list (pv 4)) (blkOk_by (own := [("one", 10)]) (N := NLg) (sc := defScope s_lg) (by decide +kernel))
              (fun _ _ _ _ _ => pg_name (i := 10) sc_lg.nd rfl (.inl rfl)) (fun _ _ _ _ _ => pts_nil) (fun _ _ _ _ _ => pe_ix (ix_tupK (K' := K) (by rfl)) (pv 10) pe_int (fun _ _ => rfl))))
          (pss_cons (ps_if (PW.pt (pw_or (pt_cmpR op_ne (pe_lenSetI rfl (by rfl) T.z_len (by rfl) T.z_set (pv 5)) (pe_callB call_len_seq (by rfl) T.z_len PySem.boot_len (pa_cons (pv 5) pa_nil)) (nomark _))
              (pw_or (pt_cmpR (op_neD hr.units) (pe_callB cr_sorted (by rfl) T.z_sorted boot_sorted (pa_cons (pv 5) pa_nil)) (pc_call GP hr rfl T.g_po (pa_cons (pv 0) (pa_cons (pv 3) pa_nil))) (nomark _))
                (pw_or1 (pt_cmpR op_notIn_seq (pv 3) (pv 5) (by rfl)))))) (pss_one ps_no2) pss_nil)
          (pss_one (ps_dput hu (pv 2) (pv 3) (pe_tup (pa_cons (pe_callB cr_sorted (by rfl) T.z_sorted boot_sorted (pa_cons (pv 5) pa_nil))
            (pa_cons (pe_callB cr_sorted (by rfl) T.z_sorted boot_sorted (pa_cons (pe_lc (own := [("one", 10)]) (g := gName 10) rfl sc_lg.nd (pi_list (pe_slice sl_list (pv 4) (po_some pe_int) po_none)) (blkOk_by (own := [("one", 10)]) (N := NLg) (sc := defScope s_lg) (by decide +kernel))
              (fun _ _ _ _ _ => pg_name (i := 10) sc_lg.nd rfl (.inl rfl)) (fun _ _ _ _ _ => pts_nil) (fun _ _ _ _ _ => pe_ix (ix_tupK (K' := K) (by rfl)) (pv 10) pe_int (fun _ _ => rfl))) pa_nil)) pa_nil))) rfl))))) pss_nil)))
      (pss_cons (ps_set (i := 6) sc_lg.nd rfl (.inl rfl) (pc_call GO hr4 rfl T.g_ow (pa_cons (pv 0) pa_nil)))
      (pss_cons (ps_lock (ps_for PassesOwn.never rfl (pi_keys (pv 2)) (pg_name (i := 3) sc_lg.nd rfl (.inl rfl))
        (pss_cons (ps_asg (pe_dget hu (pv 2) (pv 3) (fun _ _ => rfl)) (pg_tup rfl (pgs_cons (pg_name (i := 5) sc_lg.nd rfl (.inr rfl)) (pgs_cons (pg_name (i := 7) sc_lg.nd rfl (.inl rfl)) pgs_nil))))
        (pss_cons (ps_if (PW.pt (pw_or (pt_cmpR (op_neD hr.units) (pv 7) (pe_lc (own := [("way", 11)]) (g := gName 11) rfl sc_lg.nd (pi_list (pv 6)) (blkOk_by (own := [("way", 11)]) (N := NLg) (sc := defScope s_lg) (by decide +kernel))
              (fun _ _ _ _ _ => pg_name (i := 11) sc_lg.nd rfl (.inl rfl)) (fun _ _ _ _ _ => pts_one (pt_cmpR (op_in_seqK (K' := K) (by rfl)) (pe_ix (ix_tupK (K' := K) (by rfl)) (pv 11) pe_int (fun _ _ => rfl)) (pv 5) (by rfl))) (fun _ _ _ _ _ => pe_ix (ix_tupK (K' := K) (by rfl)) (pv 11) pe_int (fun _ _ => rfl))) (nomark _))
            (pw_or1 (pt_cmpR (op_neD hr.units) (pv 7) (pe_lc (own := [("way", 11)]) (g := gName 11) rfl sc_lg.nd (pi_list (pv 6)) (blkOk_by (own := [("way", 11)]) (N := NLg) (sc := defScope s_lg) (by decide +kernel))
              (fun _ _ _ _ _ => pg_name (i := 11) sc_lg.nd rfl (.inl rfl)) (fun _ _ _ _ _ => pts_one (pt_cmpR (op_in_seqK (K' := K) (by rfl)) (pe_ix (ix_tupK (K' := K) (by rfl)) (pv 11) pe_int (fun _ _ => rfl)) (pv 5) (by rfl))) (fun _ _ _ _ _ => pe_ix (ix_tupK (K' := K) (by rfl)) (pv 11) pe_int (fun _ _ => rfl))) (nomark _))))) (pss_one ps_no2) pss_nil)
        (pss_cons (ps_if (pt_cmpR op_ne (pe_callB call_len_seq (by rfl) T.z_len PySem.boot_len (pa_cons (pv 7) pa_nil)) (pe_op op_sub (pe_callB call_len_seq (by rfl) T.z_len PySem.boot_len (pa_cons (pv 5) pa_nil)) pe_int) (nomark _)) (pss_one ps_no2) pss_nil)
        (pss_one (ps_for PassesOwn.never rfl (pi_keys (pv 2)) (pg_name (i := 8) sc_lg.nd rfl (.inr rfl))
          (pss_cons (ps_setLc (i := 9) (own := [("one", 10)]) (g := gName 10) rfl sc_lg.nd rfl rfl (sw_true rfl rfl rfl (by decide +kernel)) (pi_list (pv 5)) (blkOk_by (own := [("one", 10)]) (N := NLg) (sc := defScope s_lg) (by decide +kernel))
              (fun _ _ _ _ _ => pg_name (i := 10) sc_lg.nd rfl (.inl rfl)) (fun _ _ _ _ _ => pts_one (pt_cmpR (op_in_seqK (K' := K) (by rfl)) (pv 10) (pe_ix (ix_tupK (K' := K) (by rfl)) (pe_dget hu (pv 2) (pv 8) (fun _ _ => rfl)) pe_int (fun _ _ => rfl)) (by rfl))) (fun _ _ _ _ _ => pv 10))
          (pss_one (ps_if (PW.pt (pw_or (PW.pt (pw_and (pt_cmpR (op_neD hr.units) (pv 9) (pe_lst pa_nil) (nomark _)) (pw_and1 (pt_cmpR (op_neD hr.units) (pe_dget hu (pv 2) (pv 8) (fun _ _ => rfl)) (pe_dget hu (pv 2) (pv 3) (fun _ _ => rfl)) (nomark _)))))
            (pw_or1 (pt_cmpR op_ne (pe_cmpR op_in_seq (pv 8) (pv 5) (by rfl)) (pe_cmpR (op_neD hr.units) (pv 9) (pe_lst pa_nil) (nomark _)) (nomark _))))) (pss_one ps_no2) pss_nil))))))))))
      (pss_one (ps_ret pe_bl))))), ?_⟩
    intro D hD
    have s1 : Same H (upd H D (.dK [])) := same_new hD
    have hN1 := hN.keep (.of s1)
    refine ⟨_, rfl, np, _, _, _, rfl, rfl, SqT.of hN1.ob, rfl, ab, rfl, ⟨_, SqT.of hN1.bs⟩, for_tup (K := K) (a := ab) (xs := S.net.bs.map V.int) (fun i σ H1 => (∃ x3 x4 x5, σ = [some (.ref y), some (.ref np), some (.ref D), x3, x4, x5, none, none, none, none, none, none]) ∧ Same H H1 ∧
        ∃ kvs m, H1 D = some (.dK kvs) ∧ MapAt (fun b v (_ : Unit) => PartV H1 (waysOf S) b v) kvs m ∧ kvs.length ≤ i)
      ⟨⟨none, none, none, rfl⟩, s1, [], fun _ => none, upd_same, MapAt.empty, Nat.le_refl _⟩ (fun i σ H1 _ h => SqT.of (h.2.1 _ _ hN.bs)) ?_ ?_⟩
    · rintro i v σ H1 hi ⟨⟨x3, x4, x5, rfl⟩, sH, kvs, m, hDk, mk, hlen⟩
      obtain ⟨b, hb, rfl⟩ := map_at hi
      have hm := List.mem_of_getElem? hb
      have hlt : i < S.net.bs.length := (List.getElem?_eq_some_iff.mp hb).1
      have h10 := G.net.ten
      have hY1 := hY.same sH
      refine ⟨_, rfl, _, rfl, y, L.dx, _, rfl, hY1.ob, rfl, y, ll, L, S, rfl, hY1, G, fun r b1 c1 bl cl H2 s2 er eb ec hbs hts => ⟨r, _, _, _, rfl, rfl, SqT.of er, rfl, b1, _, rfl, .inr (SqT.of eb), rfl, flat_ints _, _, rfl, ?_⟩⟩
      show if (!inV (.int b) (bl.map V.int)) = true then _ else _
      rw [inV_ints]
      have sk : ∀ {Hx : Hp}, Same H1 Hx → MapAt (fun b v (_ : Unit) => PartV Hx (waysOf S) b v) kvs m := fun sx => mk.imp fun c v _ _ r => r.keep hDk fun a o e _ => sx a o e
      cases e : S.there b with
      | none =>
        rw [decide_eq_true ((hbs b).mpr ⟨hm, e⟩)]
        refine iteF ?_
        exact ⟨⟨_, _, _, rfl⟩, sH.trans s2, kvs, m, s2 _ _ hDk, sk s2, by omega⟩
      | some B =>
        have c : b ∉ bl := fun z => by
          have h := ((hbs b).mp z).2
          rw [e] at h; cases h
        rw [decide_eq_false c]
        refine iteT ?_
        have hY2 := hY1.same s2
        -- told
        refine ⟨_, rfl, _, rfl, y, ll, L, S, b, B, rfl, hY2, G, e, fun t ts told H3 s3 ht hts2 pr St ten => ?_⟩
        obtain ⟨tr, etold, htr⟩ := St.tree.tail
        have hbm : b ∈ told.map (·.1) := (St.part FO).has
        have lts : ts.length = told.length := Paired.length pr
        -- some
        refine ⟨_, rfl, t, rfl, ⟨_, SqL.of hts2⟩, fun D1 hD1 => ?_⟩
        have s4 : Same H3 (upd H3 D1 (.lst [])) := same_new hD1
        refine lc_list (K := K) (a := t) (xs := ts) (fun i H' => H' D1 = some (.lst (((told.map (·.1)).take i).map V.int)) ∧ Same H3 H') ⟨upd_same, s4⟩ (fun i H' _ h => SqL.of (h.2 _ _ hts2)) ?_ ?_
        · rintro i v H' hi ⟨hDv, s5⟩
          obtain ⟨⟨x, cm⟩, hz, a, rfl, ha⟩ := paired_at' pr hi
          have hm : (told.map (·.1))[i]? = some x := by rw [List.getElem?_map, hz]; rfl
          refine ⟨rfl, ?_⟩
          unfold tYes
          refine iteT ?_
          refine ⟨_, rfl, a, _, _, _, rfl, rfl, SqT.of (s5 _ _ ha), rfl, _, hDv, Nat.lt_of_le_of_lt (by rw [List.length_map]; exact Nat.le_trans (List.length_take_le' _ _) (by rw [List.length_map]; exact ten) : _ ≤ 10) (by decide), ?_, fun c o e => ?_⟩
          · rw [take_step hm, List.map_append]; exact upd_same
          · have hne : c ≠ D1 := fun z => by rw [z, hD1] at e; cases e
            rw [upd_ne hne]; exact s5 _ _ e
        · rintro H4 ⟨hD1v, s5⟩
          rw [take_all (by rw [List.length_map]; exact lts)] at hD1v
          generalize hA0 : told.map (·.1) = A0 at hD1v hbm
          have l10 : A0.length ≤ 10 := by rw [← hA0, List.length_map]; exact ten
          have nd0 : A0.Nodup := by rw [← hA0]; exact St.tree.nd
          -- the test
          refine ⟨_, rfl, D1, A0, rfl, SqL.of hD1v, by omega, nd0, _, rfl, D1, _, rfl, .inl (SqL.of hD1v), rfl, _, rfl, ?_⟩
          rw [List.length_map, decide_eq_true rfl]
          refine iteF ?_
          refine ⟨_, rfl, D1, A0, rfl, SqL.of hD1v, by omega, fun A q1 permA riseA hq1 => ?_⟩
          have s6 : Same H4 (upd H4 q1 (.lst (A.map V.int))) := same_new hq1
          have hY6 := ((hY2.same s3).same s5).same s6
          refine ⟨_, rfl, _, rfl, y, ll, L, S, b, B, rfl, hY6, G, e, fun q2 A2 told2 H7 s7 hq2 perm2 rise2 St2 ten2 => ?_⟩
          have eA : A = A2 := St.same FO St2 (hA0 ▸ permA) riseA perm2 rise2
          refine ⟨.list (A.map PyData.int), .list (A2.map PyData.int), dp_ints (SqL.of (s7 _ _ upd_same)), dp_ints (SqL.of hq2), shaped_ints _, shaped_ints _, _, rfl, ?_⟩
          rw [eqv_ints, decide_eq_true eA]
          refine iteF ?_
          have hD7 := s7 _ _ (s6 _ _ hD1v)
          refine ⟨_, rfl, _, rfl, D1, _, rfl, .inl (SqL.of hD7), rfl, flat_ints _, _, rfl, ?_⟩
          show if (!inV (.int b) (A0.map V.int)) = true then _ else _
          rw [inV_ints, decide_eq_true hbm]
          refine iteF ?_
          -- parts[bridge] = ..
          have s37 : Same H3 H7 := (s5.trans s6).trans s7
          refine ⟨_, rfl, D1, A0, rfl, SqL.of hD7, by omega, fun A3 qa perm3 rise3 hqa => ?_⟩
          have s8 : Same H7 (upd H7 qa (.lst (A3.map V.int))) := same_new hqa
          have hqa2 : (upd H7 qa (.lst (A3.map V.int))) qa = some (.lst (A3.map V.int)) := upd_same
          generalize upd H7 qa (.lst (A3.map V.int)) = H8 at s8 hqa2
          have s38 := s37.trans s8
          refine ⟨_, rfl, 1, rfl, t, ts, rfl, SqL.of (s38 _ _ hts2), fun g hg => ⟨g, rfl, ⟨_, SqL.of upd_same⟩, fun D2 hD2 => ?_⟩⟩
          obtain ⟨t0, tt, ets, prt⟩ : ∃ t0 tt, ts = t0 :: tt ∧ Paired (ToldV H3) tt tr := by
            rw [etold] at pr
            cases pr with
            | cons r p => exact ⟨_, _, rfl, p⟩
          have ecut : cutV ts (some 1) none = tt := by rw [ets]; exact cut_from1
          rw [ecut] at hD2 ⊢
          have s9 : Same H8 (upd H8 g (.lst tt)) := same_new hg
          have sA : Same (upd H8 g (.lst tt)) (upd (upd H8 g (.lst tt)) D2 (.lst [])) := same_new hD2
          have hgl : (upd H8 g (.lst tt)) g = some (.lst tt) := upd_same
          generalize upd H8 g (.lst tt) = H9 at s9 sA hgl hD2
          have s39 := s38.trans s9
          have ltr : tt.length = tr.length := Paired.length prt
          have ltr2 : tr.length ≤ 10 := by
            rw [etold, List.length_cons] at ten
            omega
          refine lc_list (K := K) (a := g) (xs := tt) (fun i H' => H' D2 = some (.lst (((tr.map fun x => x.2.getD 0).take i).map V.int)) ∧ Same H9 H') ⟨upd_same, sA⟩ (fun i H' _ h => SqL.of (h.2 _ _ hgl)) ?_ ?_
          · rintro i v H' hi ⟨hDv, sB⟩
            obtain ⟨⟨x, cm⟩, hz, a, rfl, ha⟩ := paired_at' prt hi
            obtain ⟨pp, epp⟩ := htr _ (List.mem_of_getElem? hz)
            have epp' : cm = some pp := epp
            subst epp'
            have hm : (tr.map fun x => x.2.getD 0)[i]? = some pp := by rw [List.getElem?_map, hz]; rfl
            refine ⟨rfl, ?_⟩
            unfold tYes
            refine iteT ?_
            refine ⟨_, rfl, a, _, _, _, rfl, rfl, SqT.of (sB _ _ (s39 _ _ ha)), rfl, _, hDv, Nat.lt_of_le_of_lt (by rw [List.length_map]; exact Nat.le_trans (List.length_take_le' _ _) (by rw [List.length_map]; exact ltr2) : _ ≤ 10) (by decide), ?_, fun c o e => ?_⟩
            · rw [take_step hm, List.map_append]; exact upd_same
            · have hne : c ≠ D2 := fun z => by rw [z, hD2] at e; cases e
              rw [upd_ne hne]; exact sB _ _ e
          · rintro HB ⟨hD2v, sB⟩
            rw [take_all (by rw [List.length_map]; exact ltr)] at hD2v
            refine ⟨D2, _, rfl, SqL.of hD2v, by rw [List.length_map]; omega, fun Bs qb permB riseB hqb => ?_⟩
            have sC : Same HB (upd HB qb (.lst (Bs.map V.int))) := same_new hqb
            refine ⟨(by show 2 ≤ sizeLine; decide), fun u hu2 => ?_⟩
            have sD : Same (upd HB qb (.lst (Bs.map V.int))) (upd (upd HB qb (.lst (Bs.map V.int))) u (.tup [.ref qa, .ref qb])) := same_new hu2
            have hub : (upd (upd HB qb (.lst (Bs.map V.int))) u (.tup [.ref qa, .ref qb])) qb = some (.lst (Bs.map V.int)) := sD _ _ upd_same
            have huu : (upd (upd HB qb (.lst (Bs.map V.int))) u (.tup [.ref qa, .ref qb])) u = some (.tup [.ref qa, .ref qb]) := upd_same
            have s8D : Same H8 (upd (upd HB qb (.lst (Bs.map V.int))) u (.tup [.ref qa, .ref qb])) := ((s9.trans sB).trans sC).trans sD
            generalize upd (upd HB qb (.lst (Bs.map V.int))) u (.tup [.ref qa, .ref qb]) = HE at s8D hub huu
            have s1E : Same H1 HE := ((s2.trans s3).trans s38).trans s8D
            have ok : PartOk (waysOf S) b A3 Bs := St.ok FO (hA0 ▸ perm3) rise3 (by
              have h : plsOf told = tr.map fun x => x.2.getD 0 := by
                rw [etold]
                exact pls_map htr
              rw [h]; exact permB) riseB ten
            have hDE := s1E _ _ hDk
            refine ⟨_, rfl, _, rfl, D, _, rfl, DPut.k (k := ik b) hDE (small16 (by omega)), ?_⟩
            have keepE : ∀ c o, HE c = some o → c ≠ D → (upd HE D (.dK (putK kvs (ik b) (.ref u)))) c = some o := fun c o e ne => by rw [upd_ne ne]; exact e
            refine ⟨⟨_, _, _, rfl⟩, fun c o e => ?_, _, _, upd_same, ((sk s1E).imp fun c v _ _ r => r.keep hDE keepE).put (x := ()) (PartV.keep ⟨u, qa, qb, A3, Bs, rfl, huu, s8D _ _ hqa2, hub, ok⟩ hDE keepE), Nat.le_trans (length_putK _ _ _) (Nat.succ_le_succ hlen)⟩
            rw [upd_ne (ne_of_none e hD)]
            exact s1E _ _ (sH _ _ e)
    · rintro σ H1 ⟨⟨x3, x4, x5, rfl⟩, sH, kvs, m, hDk, mk, hlen⟩
      have hY1 := hY.same sH
      refine ⟨_, rfl, y, ll, L, S, rfl, hY1, G.net.few, fun wp wvs H2 s2 hwp hwv prw lw => ?_⟩
      have hD2 := s2 _ _ hDk
      have mk2 : MapAt (fun b v (_ : Unit) => PartV H2 (waysOf S) b v) kvs m := mk.imp fun c v _ _ r => r.keep hDk fun a o e _ => s2 a o e
      have wpD : wp ≠ D := ne_of hwv hD2 (by intro z; cases z)
      refine ⟨D, .dK kvs, hD2, True.intro, fun od => ?_⟩
      -- what stands while the dict is locked
      have lk0 : ∀ c o, H2 c = some o → c ≠ D → (upd H2 D (.frz od (.dK kvs))) c = some o := fun c o e ne => by rw [upd_ne ne]; exact e
      have kp : ∀ {Hx : Hp} {b : Int} {v : V}, (∀ c o, H2 c = some o → c ≠ D → Hx c = some o) → PartV H2 (waysOf S) b v → PartV Hx (waysOf S) b v := fun f r => r.keep hD2 f
      have wv : ∀ {Hx : Hp}, (∀ c o, H2 c = some o → c ≠ D → Hx c = some o) → Hx wp = some (.lst wvs) ∧ Paired (WayV Hx) wvs (waysOf S) := fun f => ⟨f _ _ hwv wpD, Paired.mapP prw fun _ _ r => r.keep fun a xs e => f a _ e (ne_of e hD2 (by intro z; cases z))⟩
      have gt : ∀ {Hx : Hp} {b : Int} {v : V}, Hx D = some (.frz od (.dK kvs)) → valV kvs (ik b) = some v → DGet Hx D (.int b) (some v) := fun {Hx b v} hf hv => by
        rw [← hv]
        exact .inl ⟨kvs, ik b, .inr ⟨od, hf⟩, rfl, rfl⟩
      refine ⟨_, rfl, D, od, rfl, .inl ⟨kvs, upd_same, for_keys (fun i σ H3 => (∃ x3 x4 x5 x7 x8 x9, σ = [some (.ref y), some (.ref np), some (.ref D), x3, x4, x5, some (.ref wp), x7, x8, x9, none, none]) ∧ (∀ c o, H2 c = some o → c ≠ D → H3 c = some o) ∧ H3 D = some (.frz od (.dK kvs)))
        ⟨⟨_, _, _, _, _, _, rfl⟩, lk0, upd_same⟩ (fun i σ H3 _ h => h.2.2) ?_ ?_⟩⟩
      · rintro i k v σ H3 hi ⟨⟨x3, x4, x5, x7, x8, x9, rfl⟩, f3, hf3⟩
        obtain ⟨b, _, rfl, hmb, hpv⟩ := mk2.mem (List.mem_of_getElem? hi)
        obtain ⟨v1, hv1, hp1⟩ := mk2.some_ hmb
        obtain ⟨u, la, lb, A, B, rfl, hu0, hla0, hlb0, ok⟩ := kp f3 hp1
        -- some, ties = parts[bridge]
        refine ⟨_, rfl, _, rfl, D, _, rfl, gt hf3 hv1, u, _, rfl, SqT.of hu0, rfl, _, _, rfl, _, _, rfl, rfl, ?_⟩
        obtain ⟨hw3, pw3⟩ := wv f3
        -- ties != [..]
        have lwv : wvs.length = (waysOf S).length := Paired.length prw
        refine ⟨_, rfl, _, rfl, wp, rfl, ⟨_, SqL.of hw3⟩, fun D1 hD1 => ?_⟩
        have s4 : Same H3 (upd H3 D1 (.lst [])) := same_new hD1
        refine lc_list (K := K) (a := wp) (xs := wvs) (fun i H' => H' D1 = some (.lst (((((waysOf S).take i).filter fun w => decide (w.ch ∈ A)).map Way.pl).map V.int)) ∧ Same H3 H') ⟨upd_same, s4⟩ (fun i H' _ h => SqL.of (h.2 _ _ hw3)) ?_ ?_
        · rintro i v H' hi ⟨hDv, s5⟩
          obtain ⟨⟨pl, ch, pa⟩, hz, a, rfl, ha⟩ := paired_at' pw3 hi
          have hil : i < wvs.length := (List.getElem?_eq_some_iff.mp hi).1
          refine ⟨rfl, ?_⟩
          refine ⟨_, rfl, a, _, _, _, rfl, rfl, SqT.of (s5 _ _ ha), rfl, _, rfl, la, _, rfl, .inl (SqL.of (s5 _ _ hla0)), rfl, flat_ints _, _, rfl, ?_⟩
          show if inV (.int ch) (A.map V.int) = true then _ else _
          rw [inV_ints, take_step hz, List.filter_append, List.map_append, List.map_append]
          by_cases c : ch ∈ A
          · rw [decide_eq_true c]
            refine iteT ?_
            have e2 : ([(⟨pl, ch, pa⟩ : Way)].filter fun w => decide (w.ch ∈ A)) = [⟨pl, ch, pa⟩] := by simp [c]
            rw [e2]
            refine ⟨_, rfl, a, _, _, _, rfl, rfl, SqT.of (s5 _ _ ha), rfl, _, hDv, small16 ?_, upd_same, fun c o e3 => ?_⟩
            · rw [List.length_map, List.length_map]
              exact Nat.le_trans (List.length_filter_le _ _) (Nat.le_trans (List.length_take_le _ _) (by omega))
            · have hne : c ≠ D1 := fun z => by rw [z, hD1] at e3; cases e3
              rw [upd_ne hne]; exact s5 _ _ e3
          · rw [decide_eq_false c]
            refine iteF ?_
            have e2 : ([(⟨pl, ch, pa⟩ : Way)].filter fun w => decide (w.ch ∈ A)) = [] := by simp [c]
            rw [e2, List.map_nil, List.map_nil, List.append_nil]
            exact ⟨hDv, s5⟩
        · rintro H5 ⟨hD1v, s5⟩
          rw [take_all lwv, ← ok.ties1 FO] at hD1v
          refine ⟨.list (B.map PyData.int), .list (B.map PyData.int), dp_ints (SqL.of (s5 _ _ hlb0)), dp_ints (SqL.of hD1v), shaped_ints _, shaped_ints _, _, rfl, ?_⟩
          rw [eqv_ints, decide_eq_true rfl]
          refine iteF ?_
          have hw5 := s5 _ _ hw3
          refine ⟨_, rfl, _, rfl, wp, rfl, ⟨_, SqL.of hw5⟩, fun D2 hD2n => ?_⟩
          have s6 : Same H5 (upd H5 D2 (.lst [])) := same_new hD2n
          refine lc_list (K := K) (a := wp) (xs := wvs) (fun i H' => H' D2 = some (.lst (((((waysOf S).take i).filter fun w => decide (w.pa ∈ A)).map Way.pl).map V.int)) ∧ Same H5 H') ⟨upd_same, s6⟩ (fun i H' _ h => SqL.of (h.2 _ _ hw5)) ?_ ?_
          · rintro i v H' hi ⟨hDv, s7⟩
            obtain ⟨⟨pl, ch, pa⟩, hz, a, rfl, ha⟩ := paired_at' pw3 hi
            have hil : i < wvs.length := (List.getElem?_eq_some_iff.mp hi).1
            have s57 := s5.trans s7
            refine ⟨rfl, ?_⟩
            refine ⟨_, rfl, a, _, _, _, rfl, rfl, SqT.of (s57 _ _ ha), rfl, _, rfl, la, _, rfl, .inl (SqL.of (s57 _ _ hla0)), rfl, flat_ints _, _, rfl, ?_⟩
            show if inV (.int pa) (A.map V.int) = true then _ else _
            rw [inV_ints, take_step hz, List.filter_append, List.map_append, List.map_append]
            by_cases c : pa ∈ A
            · rw [decide_eq_true c]
              refine iteT ?_
              have e2 : ([(⟨pl, ch, pa⟩ : Way)].filter fun w => decide (w.pa ∈ A)) = [⟨pl, ch, pa⟩] := by simp [c]
              rw [e2]
              refine ⟨_, rfl, a, _, _, _, rfl, rfl, SqT.of (s57 _ _ ha), rfl, _, hDv, small16 ?_, upd_same, fun c o e3 => ?_⟩
              · rw [List.length_map, List.length_map]
                exact Nat.le_trans (List.length_filter_le _ _) (Nat.le_trans (List.length_take_le _ _) (by omega))
              · have hne : c ≠ D2 := fun z => by rw [z, hD2n] at e3; cases e3
                rw [upd_ne hne]; exact s7 _ _ e3
            · rw [decide_eq_false c]
              refine iteF ?_
              have e2 : ([(⟨pl, ch, pa⟩ : Way)].filter fun w => decide (w.pa ∈ A)) = [] := by simp [c]
              rw [e2, List.map_nil, List.map_nil, List.append_nil]
              exact ⟨hDv, s7⟩
          · rintro H7 ⟨hD2v, s7⟩
            rw [take_all lwv, ← ok.ties2 FO] at hD2v
            have s37 := s5.trans s7
            refine ⟨.list (B.map PyData.int), .list (B.map PyData.int), dp_ints (SqL.of (s37 _ _ hlb0)), dp_ints (SqL.of hD2v), shaped_ints _, shaped_ints _, _, rfl, ?_⟩
            rw [eqv_ints, decide_eq_true rfl]
            refine iteF ?_
            -- len(ties) != len(some) - 1
            have hlen2 := ok.len
            refine ⟨_, rfl, lb, _, rfl, .inl (SqL.of (s37 _ _ hlb0)), _, rfl, la, _, rfl, .inl (SqL.of (s37 _ _ hla0)), _, 1, rfl, rfl, rfl, _, rfl, ?_⟩
            have el : V.int ((B.map V.int).length : Int) = V.int (((A.map V.int).length : Int) - 1) := by
              rw [List.length_map, List.length_map]
              congr 1
              omega
            rw [decide_eq_true el]
            refine iteF ?_
            -- for other in parts
            have f7 : ∀ c o, H2 c = some o → c ≠ D → H7 c = some o := fun c o e ne => s37 _ _ (f3 c o e ne)
            have hf7 := s37 _ _ hf3
            refine ⟨_, rfl, D, od, rfl, .inl ⟨kvs, hf7, for_keys (fun i σ H8 => (∃ x8 x9, σ = [some (.ref y), some (.ref np), some (.ref D), some (.int b), x4, some (.ref la), some (.ref wp), some (.ref lb), x8, x9, none, none]) ∧ Same H7 H8)
              ⟨⟨_, _, rfl⟩, Same.refl H7⟩ (fun i σ H8 _ h => h.2 _ _ hf7) ?_ ?_⟩⟩
            · rintro j k2 v2 σ H8 hj ⟨⟨x8', x9', rfl⟩, s8⟩
              obtain ⟨c, _, rfl, hmc, _⟩ := mk2.mem (List.mem_of_getElem? hj)
              obtain ⟨v3, hv3, hp3⟩ := mk2.some_ hmc
              have f8 : ∀ c o, H2 c = some o → c ≠ D → H8 c = some o := fun c o e ne => s8 _ _ (f7 c o e ne)
              have hf8 := s8 _ _ hf7
              obtain ⟨u2, la2, lb2, A2, B2, rfl, hu2, hla2, hlb2, ok2⟩ := kp f8 hp3
              have hla8 := s8 _ _ (s37 _ _ hla0)
              have hlb8 := s8 _ _ (s37 _ _ hlb0)
              have hu8 := s8 _ _ (s37 _ _ hu0)
              -- both
              refine ⟨_, rfl, la, rfl, ⟨_, SqL.of hla8⟩, fun D3 hD3 => ?_⟩
              have s9 : Same H8 (upd H8 D3 (.lst [])) := same_new hD3
              refine lc_list (K := K) (a := la) (xs := A.map V.int) (fun i H' => H' D3 = some (.lst (((A.take i).filter fun x => decide (x ∈ A2)).map V.int)) ∧ Same H8 H') ⟨upd_same, s9⟩ (fun i H' _ h => SqL.of (h.2 _ _ hla8)) ?_ ?_
              · rintro i v H' hi ⟨hDv, sA⟩
                obtain ⟨x, hx, rfl⟩ := map_at hi
                refine ⟨rfl, ?_⟩
                refine ⟨_, rfl, _, rfl, _, rfl, D, _, rfl, gt (sA _ _ hf8) hv3, u2, _, _, _, rfl, rfl, SqT.of (sA _ _ hu2), rfl, la2, _, rfl, .inl (SqL.of (sA _ _ hla2)), rfl, flat_ints _, _, rfl, ?_⟩
                show if inV (.int x) (A2.map V.int) = true then _ else _
                rw [inV_ints, take_step hx, List.filter_append, List.map_append]
                by_cases cx : x ∈ A2
                · rw [decide_eq_true cx]
                  refine iteT ?_
                  have e2 : ([x].filter fun x => decide (x ∈ A2)) = [x] := by simp [cx]
                  rw [e2]
                  have lA := ok.few
                  refine ⟨_, rfl, _, hDv, small16 ?_, upd_same, fun a o e3 => ?_⟩
                  · rw [List.length_map]
                    exact Nat.le_trans (List.length_filter_le _ _) (Nat.le_trans (List.length_take_le' _ _) (by omega))
                  · have hne : a ≠ D3 := fun z => by rw [z, hD3] at e3; cases e3
                    rw [upd_ne hne]; exact sA _ _ e3
                · rw [decide_eq_false cx]
                  refine iteF ?_
                  have e2 : ([x].filter fun x => decide (x ∈ A2)) = [] := by simp [cx]
                  rw [e2, List.map_nil, List.append_nil]
                  exact ⟨hDv, sA⟩
              · rintro HA ⟨hD3v, sA⟩
                rw [List.length_map, List.take_length] at hD3v
                obtain ⟨k1, k2⟩ := ok.both ok2
                generalize (A.filter fun x => decide (x ∈ A2)) = C at hD3v k1 k2
                have inC : inV (.int c) (A.map V.int) = !decide (C = []) := by
                  rw [inV_ints]
                  by_cases ce : C = []
                  · rw [decide_eq_true ce, decide_eq_false fun z => (k2.mp z) ce]; rfl
                  · rw [decide_eq_false ce, decide_eq_true (k2.mpr ce)]; rfl
                refine ⟨_, rfl, (by show 0 ≤ sizeLine; decide), fun e0 he0 => ?_⟩
                have sB := same_new (o := .lst []) he0
                refine ⟨.list (C.map PyData.int), .list (([] : List Int).map PyData.int), dp_ints (SqL.of (sB _ _ hD3v)), dp_ints (ns := []) (SqL.of upd_same), shaped_ints _, shaped_ints _, _, rfl, ?_⟩
                generalize upd HA e0 (.lst []) = HB at sB
                have sAB := sA.trans sB
                rw [eqv_ints]
                by_cases ce : C = []
                · rw [decide_eq_true ce]
                  refine iteF ?_
                  refine iteF ?_
                  refine ⟨_, rfl, _, rfl, la, _, rfl, .inl (SqL.of (sAB _ _ hla8)), rfl, flat_ints _, _, rfl, (by show 0 ≤ sizeLine; decide), fun e1 he1 => ?_⟩
                  have sC := same_new (o := .lst []) he1
                  refine ⟨.list (C.map PyData.int), .list (([] : List Int).map PyData.int), dp_ints (SqL.of (sC _ _ (sB _ _ hD3v))), dp_ints (ns := []) (SqL.of upd_same), shaped_ints _, shaped_ints _, rfl, _, rfl, ?_⟩
                  have ed : V.bl (inV (.int c) (A.map V.int)) = V.bl (!PyData.eqv (.list (C.map PyData.int)) (.list (([] : List Int).map PyData.int))) := by rw [inC, eqv_ints]
                  show if (!decide (V.bl (inV (.int c) (A.map V.int)) = V.bl (!PyData.eqv (.list (C.map PyData.int)) (.list (([] : List Int).map PyData.int))))) = true then _ else _
                  rw [decide_eq_true ed]
                  refine iteF ?_
                  exact ⟨⟨_, _, rfl⟩, (s8.trans sAB).trans sC⟩
                · rw [decide_eq_false ce]
                  refine iteT ?_
                  obtain ⟨eA, eB⟩ := k1 ce
                  subst eA eB
                  refine ⟨_, rfl, _, rfl, D, _, rfl, gt (sAB _ _ hf8) hv3, _, rfl, _, rfl, D, _, rfl, gt (sAB _ _ hf8) hv1, pairD A B, pairD A B, .tup (SqT.of (sAB _ _ hu2)) (.cons (dp_ints (SqL.of (sAB _ _ hla2))) (.cons (dp_ints (SqL.of (sAB _ _ hlb2))) .nil)), .tup (SqT.of (sAB _ _ hu8)) (.cons (dp_ints (SqL.of (sAB _ _ hla8))) (.cons (dp_ints (SqL.of (sAB _ _ hlb8))) .nil)), shaped_pair _ _, shaped_pair _ _, _, rfl, ?_⟩
                  rw [eqv_pair]
                  refine iteF ?_
                  refine ⟨_, rfl, _, rfl, la, _, rfl, .inl (SqL.of (sAB _ _ hla8)), rfl, flat_ints _, _, rfl, (by show 0 ≤ sizeLine; decide), fun e1 he1 => ?_⟩
                  have sC := same_new (o := .lst []) he1
                  refine ⟨.list (C.map PyData.int), .list (([] : List Int).map PyData.int), dp_ints (SqL.of (sC _ _ (sB _ _ hD3v))), dp_ints (ns := []) (SqL.of upd_same), shaped_ints _, shaped_ints _, rfl, _, rfl, ?_⟩
                  have ed : V.bl (inV (.int c) (A.map V.int)) = V.bl (!PyData.eqv (.list (C.map PyData.int)) (.list (([] : List Int).map PyData.int))) := by rw [inC, eqv_ints]
                  show if (!decide (V.bl (inV (.int c) (A.map V.int)) = V.bl (!PyData.eqv (.list (C.map PyData.int)) (.list (([] : List Int).map PyData.int))))) = true then _ else _
                  rw [decide_eq_true ed]
                  refine iteF ?_
                  exact ⟨⟨_, _, rfl⟩, (s8.trans sAB).trans sC⟩
            · rintro σ H8 ⟨⟨x8', x9', rfl⟩, s8⟩
              exact ⟨⟨_, _, _, _, _, _, rfl⟩, fun c o e ne => s8 _ _ (f7 c o e ne), s8 _ _ hf7⟩
      · rintro σ H3 ⟨⟨x3, x4, x5, x7, x8, x9, rfl⟩, f3, hf3⟩
        refine ⟨hf3, ?_⟩
        refine q _ fun c o e => ?_
        have cD : c ≠ D := ne_of_none e hD
        rw [upd_ne cD]
        exact f3 _ _ (s2 _ _ (sH _ _ e)) cD
end
end Sw

set_option Elab.async false
set_option linter.all false
set_option maxRecDepth 100000
set_option maxHeartbeats 4000000
/-! Sw: the walk of the law. -/
namespace Sw
open PySem PySem.Spec PyProof.Rows L2
theorem cut_ints (ns : List Int) (lo hi : Option Int) : ∃ cs : List Int, cutV (ns.map V.int) lo hi = cs.map V.int ∧ cs.length ≤ ns.length := by
  unfold cutV
  rw [← List.map_drop, ← List.map_take]
  refine ⟨_, rfl, ?_⟩
  exact Nat.le_trans (List.length_take_le' _ _) (by rw [List.length_drop]; omega)
theorem Fr.sql {K : PySem.W.Frag} {ll a : Addr} {H H' : Hp} {xs : List V} (f : Fr ll H H') (h : SqL K H a xs) (n : H ll = none) : SqL K H' a xs := by
  rcases h with (h | ⟨o, h⟩) | h
  · exact .inl (.inl (f _ _ h (ne_of_none h n) (fun k z => by cases z) fun C dx fs z => by cases z))
  · exact .inl (.inr ⟨o, f _ _ h (ne_of_none h n) (fun k z => by cases z) fun C dx fs z => by cases z⟩)
  · exact .inr h
section
variable {P : Program} {w : World} {K : PySem.W.Frag} {mg : Str → Option Value} {base : Heap}
def sp_lw (K : PySem.W.Frag) : Sp := fun vs H Q _ => ∃ (a : Addr) (ns : List Int), vs = [.ref a] ∧ SqL K H a (ns.map V.int) ∧ ns.length ≤ 63 ∧ ∀ H', Q (.bl true) H'
theorem sc_lw : FnScope ["script", "row", "net", "yard", "cell"] ["script"] (defScope s_lw) := ⟨rfl, rfl, rfl, by decide +kernel, rfl, by decide +kernel, by decide +kernel⟩
theorem fok_lw (T : Tx K mg) {fd : FuncData} (F : FnP K "law" "law" s_lw (He.fAd K ("law", none)) fd) : FnOk P w K mg base CX0 9 (He.fAd K ("law", none)) fd ["script"] (sp_lw K) := by
  have GA := ok_la (P := P) (w := w) (base := base) T
  have GR := ok_lr (P := P) (w := w) (base := base) T
  have GM := ok_lm (P := P) (w := w) (base := base) T
  have GG := ok_lg (P := P) (w := w) (base := base) T
  refine FunD.ok F sc_lw (fun vs H Q E h => ?_) (fun cdv A outer s H vs Q E hr h => ?_)
  · obtain ⟨a, ns, rfl, _⟩ := h
    rfl
  · obtain ⟨a, ns, rfl, hS, l63, q⟩ := h
    have hr1 : Room 1 _ := hr.mono (by decide)
    have hr5 : Room 5 _ := hr.mono (by decide)
    have hr6 : Room 6 _ := hr.mono (by decide)
    have main : ∃ t, PSs (cxOf CX0 P w K mg base ["script", "row", "net", "yard", "cell"] "law" (defScope s_lw) (He.fAd K ("law", none)) cdv A outer s H E).nox (defBody s_lw) t ∧ t { nx := fun _ H' => Q .non H', rt := Q } (start ["script", "row", "net", "yard", "cell"] [.ref a]) H := by
      refine ⟨_, pss_cons (ps_asg (pc_call GA hr5 rfl T.g_la (pa_cons (pv 0) pa_nil)) (pg_tup rfl (pgs_cons (pg_name (i := 1) sc_lw.nd rfl (.inl rfl)) (pgs_cons (pg_name (i := 2) sc_lw.nd rfl (.inl rfl)) (pgs_cons (pg_name (i := 3) sc_lw.nd rfl (.inl rfl)) pgs_nil)))))
        (pss_cons (ps_for PassesOwn.never rfl (pi_list (pe_slice sl_list (pv 0) (po_some pe_int) (po_some pe_int))) (pg_name (i := 4) sc_lw.nd rfl (.inl rfl))
          (pss_cons (ps_expr (pc_call GM hr6 rfl T.g_lm (pa_cons (pc_call GR hr1 rfl T.g_lr (pa_cons (pv 4) pa_nil)) (pa_cons (pv 3) (pa_cons (pv 2) (pa_cons (pv 3) pa_nil))))))
          (pss_one (ps_if (pt_not (pt_val (pc_call GG hr rfl T.g_lg (pa_cons (pv 3) (pa_cons (pv 2) pa_nil))))) (pss_one ps_no2) pss_nil))))
        (pss_one (ps_ret (pc_call GG hr rfl T.g_lg (pa_cons (pv 3) (pa_cons (pv 2) pa_nil)))))), ?_⟩
      refine ⟨_, rfl, a, ns, rfl, hS, fun r p np ab at_ tv y ll L S H1 hr1' hY G hroad hN hll f1 => ?_⟩
      refine ⟨r, _, rfl, SqT.of hr1', rfl, _, _, rfl, _, _, rfl, _, _, rfl, rfl, ?_⟩
      have hS1 := f1.sql hS hll
      obtain ⟨cs, ecs, lcs⟩ := cut_ints ns (some 1) (some 63)
      refine ⟨_, rfl, 1, rfl, 63, rfl, a, _, rfl, hS1, fun g hg => ⟨g, rfl, ⟨_, SqL.of upd_same⟩, ?_⟩⟩
      rw [ecs]
      have s2 : Same H1 (upd H1 g (.lst (cs.map V.int))) := same_new hg
      have hg2 : (upd H1 g (.lst (cs.map V.int))) g = some (.lst (cs.map V.int)) := upd_same
      generalize upd H1 g (.lst (cs.map V.int)) = H2 at s2 hg2
      obtain ⟨lv, hlv, _⟩ := id hY.road
      have gll : g ≠ ll := fun z => by rw [z, hlv] at hg; cases hg
      refine for_list (K := K) (a := g) (xs := cs.map V.int) (fun i σ H3 => (∃ x4, σ = [some (.ref a), some (.ref p), some (.ref np), some (.ref y), x4]) ∧ H3 g = some (.lst (cs.map V.int)) ∧ ∃ L3 S3, YdL K H3 y ll L3 S3 ∧ Good S3 ∧ NetAt H3 np ab at_ tv S3.net ∧ S3.road.length ≤ 64 * i)
        ⟨⟨none, rfl⟩, hg2, L, S, hY.same s2, G, hN.keep (.of s2), by rw [hroad]; exact Nat.le_refl 0⟩ (fun i σ H3 _ h => SqL.of h.2.1) ?_ ?_
      · rintro i v σ H3 hi ⟨⟨x4, rfl⟩, hg3, L3, S3, hY3, G3, hN3, hl3⟩
        obtain ⟨c, hc, rfl⟩ := map_at hi
        have hic : i < cs.length := (List.getElem?_eq_some_iff.mp hc).1
        obtain ⟨lv3, hlv3, _⟩ := id hY3.road
        refine ⟨_, rfl, c, rfl, fun p4 H4 s4 hp4 row4 => ?_⟩
        have p4ll : p4 ≠ ll := fun z => by rw [z, hlv3] at hp4; cases hp4
        have gp4 : g ≠ p4 := fun z => by rw [← z, hg3] at hp4; cases hp4
        have hN4 := hN3.keep (.of s4)
        refine ⟨_, rfl, _, rfl, _, rfl, p4, y, ll, np, ab, at_, tv, L3, S3, rfl, row4, p4ll, hY3.same s4, G3, hN4, by omega, fun L5 S5 H5 hY5 G5 n5 l5 f5 => ?_⟩
        have hN5 : NetAt H5 np ab at_ tv S5.net := n5 ▸ hN4.keep (f5.tup row4 (s4 _ _ hlv3))
        have hg5 := f5 _ _ (s4 _ _ hg3) gp4 gll (fun k z => by cases z) (fun C dx fs z => by cases z)
        refine ⟨_, rfl, _, rfl, y, ll, np, ab, at_, tv, L5, S5, rfl, hY5, G5, hN5, fun H6 s6 => ⟨_, rfl, iteF ?_⟩⟩
        exact ⟨⟨_, rfl⟩, s6 _ _ hg5, L5, S5, hY5.same s6, G5, hN5.keep (.of s6), by omega⟩
      · rintro σ H3 ⟨⟨x4, rfl⟩, hg3, L3, S3, hY3, G3, hN3, hl3⟩
        exact ⟨_, rfl, _, rfl, y, ll, np, ab, at_, tv, L3, S3, rfl, hY3, G3, hN3, fun H' s' => q H'⟩
    obtain ⟨t, h1, h2⟩ := main
    exact ⟨t, PSs.nox h1, h2⟩
end
end Sw

set_option Elab.async false
set_option linter.all false
set_option maxRecDepth 100000
set_option maxHeartbeats 0
/-! Sw: the law at every script. -/
namespace Sw
open PySem PySem.Spec PyProof.Rows L2
theorem facts {P : Program} {w : World} {K : PySem.W.Frag} {h : Heap} {mg : Str → Option Value} {f : Addr} (X : K.In h) (G : h.Ns mainGlobals mg) (hfa : mg ("law" : Str) = some (.ref f)) (c : He.SaysD fa fn K) :
    ∃ fd : FuncData, (∀ (s : Shared) (v : Value), BindsTo s fd ⟨[v], []⟩ [("script", v)]) ∧ ∀ base : Heap, K.In base → base.Ns mainGlobals mg → FnOk P w K mg base CX0 9 f fd ["script"] (sp_lw K) := by
  have T : Tx K mg := ⟨c, h, X, G⟩
  obtain ⟨fd, F⟩ := T.f_lw
  have e := hfa.symm.trans T.g_lw
  cases e
  have b := FunD.bindsA (ps := ["script"]) F fun _ _ _ _ _ _ us hl => match us, hl with | [_], _ => rfl
  exact ⟨fd, fun s v => b s [v] rfl, fun base _ _ => fok_lw T F⟩
end Sw
open PySem PySem.W PySem.Calls PyProof.Rows
theorem PySem.Challenge.cw_shutways_k52_whole_parts_holds : PySem.Challenge.rw_shutways_k52_whole_parts.Holds := by
  w_on; o_law
  refine HandSHeadRun.head_any (r := OpenLaw.row PySem.Challenge.rw_shutways_k52_whole_parts) (q := view (OpenLaw.row PySem.Challenge.rw_shutways_k52_whole_parts).prog [Sw.lawAt]) (H := Sw.hk) (ob := Sw.ob) (M := 4000) (loose := Sw.others) (d := HandSHeadRun.topDef (OpenLaw.row PySem.Challenge.rw_shutways_k52_whole_parts).prog Sw.lawAt) (kwd := []) Sw.ob_eq
    (by kernel_rfl) (fun s => by kernel_rfl) Sw.run (by kernel_rfl) (by kernel_rfl) (by kernel_rfl) (by rfl) (by first | assumption | decide +kernel) (by decide +kernel) ⟨rfl, rfl, rfl, rfl, rfl, by decide +kernel⟩ ?hw ?hc
  case hw => w_witness2
  case hc =>
    refine L2.walk_ofE (l := PySem.Challenge.rw_shutways_k52_whole_parts) (n := 63) (k := 9) (x := "script") (CX := L2.CX0) rfl (by decide) (by kernel_rfl) ⟨rfl, by decide, by decide⟩ ?F (fun _ _ _ _ z => z)
    intro w mg fa h Y G hmg0
    obtain ⟨K, KX, c⟩ := Y
    have hmg : mg ("law" : PySem.Str) = some (.ref fa) := by
      have e : (HandSHeadRun.topDef (OpenLaw.row PySem.Challenge.rw_shutways_k52_whole_parts).prog Sw.lawAt).name = ("law" : PySem.Str) := by kernel_rfl
      rw [← e]
      exact hmg0
    obtain ⟨fd, hb, hF⟩ := Sw.facts (P := (PySem.Challenge.rw_shutways_k52_whole_parts).prog) (w := w) KX G hmg c
    exact ⟨K, fd, Sw.sp_lw K, KX, hb, fun H a ns hl _ hS => ⟨a, ns, rfl, hS, hl, fun _ => rfl⟩, hF⟩
