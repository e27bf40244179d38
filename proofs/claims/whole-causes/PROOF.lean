import PyProof.Rows.All
import Wide.All
import OpenK.AllK
import Wide.FinOn
import KE.KStateDown
import Lean
import HandS.ForMost
import HandS.Defaults
import HandS.Head0
import HandS.Head1
import HandS.Head2
import HandS.HeadEnd
import HandS.HeadHook1
import HandS.HeadHook2
import PySem.Challenge.RW_neverunsaid_k09_whole_causes
import HandS.Comp
import HandS.Deep
import HandS.OwnEq
import HandS.Star
import HandS.IsInst
import HandS.SortRule
import HandS.SortInts
import HandS.TupSets
import HandS.DictTup
import HandS.NoneIn
import HandS.Conv
import HandS.Flow
import HandS.Style
import HandS.TupLe
import PyProof.ReprRoads
import HandS.DictComp
import HandS.Walk
import PyProof.ReprBulk
import HandS.TupLen
section
/-! Trees told by their sides; simple ways; the search of a way; leaves. Core Lean only. -/
namespace K9

structure TreeS (n : Nat) (adj : Nat → Nat → Prop) (S : Nat → Nat → Nat → Prop) : Prop where
  lt : ∀ {u v}, adj u v → u < n ∧ v < n
  symm : ∀ {u v}, adj u v → adj v u
  own : ∀ {u v}, adj u v → S u v u
  opp : ∀ {u v h}, adj u v → h < n → (S v u h ↔ ¬ S u v h)
  on : ∀ {u v w h}, adj u v → adj v w → w ≠ u → h < n → S u v h → S v w h
  conn : ∀ (P : Nat → Prop), (∀ u v, adj u v → P u → P v) → ∀ a b, a < n → b < n → P a → P b

/-- a simple way from a -/
inductive Way (adj : Nat → Nat → Prop) (a : Nat) : Nat → List Nat → Prop
  | one : Way adj a a [a]
  | step {u v : Nat} {p : List Nat} : Way adj a u p → adj u v → v ∉ p → Way adj a v (p ++ [v])

section
variable {n : Nat} {adj : Nat → Nat → Prop} {S : Nat → Nat → Nat → Prop}

theorem TreeS.irr (T : TreeS n adj S) {u : Nat} (h : adj u u) : False := by
  have h1 := T.own h
  have h2 := (T.opp h (T.lt h).1).mp h1
  exact h2 h1
theorem TreeS.ne (T : TreeS n adj S) {u v : Nat} (h : adj u v) : u ≠ v := fun e => by
  subst e
  exact T.irr h
theorem TreeS.notOwn (T : TreeS n adj S) {u v : Nat} (h : adj u v) : ¬ S u v v := fun q =>
  (T.opp (T.symm h) (T.lt h).2).mp q (T.own (T.symm h))

theorem Way.first {a b : Nat} {p : List Nat} (w : Way adj a b p) : a ∈ p := by
  induction w with
  | one => exact List.mem_singleton.mpr rfl
  | step _ _ _ ih => exact List.mem_append_left _ ih
theorem Way.last {a b : Nat} {p : List Nat} (w : Way adj a b p) : b ∈ p := by
  cases w with
  | one => exact List.mem_singleton.mpr rfl
  | step _ _ _ => exact List.mem_append_right _ (List.mem_singleton.mpr rfl)
theorem Way.getLast {a b : Nat} {p : List Nat} (w : Way adj a b p) : p.getLast? = some b := by
  cases w with
  | one => rfl
  | step _ _ _ => rw [List.getLast?_append]; rfl
theorem Way.nodup {a b : Nat} {p : List Nat} (w : Way adj a b p) : p.Nodup := by
  induction w with
  | one => exact List.nodup_cons.mpr ⟨List.not_mem_nil, List.nodup_nil⟩
  | step _ _ hv ih =>
    refine List.nodup_append.mpr ⟨ih, List.nodup_cons.mpr ⟨List.not_mem_nil, List.nodup_nil⟩, fun x hx y hy e => ?_⟩
    rw [List.mem_singleton] at hy
    subst hy
    subst e
    exact hv hx
theorem Way.lt (T : TreeS n adj S) {a b : Nat} (ha : a < n) {p : List Nat} (w : Way adj a b p) : ∀ x ∈ p, x < n := by
  induction w with
  | one =>
    intro x hx
    rw [List.mem_singleton] at hx
    subst hx
    exact ha
  | step _ h _ ih =>
    intro x hx
    rcases List.mem_append.mp hx with hx | hx
    · exact ih x hx
    · rw [List.mem_singleton] at hx
      subst hx
      exact (T.lt h).2
/-- along a way the first house is behind -/
theorem Way.side (T : TreeS n adj S) {a u : Nat} (ha : a < n) {p : List Nat} (w : Way adj a u p) : ∀ {v : Nat}, adj u v → v ∉ p → S u v a := by
  induction w with
  | one =>
    intro v h _
    exact T.own h
  | @step u x p w1 h1 h2 ih =>
    intro v h hv
    have h3 : v ≠ u := fun e => by
      subst e
      exact hv (List.mem_append_left _ w1.last)
    exact T.on h1 h h3 ha (ih h1 h2)
/-- two neighbours of v from which a comes are one -/
theorem TreeS.same (T : TreeS n adj S) {u w v a : Nat} (ha : a < n) (h1 : adj u v) (h2 : adj w v) (s1 : S u v a) (s2 : S w v a) : u = w := by
  by_cases e : u = w
  · exact e
  · have h3 := T.on h1 (T.symm h2) (fun z => e z.symm) ha s1
    exact ((T.opp h2 ha).mp h3 s2).elim
theorem Way.pre {a b : Nat} {p : List Nat} (w : Way adj a b p) : ∀ u ∈ p, ∃ q, Way adj a u q ∧ (∀ x ∈ q, x ∈ p) ∧ (u ≠ b → b ∉ q) := by
  induction w with
  | one =>
    intro u hu
    rw [List.mem_singleton] at hu
    subst hu
    exact ⟨[u], .one, fun x hx => hx, fun h => (h rfl).elim⟩
  | @step x v p w1 h1 h2 ih =>
    intro u hu
    by_cases e : u = v
    · subst e
      exact ⟨_, .step w1 h1 h2, fun x hx => hx, fun h => (h rfl).elim⟩
    · have hp : u ∈ p := by
        rcases List.mem_append.mp hu with h | h
        · exact h
        · rw [List.mem_singleton] at h
          exact (e h).elim
      obtain ⟨q, wq, sub, _⟩ := ih u hp
      exact ⟨q, wq, fun x hx => List.mem_append_left _ (sub x hx), fun _ hv => h2 (sub v hv)⟩
/-- what comes from u's side comes over u, last -/
theorem Way.over (T : TreeS n adj S) {h u v : Nat} (hh : h < n) {p : List Nat} (w : Way adj h v p) (ha : adj u v) (s : S u v h) : ∃ q, p = q ++ [v] ∧ Way adj h u q := by
  cases w with
  | one => exact (T.notOwn ha s).elim
  | @step x _ q w1 h1 h2 =>
    have e := T.same hh h1 ha (w1.side T hh h1 h2) s
    subst e
    exact ⟨q, rfl, w1⟩
theorem Way.mem_iff (T : TreeS n adj S) {h u v : Nat} (hh : h < n) {p : List Nat} (w : Way adj h v p) (ha : adj u v) : u ∈ p ↔ S u v h := by
  constructor
  · intro hu
    obtain ⟨q, wq, _, hq⟩ := w.pre u hu
    exact wq.side T hh ha (hq (T.ne ha))
  · intro s
    obtain ⟨q, e, wq⟩ := w.over T hh ha s
    rw [e]
    exact List.mem_append_left _ wq.last
theorem Way.one_only {a : Nat} {p : List Nat} (w : Way adj a a p) : p = [a] := by
  cases w with
  | one => rfl
  | step w1 _ h2 => exact (h2 w1.first).elim
theorem Way.uniq (T : TreeS n adj S) {a b : Nat} (ha : a < n) {p p' : List Nat} (w : Way adj a b p) (w' : Way adj a b p') : p = p' := by
  induction w generalizing p' with
  | one => exact w'.one_only.symm
  | @step u v p w1 h1 h2 ih =>
    obtain ⟨q, e, wq⟩ := w'.over T ha h1 (w1.side T ha h1 h2)
    rw [e, ih wq]
theorem TreeS.way (T : TreeS n adj S) {a b : Nat} (ha : a < n) (hb : b < n) : ∃ p, Way adj a b p := by
  refine T.conn (fun x => ∃ p, Way adj a x p) (fun u v h ⟨p, w⟩ => ?_) a b ha hb ⟨[a], .one⟩
  by_cases hv : v ∈ p
  · obtain ⟨q, wq, _⟩ := w.pre v hv
    exact ⟨q, wq⟩
  · exact ⟨_, .step w h hv⟩
theorem nodup_sub {α : Type} [DecidableEq α] : ∀ {l m : List α}, l.Nodup → (∀ x ∈ l, x ∈ m) → l.length ≤ m.length
  | [], m, _, _ => Nat.zero_le _
  | x :: r, m, hn, h => by
    have hx : x ∈ m := h x List.mem_cons_self
    obtain ⟨h1, h2⟩ := List.nodup_cons.mp hn
    have h3 : r.length ≤ (m.erase x).length := nodup_sub h2 fun y hy => (List.mem_erase_of_ne (fun e => by subst e; exact h1 hy)).mpr (h y (List.mem_cons_of_mem _ hy))
    rw [List.length_erase_of_mem hx] at h3
    have h4 := List.length_pos_of_mem hx
    rw [List.length_cons]
    omega
theorem nodup_len {l : List Nat} (hn : l.Nodup) (h : ∀ x ∈ l, x < n) : l.length ≤ n := by
  have h1 := nodup_sub hn (m := List.range n) fun x hx => List.mem_range.mpr (h x hx)
  rw [List.length_range] at h1
  exact h1
theorem Way.len (T : TreeS n adj S) {a b : Nat} (ha : a < n) {p : List Nat} (w : Way adj a b p) : p.length ≤ n := nodup_len w.nodup (w.lt T ha)
/-- behind the end of a way there is a leaf -/
theorem Way.leaf (T : TreeS n adj S) {a : Nat} (ha : a < n) : ∀ (k : Nat) {x b : Nat} {q : List Nat}, Way adj a x q → adj x b → b ∉ q → n - q.length ≤ k → ∃ h y, h < n ∧ h ≠ a ∧ adj y h ∧ ∀ z, adj z h → z = y
  | 0, x, b, q, w, h, hb, hk => by
    have h1 := (Way.step w h hb).len T ha
    rw [List.length_append, List.length_singleton] at h1
    omega
  | k + 1, x, b, q, w, h, hb, hk => by
    by_cases e : ∀ z, adj z b → z = x
    · exact ⟨b, x, (T.lt h).2, fun e => by subst e; exact hb w.first, h, e⟩
    · obtain ⟨z, hz⟩ := Classical.not_forall.mp e
      have hz1 : adj z b := Classical.byContradiction fun q => hz fun r => (q r).elim
      have hz2 : z ≠ x := fun r => hz fun _ => r
      have w2 := Way.step w h hb
      have hz3 : z ∉ q ++ [b] := fun r => hz2 (T.same ha hz1 h ((w2.mem_iff T ha hz1).mp r) (w.side T ha h hb))
      refine Way.leaf T ha k w2 (T.symm hz1) hz3 ?_
      rw [List.length_append, List.length_singleton]
      omega
theorem TreeS.leaf (T : TreeS n adj S) {a : Nat} (ha : a < n) (hn : 2 ≤ n) : ∃ h y, h < n ∧ h ≠ a ∧ adj y h ∧ ∀ z, adj z h → z = y := by
  by_cases e : ∃ b, adj a b
  · obtain ⟨b, hb⟩ := e
    exact Way.leaf T ha n (Way.one) hb (fun r => by
      rw [List.mem_singleton] at r
      subst r
      exact T.irr hb) (Nat.sub_le _ _)
  · obtain ⟨c, hc, hca⟩ : ∃ c, c < n ∧ c ≠ a := by
      by_cases h0 : a = 0
      · exact ⟨1, by omega, by omega⟩
      · exact ⟨0, by omega, by omega⟩
    refine (hca ?_).elim
    exact T.conn (fun x => x = a) (fun u v h q => by subst q; exact (e ⟨v, h⟩).elim) a c ha hc rfl
end

/-! ### the search -/
/-- the rows that one road adds -/
def ext1 (row : List Nat) (x u v : Nat) : List (List Nat) :=
  (if u = x ∧ v ∉ row then [row ++ [v]] else []) ++ (if v = x ∧ u ∉ row then [row ++ [u]] else [])
def extN (row : List Nat) (x : Nat) (roads : List (Nat × Nat)) : List (List Nat) := roads.flatMap fun r => ext1 row x r.1 r.2
def RdAdj (roads : List (Nat × Nat)) (u v : Nat) : Prop := (u, v) ∈ roads ∨ (v, u) ∈ roads

theorem mem_ext1 {row : List Nat} {x u v : Nat} {r : List Nat} : r ∈ ext1 row x u v ↔ (u = x ∧ v ∉ row ∧ r = row ++ [v]) ∨ (v = x ∧ u ∉ row ∧ r = row ++ [u]) := by
  unfold ext1
  rw [List.mem_append]
  by_cases h1 : u = x ∧ v ∉ row
  · rw [if_pos h1]
    by_cases h2 : v = x ∧ u ∉ row
    · rw [if_pos h2, List.mem_singleton, List.mem_singleton]
      constructor
      · rintro (h | h)
        · exact .inl ⟨h1.1, h1.2, h⟩
        · exact .inr ⟨h2.1, h2.2, h⟩
      · rintro (h | h)
        · exact .inl h.2.2
        · exact .inr h.2.2
    · rw [if_neg h2, List.mem_singleton]
      constructor
      · rintro (h | h)
        · exact .inl ⟨h1.1, h1.2, h⟩
        · exact (List.not_mem_nil h).elim
      · rintro (h | h)
        · exact .inl h.2.2
        · exact (h2 ⟨h.1, h.2.1⟩).elim
  · rw [if_neg h1]
    by_cases h2 : v = x ∧ u ∉ row
    · rw [if_pos h2, List.mem_singleton]
      constructor
      · rintro (h | h)
        · exact (List.not_mem_nil h).elim
        · exact .inr ⟨h2.1, h2.2, h⟩
      · rintro (h | h)
        · exact (h1 ⟨h.1, h.2.1⟩).elim
        · exact .inr h.2.2
    · rw [if_neg h2]
      constructor
      · rintro (h | h) <;> exact (List.not_mem_nil h).elim
      · rintro (h | h)
        · exact (h1 ⟨h.1, h.2.1⟩).elim
        · exact (h2 ⟨h.1, h.2.1⟩).elim
theorem mem_extN {row : List Nat} {x : Nat} {roads : List (Nat × Nat)} {r : List Nat} : r ∈ extN row x roads ↔ ∃ y, RdAdj roads x y ∧ y ∉ row ∧ r = row ++ [y] := by
  unfold extN
  rw [List.mem_flatMap]
  constructor
  · rintro ⟨⟨u, v⟩, hp, hr⟩
    rcases mem_ext1.mp hr with ⟨e, h1, h2⟩ | ⟨e, h1, h2⟩
    · have e : u = x := e
      subst e
      exact ⟨v, .inl hp, h1, h2⟩
    · have e : v = x := e
      subst e
      exact ⟨u, .inr hp, h1, h2⟩
  · rintro ⟨y, h | h, h1, h2⟩
    · exact ⟨(x, y), h, mem_ext1.mpr (.inl ⟨rfl, h1, h2⟩)⟩
    · exact ⟨(y, x), h, mem_ext1.mpr (.inr ⟨rfl, h1, h2⟩)⟩
theorem ext1_len (row : List Nat) (x u v : Nat) : (ext1 row x u v).length ≤ 2 := by
  unfold ext1
  rw [List.length_append]
  have h1 : (if u = x ∧ v ∉ row then [row ++ [v]] else []).length ≤ 1 := by split <;> simp
  have h2 : (if v = x ∧ u ∉ row then [row ++ [u]] else []).length ≤ 1 := by split <;> simp
  omega
theorem extN_len (row : List Nat) (x : Nat) : ∀ roads : List (Nat × Nat), (extN row x roads).length ≤ 2 * roads.length
  | [] => Nat.le_refl _
  | r :: rs => by
    have h1 := ext1_len row x r.1 r.2
    have h2 := extN_len row x rs
    have e : extN row x (r :: rs) = ext1 row x r.1 r.2 ++ extN row x rs := by simp [extN]
    rw [e, List.length_append, List.length_cons]
    omega
/-- what a row may still cost -/
def wgt (c n : Nat) (row : List Nat) : Nat := c ^ (n - row.length)
def wgts (c n : Nat) (rows : List (List Nat)) : Nat := (rows.map (wgt c n)).sum
theorem wgts_append (c n : Nat) (a b : List (List Nat)) : wgts c n (a ++ b) = wgts c n a + wgts c n b := by
  unfold wgts
  rw [List.map_append, List.sum_append]
theorem wgts_len {c n : Nat} (hc : 0 < c) : ∀ rows : List (List Nat), rows.length ≤ wgts c n rows
  | [] => Nat.zero_le _
  | r :: rs => by
    have h1 : 0 < wgt c n r := Nat.pow_pos hc
    have h2 := wgts_len (n := n) hc rs
    have e : wgts c n (r :: rs) = wgt c n r + wgts c n rs := by simp [wgts]
    rw [e, List.length_cons]
    omega
theorem wgts_le {c n b : Nat} : ∀ rows : List (List Nat), (∀ r ∈ rows, wgt c n r ≤ b) → wgts c n rows ≤ rows.length * b
  | [], _ => Nat.zero_le _
  | r :: rs, h => by
    have h1 := h r List.mem_cons_self
    have h2 := wgts_le rs fun x hx => h x (List.mem_cons_of_mem _ hx)
    have e : wgts c n (r :: rs) = wgt c n r + wgts c n rs := by simp [wgts]
    rw [e, List.length_cons, Nat.succ_mul]
    omega

section
variable {n : Nat} {S : Nat → Nat → Nat → Prop} {roads : List (Nat × Nat)}
/-- the state of the search: every row is a way from a, one of them begins the way P to b -/
structure Srch (roads : List (Nat × Nat)) (a : Nat) (P : List Nat) (rows : List (List Nat)) : Prop where
  ways : ∀ r ∈ rows, ∃ x, Way (RdAdj roads) a x r
  there : ∃ r ∈ rows, r <+: P
theorem Srch.start {a b : Nat} {P : List Nat} (w : Way (RdAdj roads) a b P) : Srch roads a P [[a]] := by
  refine ⟨fun r hr => ?_, [a], List.mem_singleton.mpr rfl, ?_⟩
  · rw [List.mem_singleton] at hr
    subst hr
    exact ⟨a, .one⟩
  · have key : ∀ {b p}, Way (RdAdj roads) a b p → [a] <+: p := by
      intro b p w
      induction w with
      | one => exact List.prefix_refl _
      | step _ _ _ ih => exact List.IsPrefix.trans ih (List.prefix_append _ _)
    exact key w
theorem Way.next {adj : Nat → Nat → Prop} {a b x : Nat} {P r : List Nat} (w : Way adj a b P) (wr : Way adj a x r) (hp : r <+: P) (ne : x ≠ b) : ∃ y, adj x y ∧ y ∉ r ∧ r ++ [y] <+: P := by
  induction w with
  | one =>
    have e : r = [a] := by
      obtain ⟨t, ht⟩ := hp
      cases r with
      | nil => exact (List.not_mem_nil wr.first).elim
      | cons z zs =>
        rw [List.cons_append] at ht
        injection ht with h1 h2
        have h3 : zs = [] := (List.append_eq_nil_iff.mp h2).1
        rw [h1, h3]
    subst e
    have := wr.last
    rw [List.mem_singleton] at this
    exact (ne this).elim
  | @step u v p w1 h1 h2 ih =>
    by_cases hr : r <+: p
    · by_cases e : x = u
      · subst e
        -- r is the whole of p
        have e2 : r = p := by
          obtain ⟨t, ht⟩ := hr
          cases t with
          | nil => rw [← ht, List.append_nil]
          | cons z zs =>
            exfalso
            have hd := w1.nodup
            rw [← ht] at hd
            have h3 := (List.nodup_append.mp hd).2.2
            have h4 : x ∈ z :: zs := by
              have h5 := w1.getLast
              rw [← ht, List.getLast?_append] at h5
              cases h6 : (z :: zs).getLast? with
              | none => simp at h6
              | some y =>
                rw [h6] at h5
                have h7 : y = x := by simpa using h5
                rw [← h7]
                exact List.mem_of_getLast? h6
            exact h3 x wr.last x h4 rfl
        rw [e2]
        exact ⟨v, h1, h2, List.prefix_refl _⟩
      · obtain ⟨y, q1, q2, q3⟩ := ih hr e
        exact ⟨y, q1, q2, List.IsPrefix.trans q3 (List.prefix_append _ _)⟩
    · -- r is all of it
      exfalso
      obtain ⟨t, ht⟩ := hp
      cases t with
      | nil =>
        rw [List.append_nil] at ht
        have h5 := wr.getLast
        rw [ht, List.getLast?_append] at h5
        have h6 : v = x := by simpa using h5
        exact ne h6.symm
      | cons z zs =>
        apply hr
        have h7 : (r ++ (z :: zs)).dropLast = p := by rw [ht, List.dropLast_concat]
        rw [List.dropLast_append_of_ne_nil (by simp)] at h7
        exact ⟨_, h7⟩
/-- one turn of the search -/
theorem Srch.turn (T : TreeS n (RdAdj roads) S) {a b : Nat} (ha : a < n) {P row : List Nat} {rows : List (List Nat)} (w : Way (RdAdj roads) a b P) (s : Srch roads a P (rows ++ [row])) :
    ∃ x, Way (RdAdj roads) a x row ∧ row.getLast? = some x ∧ (x = b → row = P) ∧
      (x ≠ b → Srch roads a P (rows ++ extN row x roads) ∧ wgts (2 * roads.length + 1) n (rows ++ extN row x roads) < wgts (2 * roads.length + 1) n (rows ++ [row])) := by
  obtain ⟨x, wx⟩ := s.ways row (List.mem_append_right _ (List.mem_singleton.mpr rfl))
  refine ⟨x, wx, wx.getLast, fun e => ?_, fun ne => ⟨⟨fun r hr => ?_, ?_⟩, ?_⟩⟩
  · subst e
    exact wx.uniq T ha w
  · rcases List.mem_append.mp hr with hr | hr
    · exact s.ways r (List.mem_append_left _ hr)
    · obtain ⟨y, h1, h2, rfl⟩ := mem_extN.mp hr
      exact ⟨y, .step wx h1 h2⟩
  · obtain ⟨r, hr, hp⟩ := s.there
    rcases List.mem_append.mp hr with hr | hr
    · exact ⟨r, List.mem_append_left _ hr, hp⟩
    · rw [List.mem_singleton] at hr
      subst hr
      obtain ⟨y, h1, h2, h3⟩ := w.next wx hp ne
      exact ⟨_, List.mem_append_right _ (mem_extN.mpr ⟨y, h1, h2, rfl⟩), h3⟩
  · rw [wgts_append, wgts_append]
    apply Nat.add_lt_add_left
    have e : wgts (2 * roads.length + 1) n [row] = wgt (2 * roads.length + 1) n row := by simp [wgts]
    rw [e]
    cases hx : extN row x roads with
    | nil => exact Nat.pow_pos (Nat.succ_pos _)
    | cons r0 rs =>
      rw [← hx]
      have h0 : r0 ∈ extN row x roads := by rw [hx]; exact List.mem_cons_self
      obtain ⟨y, h1, h2, _⟩ := mem_extN.mp h0
      have hl := (Way.step wx h1 h2).len T ha
      rw [List.length_append, List.length_singleton] at hl
      have hb : ∀ r ∈ extN row x roads, wgt (2 * roads.length + 1) n r ≤ (2 * roads.length + 1) ^ (n - row.length - 1) := fun r hr => by
        obtain ⟨y, _, _, rfl⟩ := mem_extN.mp hr
        unfold wgt
        rw [List.length_append, List.length_singleton]
        exact Nat.pow_le_pow_right (Nat.succ_pos _) (by omega)
      have h3 := wgts_le _ hb
      have h4 := extN_len row x roads
      have h5 : (extN row x roads).length * (2 * roads.length + 1) ^ (n - row.length - 1) ≤ (2 * roads.length) * (2 * roads.length + 1) ^ (n - row.length - 1) := Nat.mul_le_mul_right _ h4
      have h6 : wgt (2 * roads.length + 1) n row = (2 * roads.length + 1) ^ (n - row.length - 1) * (2 * roads.length + 1) := by
        unfold wgt
        rw [← Nat.pow_succ]
        congr 1
        omega
      have h7 : 0 < (2 * roads.length + 1) ^ (n - row.length - 1) := Nat.pow_pos (Nat.succ_pos _)
      have h8 : (2 * roads.length + 1) ^ (n - row.length - 1) * (2 * roads.length + 1) = (2 * roads.length) * (2 * roads.length + 1) ^ (n - row.length - 1) + (2 * roads.length + 1) ^ (n - row.length - 1) := by
        rw [Nat.mul_comm, Nat.succ_mul]
      rw [h6, h8]
      omega
theorem Srch.ne_nil {a : Nat} {P : List Nat} {rows : List (List Nat)} (s : Srch roads a P rows) : rows ≠ [] := fun e => by
  obtain ⟨r, hr, _⟩ := s.there
  rw [e] at hr
  exact List.not_mem_nil hr
end
end K9
end

section
/-! The trees that the law makes (parents, then names); neighbours; the walk from a house; the leaves. Core Lean only. -/
namespace K9

/-! ### trees by parents -/
inductive Anc (par : Nat → Nat) (k : Nat) : Nat → Prop
  | self : Anc par k k
  | up {j : Nat} : k < j → Anc par k (par j) → Anc par k j
section
variable {par : Nat → Nat}
theorem Anc.le {k j : Nat} (a : Anc par k j) : k ≤ j := by
  cases a with
  | self => exact Nat.le_refl _
  | up h _ => exact Nat.le_of_lt h
theorem Anc.parent (hp : ∀ k, 0 < k → par k < k) {k j : Nat} (hk : 0 < k) (a : Anc par k j) : Anc par (par k) j := by
  induction a with
  | self => exact .up (hp k hk) .self
  | up h _ ih => exact .up (Nat.lt_trans (hp k hk) h) ih
theorem Anc.comp {k m j : Nat} (a : Anc par k j) (b : Anc par m j) : Anc par k m ∨ Anc par m k := by
  induction a with
  | self => exact .inr b
  | up h a1 ih =>
    cases b with
    | self => exact .inl (.up h a1)
    | up h' b' => exact ih b'
theorem Anc.not_par (hp : ∀ k, 0 < k → par k < k) {k : Nat} (hk : 0 < k) : ¬ Anc par k (par k) := fun a => by
  have h1 := a.le
  have h2 := hp k hk
  omega
def adjP (n : Nat) (par : Nat → Nat) (x y : Nat) : Prop := (0 < x ∧ x < n ∧ y = par x) ∨ (0 < y ∧ y < n ∧ x = par y)
def sideP (n : Nat) (par : Nat → Nat) (x y h : Nat) : Prop := (0 < x ∧ x < n ∧ y = par x ∧ Anc par x h) ∨ (0 < y ∧ y < n ∧ x = par y ∧ ¬ Anc par y h)
theorem treeP (hp : ∀ k, 0 < k → par k < k) {n : Nat} (hn : 0 < n) : TreeS n (adjP n par) (sideP n par) where
  lt := by
    rintro u v (⟨h1, h2, rfl⟩ | ⟨h1, h2, rfl⟩)
    · exact ⟨h2, Nat.lt_trans (hp u h1) h2⟩
    · exact ⟨Nat.lt_trans (hp v h1) h2, h2⟩
  symm := fun h => h.symm
  own := by
    rintro u v (⟨h1, h2, rfl⟩ | ⟨h1, h2, rfl⟩)
    · exact .inl ⟨h1, h2, rfl, .self⟩
    · exact .inr ⟨h1, h2, rfl, Anc.not_par hp h1⟩
  opp := by
    rintro u v h (⟨h1, h2, rfl⟩ | ⟨h1, h2, rfl⟩) hh
    · constructor
      · rintro (⟨a, b, c, _⟩ | ⟨_, _, _, d⟩)
        · have e1 := hp u h1
          have e2 := hp (par u) a
          omega
        · rintro (⟨_, _, _, d'⟩ | ⟨a', _, c', _⟩)
          · exact d d'
          · have e1 := hp u h1
            have e2 := hp (par u) a'
            omega
      · intro q
        exact .inr ⟨h1, h2, rfl, fun d => q (.inl ⟨h1, h2, rfl, d⟩)⟩
    · constructor
      · rintro (⟨_, _, _, d⟩ | ⟨a, b, c, _⟩)
        · rintro (⟨a', _, c', _⟩ | ⟨_, _, _, d'⟩)
          · have e1 := hp v h1
            have e2 := hp (par v) a'
            omega
          · exact d' d
        · have e1 := hp v h1
          have e2 := hp (par v) a
          omega
      · intro q
        exact .inl ⟨h1, h2, rfl, Classical.byContradiction fun d => q (.inr ⟨h1, h2, rfl, d⟩)⟩
  on := by
    rintro u v w h _ h2 hw hh s
    rcases s with ⟨s1, s2, s3, s4⟩ | ⟨s1, s2, s3, s4⟩
    · rcases h2 with ⟨t1, t2, t3⟩ | ⟨t1, t2, t3⟩
      · refine .inl ⟨t1, t2, t3, ?_⟩
        rw [s3]
        exact s4.parent hp s1
      · refine .inr ⟨t1, t2, t3, fun d => ?_⟩
        rcases s4.comp d with q | q
        · cases q with
          | self => exact hw rfl
          | up g q =>
            rw [← t3, s3] at q
            exact Anc.not_par hp s1 q
        · cases q with
          | self => exact hw rfl
          | up g q =>
            rw [← s3, t3] at q
            exact Anc.not_par hp t1 q
    · rcases h2 with ⟨t1, t2, t3⟩ | ⟨t1, t2, t3⟩
      · exact (hw (t3.trans s3.symm)).elim
      · refine .inr ⟨t1, t2, t3, fun d => s4 ?_⟩
        rw [t3]
        exact d.parent hp t1
  conn := by
    intro P hP a b ha hb pa
    have down : ∀ k x, x ≤ k → x < n → P x → P 0 := by
      intro k
      induction k with
      | zero =>
        intro x hx _ px
        have e : x = 0 := by omega
        rw [e] at px
        exact px
      | succ k ih =>
        intro x hx hn px
        by_cases h0 : x = 0
        · rw [h0] at px
          exact px
        · have h1 : 0 < x := by omega
          have h2 := hp x h1
          exact ih (par x) (by omega) (by omega) (hP x (par x) (.inl ⟨h1, hn, rfl⟩) px)
    have up : P 0 → ∀ k x, x ≤ k → x < n → P x := by
      intro p0 k
      induction k with
      | zero =>
        intro x hx _
        have e : x = 0 := by omega
        rw [e]
        exact p0
      | succ k ih =>
        intro x hx hn
        by_cases h0 : x = 0
        · rw [h0]
          exact p0
        · have h1 : 0 < x := by omega
          have h2 := hp x h1
          exact hP (par x) x (.inr ⟨h1, hn, rfl⟩) (ih (par x) (by omega) (by omega))
    exact up (down a a (Nat.le_refl _) ha pa) b b (Nat.le_refl _) hb
end
/-- the same tree with other names -/
theorem TreeS.named {n : Nat} {adj : Nat → Nat → Prop} {S : Nat → Nat → Nat → Prop} (T : TreeS n adj S) {iv nm : Nat → Nat} (h1 : ∀ x, x < n → iv x < n) (h2 : ∀ k, k < n → nm k < n) (h3 : ∀ x, x < n → nm (iv x) = x) (h4 : ∀ k, k < n → iv (nm k) = k) :
    TreeS n (fun x y => x < n ∧ y < n ∧ adj (iv x) (iv y)) (fun x y h => S (iv x) (iv y) (iv h)) where
  lt := fun h => ⟨h.1, h.2.1⟩
  symm := fun h => ⟨h.2.1, h.1, T.symm h.2.2⟩
  own := fun h => T.own h.2.2
  opp := fun h hh => T.opp h.2.2 (h1 _ hh)
  on := fun {u v w h} a b ne hh s => T.on a.2.2 b.2.2 (fun e => ne (by rw [← h3 w b.2.1, ← h3 u a.1, e])) (h1 _ hh) s
  conn := by
    intro P hP a b ha hb pa
    have key := T.conn (fun k => k < n → P (nm k)) (fun u v h p hv => ?_) (iv a) (iv b) (h1 a ha) (h1 b hb) (fun _ => by rw [h3 a ha]; exact pa) (h1 b hb)
    · rw [h3 b hb] at key
      exact key
    · have hu := (T.lt h).1
      exact hP (nm u) (nm v) ⟨h2 u hu, h2 v hv, by rw [h4 u hu, h4 v hv]; exact h⟩ (p hu)
theorem TreeS.iff {n : Nat} {adj adj' : Nat → Nat → Prop} {S : Nat → Nat → Nat → Prop} (T : TreeS n adj S) (h : ∀ u v, adj' u v ↔ adj u v) : TreeS n adj' S where
  lt := fun a => T.lt ((h _ _).mp a)
  symm := fun a => (h _ _).mpr (T.symm ((h _ _).mp a))
  own := fun a => T.own ((h _ _).mp a)
  opp := fun a => T.opp ((h _ _).mp a)
  on := fun a b => T.on ((h _ _).mp a) ((h _ _).mp b)
  conn := fun P hP => T.conn P fun u v a => hP u v ((h _ _).mpr a)

/-! ### the roads of a world -/
/-- the road of k and its parent, lesser house first -/
def roadOf (names : List Nat) (par : Nat → Nat) (k : Nat) : Nat × Nat :=
  let a := names.getD k 0
  let b := names.getD (par k) 0
  if a ≤ b then (a, b) else (b, a)
def ltP (a b : Nat × Nat) : Prop := a.1 < b.1 ∨ (a.1 = b.1 ∧ a.2 < b.2)
/-- what the walk knows of a world: n houses, the list of its roads -/
structure Town (n : Nat) (R : List (Nat × Nat)) : Prop where
  pos : 0 < n
  lt : ∀ r ∈ R, r.1 < r.2 ∧ r.2 < n
  len : R.length + 1 = n
  nodup : R.Nodup
  tree : ∃ S, TreeS n (RdAdj R) S

structure Names (n : Nat) (names : List Nat) : Prop where
  len : names.length = n
  nodup : names.Nodup
  lt : ∀ x ∈ names, x < n
section
variable {n : Nat} {names : List Nat}
theorem Names.nm_lt (N : Names n names) {k : Nat} (hk : k < n) : names.getD k 0 < n := by
  have h : k < names.length := by rw [N.len]; exact hk
  rw [List.getD_eq_getElem?_getD, List.getElem?_eq_getElem h]
  exact N.lt _ (List.getElem_mem h)
theorem Names.mem (N : Names n names) {x : Nat} (hx : x < n) : x ∈ names := by
  apply Classical.byContradiction
  intro h
  have h1 : (x :: names).Nodup := List.nodup_cons.mpr ⟨h, N.nodup⟩
  have h2 := nodup_len (n := n) h1 (fun y hy => by
    rcases List.mem_cons.mp hy with e | e
    · rw [e]; exact hx
    · exact N.lt y e)
  rw [List.length_cons, N.len] at h2
  omega
theorem Names.iv_lt (N : Names n names) {x : Nat} (hx : x < n) : names.idxOf x < n := by
  have h := List.idxOf_lt_length_iff.mpr (N.mem hx)
  rw [N.len] at h
  exact h
theorem Names.nm_iv (N : Names n names) {x : Nat} (hx : x < n) : names.getD (names.idxOf x) 0 = x := by
  have h := List.idxOf_lt_length_iff.mpr (N.mem hx)
  rw [List.getD_eq_getElem?_getD, List.getElem?_eq_getElem h]
  exact List.getElem_idxOf h
theorem Names.iv_nm (N : Names n names) {k : Nat} (hk : k < n) : names.idxOf (names.getD k 0) = k := by
  have h : k < names.length := by rw [N.len]; exact hk
  rw [List.getD_eq_getElem?_getD, List.getElem?_eq_getElem h]
  show names.idxOf names[k] = k
  have h1 : names.idxOf names[k] < names.length := List.idxOf_lt_length_iff.mpr (List.getElem_mem h)
  exact (List.getElem_inj N.nodup).mp (List.getElem_idxOf h1)
theorem Names.inj (N : Names n names) {j k : Nat} (hj : j < n) (hk : k < n) (e : names.getD j 0 = names.getD k 0) : j = k := by
  rw [← N.iv_nm hj, ← N.iv_nm hk, e]
theorem roadOf_cases (names : List Nat) (par : Nat → Nat) (k : Nat) : roadOf names par k = (names.getD k 0, names.getD (par k) 0) ∨ roadOf names par k = (names.getD (par k) 0, names.getD k 0) := by
  unfold roadOf
  by_cases h : names.getD k 0 ≤ names.getD (par k) 0
  · left; simp only [h, if_true]
  · right; simp only [h, if_false]
theorem roadOf_ok (N : Names n names) {par : Nat → Nat} (hp : ∀ k, 0 < k → par k < k) {k : Nat} (h0 : 0 < k) (hk : k < n) : (roadOf names par k).1 < (roadOf names par k).2 ∧ (roadOf names par k).2 < n := by
  have h1 := N.nm_lt hk
  have h2 := N.nm_lt (k := par k) (Nat.lt_trans (hp k h0) hk)
  have h3 : names.getD k 0 ≠ names.getD (par k) 0 := fun e => by
    have := N.inj hk (Nat.lt_trans (hp k h0) hk) e
    have := hp k h0
    omega
  unfold roadOf
  by_cases h : names.getD k 0 ≤ names.getD (par k) 0
  · simp only [h, if_true]
    exact ⟨by omega, h2⟩
  · simp only [h, if_false]
    exact ⟨by omega, h1⟩
theorem roadOf_inj (N : Names n names) {par : Nat → Nat} (hp : ∀ k, 0 < k → par k < k) {j k : Nat} (hj0 : 0 < j) (hj : j < n) (hk0 : 0 < k) (hk : k < n) (e : roadOf names par j = roadOf names par k) : j = k := by
  have pj := hp j hj0
  have pk := hp k hk0
  rcases roadOf_cases names par j with e1 | e1 <;> rcases roadOf_cases names par k with e2 | e2 <;> rw [e1, e2] at e <;> injection e with a b
  · exact N.inj hj hk a
  · have := N.inj hj (by omega) a
    have := N.inj (by omega) hk b
    omega
  · have := N.inj (by omega) hk a
    have := N.inj hj (by omega) b
    omega
  · exact N.inj hj hk b
theorem town_of (N : Names n names) (hn : 0 < n) {par : Nat → Nat} (hp : ∀ k, 0 < k → par k < k) {R : List (Nat × Nat)} (hR : R.Perm ((List.range (n - 1)).map fun i => roadOf names par (i + 1))) : Town n R := by
  have hm : ∀ r, r ∈ R ↔ ∃ k, 0 < k ∧ k < n ∧ roadOf names par k = r := fun r => by
    rw [hR.mem_iff, List.mem_map]
    constructor
    · rintro ⟨i, hi, e⟩
      have := List.mem_range.mp hi
      exact ⟨i + 1, by omega, by omega, e⟩
    · rintro ⟨k, h0, hk, e⟩
      exact ⟨k - 1, List.mem_range.mpr (by omega), by rw [show k - 1 + 1 = k from by omega]; exact e⟩
  refine ⟨hn, fun r hr => ?_, ?_, ?_, _, ((treeP hp hn).named (iv := fun x => names.idxOf x) (nm := fun k => names.getD k 0) (fun x hx => N.iv_lt hx) (fun k hk => N.nm_lt hk) (fun x hx => N.nm_iv hx) (fun k hk => N.iv_nm hk)).iff fun u v => ?_⟩
  · obtain ⟨k, h0, hk, rfl⟩ := (hm r).mp hr
    exact roadOf_ok N hp h0 hk
  · rw [hR.length_eq, List.length_map, List.length_range]
    omega
  · rw [hR.nodup_iff]
    refine List.pairwise_map.mpr (List.Pairwise.imp_of_mem (fun {a b} ha hb ne => ?_) List.nodup_range)
    intro e
    have ha := List.mem_range.mp ha
    have hb := List.mem_range.mp hb
    have := roadOf_inj N hp (by omega) (by omega) (by omega) (by omega) e
    exact ne (by omega)
  · constructor
    · rintro (h | h) <;> obtain ⟨k, h0, hk, e⟩ := (hm _).mp h <;> have hpk : par k < n := Nat.lt_trans (hp k h0) hk
      · rcases roadOf_cases names par k with e1 | e1 <;> rw [e1] at e <;> injection e with a b <;> subst a <;> subst b
        · exact ⟨N.nm_lt hk, N.nm_lt hpk, .inl ⟨by rw [N.iv_nm hk]; exact h0, by rw [N.iv_nm hk]; exact hk, by rw [N.iv_nm hk, N.iv_nm hpk]⟩⟩
        · exact ⟨N.nm_lt hpk, N.nm_lt hk, .inr ⟨by rw [N.iv_nm hk]; exact h0, by rw [N.iv_nm hk]; exact hk, by rw [N.iv_nm hk, N.iv_nm hpk]⟩⟩
      · rcases roadOf_cases names par k with e1 | e1 <;> rw [e1] at e <;> injection e with a b <;> subst a <;> subst b
        · exact ⟨N.nm_lt hpk, N.nm_lt hk, .inr ⟨by rw [N.iv_nm hk]; exact h0, by rw [N.iv_nm hk]; exact hk, by rw [N.iv_nm hk, N.iv_nm hpk]⟩⟩
        · exact ⟨N.nm_lt hk, N.nm_lt hpk, .inl ⟨by rw [N.iv_nm hk]; exact h0, by rw [N.iv_nm hk]; exact hk, by rw [N.iv_nm hk, N.iv_nm hpk]⟩⟩
    · rintro ⟨hu, hv, (⟨h0, hk, e⟩ | ⟨h0, hk, e⟩)⟩
      · have e1 : v = names.getD (par (names.idxOf u)) 0 := by rw [← N.nm_iv hv, e]
        have e2 : u = names.getD (names.idxOf u) 0 := (N.nm_iv hu).symm
        rcases roadOf_cases names par (names.idxOf u) with q | q
        · exact .inl ((hm _).mpr ⟨_, h0, hk, by rw [q, ← e1, ← e2]⟩)
        · exact .inr ((hm _).mpr ⟨_, h0, hk, by rw [q, ← e1, ← e2]⟩)
      · have e1 : u = names.getD (par (names.idxOf v)) 0 := by rw [← N.nm_iv hu, e]
        have e2 : v = names.getD (names.idxOf v) 0 := (N.nm_iv hv).symm
        rcases roadOf_cases names par (names.idxOf v) with q | q
        · exact .inr ((hm _).mpr ⟨_, h0, hk, by rw [q, ← e1, ← e2]⟩)
        · exact .inl ((hm _).mpr ⟨_, h0, hk, by rw [q, ← e1, ← e2]⟩)
end

/-! ### neighbours, leaves -/
def met1 (u : Nat) (r : Nat × Nat) : List Nat := (if r.1 = u then [r.2] else []) ++ (if r.2 = u then [r.1] else [])
def met (u : Nat) (R : List (Nat × Nat)) : List Nat := R.flatMap (met1 u)
theorem mem_met1 {u v : Nat} {r : Nat × Nat} : v ∈ met1 u r ↔ r = (u, v) ∨ r = (v, u) := by
  obtain ⟨a, b⟩ := r
  unfold met1
  rw [List.mem_append]
  show v ∈ (if a = u then [b] else []) ∨ v ∈ (if b = u then [a] else []) ↔ _
  constructor
  · rintro (h | h)
    · by_cases e : a = u
      · rw [if_pos e, List.mem_singleton] at h
        exact .inl (by rw [e, h])
      · rw [if_neg e] at h
        exact (List.not_mem_nil h).elim
    · by_cases e : b = u
      · rw [if_pos e, List.mem_singleton] at h
        exact .inr (by rw [e, h])
      · rw [if_neg e] at h
        exact (List.not_mem_nil h).elim
  · rintro (h | h) <;> injection h with e1 e2
    · exact .inl (by rw [if_pos e1, List.mem_singleton]; exact e2.symm)
    · exact .inr (by rw [if_pos e2, List.mem_singleton]; exact e1.symm)
theorem mem_met {u v : Nat} {R : List (Nat × Nat)} : v ∈ met u R ↔ RdAdj R u v := by
  unfold met
  rw [List.mem_flatMap]
  constructor
  · rintro ⟨r, hr, h⟩
    rcases mem_met1.mp h with e | e
    · rw [e] at hr; exact .inl hr
    · rw [e] at hr; exact .inr hr
  · rintro (h | h)
    · exact ⟨_, h, mem_met1.mpr (.inl rfl)⟩
    · exact ⟨_, h, mem_met1.mpr (.inr rfl)⟩
theorem met_nodup (u : Nat) : ∀ {R : List (Nat × Nat)}, R.Nodup → (∀ r ∈ R, r.1 < r.2) → (met u R).Nodup
  | [], _, _ => List.nodup_nil
  | r :: R, hn, hl => by
    obtain ⟨h1, h2⟩ := List.nodup_cons.mp hn
    have ih := met_nodup u h2 fun x hx => hl x (List.mem_cons_of_mem _ hx)
    have e : met u (r :: R) = met1 u r ++ met u R := by simp [met]
    rw [e]
    have hr := hl r List.mem_cons_self
    refine List.nodup_append.mpr ⟨?_, ih, fun x hx y hy q => ?_⟩
    · obtain ⟨a, b⟩ := r
      have hr : a < b := hr
      unfold met1
      by_cases h1 : a = u
      · have h2 : ¬ b = u := by omega
        simp [h1, h2]
      · by_cases h2 : b = u
        · simp [h1, h2]
        · simp [h1, h2]
    · subst q
      rcases mem_met1.mp hx with e1 | e1 <;> rcases mem_met.mp hy with e2 | e2
      · rw [e1] at h1; exact h1 e2
      · have := hl _ (List.mem_cons_of_mem _ e2)
        rw [e1] at hr
        have hr : u < x := hr
        have this : x < u := this
        omega
      · have := hl _ (List.mem_cons_of_mem _ e2)
        rw [e1] at hr
        have hr : x < u := hr
        have this : u < x := this
        omega
      · rw [e1] at h1; exact h1 e2
def degOf (R : List (Nat × Nat)) (h : Nat) : Nat := (R.filter fun r => decide (h = r.1 ∨ h = r.2)).length
theorem same_len {α : Type} {x : α} : ∀ {l : List α}, l.Nodup → x ∈ l → (∀ y ∈ l, y = x) → l.length = 1
  | [], _, h, _ => (List.not_mem_nil h).elim
  | [_], _, _, _ => rfl
  | a :: b :: r, hn, _, h => by
    have e1 := h a List.mem_cons_self
    have e2 := h b (List.mem_cons_of_mem _ List.mem_cons_self)
    rw [e1, e2] at hn
    exact ((List.nodup_cons.mp hn).1 List.mem_cons_self).elim
section
variable {n : Nat} {R : List (Nat × Nat)}
theorem Town.deg_leaf (T : Town n R) {h y : Nat} (a : RdAdj R y h) (u : ∀ z, RdAdj R z h → z = y) : degOf R h = 1 := by
  unfold degOf
  rcases a with a | a
  · have l1 := (T.lt _ a).1
    refine same_len (x := (y, h)) (T.nodup.filter _) (List.mem_filter.mpr ⟨a, decide_eq_true (.inr rfl)⟩) fun r hr => ?_
    obtain ⟨hr, hd⟩ := List.mem_filter.mp hr
    obtain ⟨p, q⟩ := r
    rcases of_decide_eq_true hd with e | e
    · have e : h = p := e
      subst e
      have e3 := u q (.inr hr)
      have l2 := (T.lt _ hr).1
      have l2 : h < q := l2
      have l1 : y < h := l1
      omega
    · have e : h = q := e
      subst e
      rw [u p (.inl hr)]
  · have l1 := (T.lt _ a).1
    refine same_len (x := (h, y)) (T.nodup.filter _) (List.mem_filter.mpr ⟨a, decide_eq_true (.inl rfl)⟩) fun r hr => ?_
    obtain ⟨hr, hd⟩ := List.mem_filter.mp hr
    obtain ⟨p, q⟩ := r
    rcases of_decide_eq_true hd with e | e
    · have e : h = p := e
      subst e
      rw [u q (.inr hr)]
    · have e : h = q := e
      subst e
      have e3 := u p (.inl hr)
      have l2 := (T.lt _ hr).1
      have l2 : p < h := l2
      have l1 : h < y := l1
      omega
def endsOf (n : Nat) (R : List (Nat × Nat)) : List Nat := (List.range n).filter fun h => decide (degOf R h = 1)
theorem Town.ends (T : Town n R) (hn : 2 ≤ n) : 2 ≤ (endsOf n R).length ∧ (endsOf n R).Nodup ∧ ∀ h ∈ endsOf n R, h < n := by
  obtain ⟨S, t⟩ := T.tree
  obtain ⟨h1, y1, l1, _, a1, u1⟩ := t.leaf (a := 0) T.pos hn
  obtain ⟨h2, y2, l2, ne, a2, u2⟩ := t.leaf (a := h1) l1 hn
  have nd : (endsOf n R).Nodup := List.nodup_range.filter _
  refine ⟨?_, nd, fun h hh => List.mem_range.mp (List.mem_filter.mp hh).1⟩
  have m1 : h1 ∈ endsOf n R := List.mem_filter.mpr ⟨List.mem_range.mpr l1, decide_eq_true (T.deg_leaf a1 u1)⟩
  have m2 : h2 ∈ endsOf n R := List.mem_filter.mpr ⟨List.mem_range.mpr l2, decide_eq_true (T.deg_leaf a2 u2)⟩
  have := nodup_sub (l := [h1, h2]) (m := endsOf n R) (List.nodup_cons.mpr ⟨fun q => ne (List.mem_singleton.mp q).symm, List.nodup_cons.mpr ⟨List.not_mem_nil, List.nodup_nil⟩⟩) (fun x hx => by
    rcases List.mem_cons.mp hx with e | e
    · rw [e]; exact m1
    · rw [List.mem_singleton.mp e]; exact m2)
  exact this
theorem filter_ne_len {l : List Nat} {x : Nat} (hn : l.Nodup) (hx : x ∈ l) : (l.filter fun y => decide (y ≠ x)).length = l.length - 1 := by
  rw [← List.length_erase_of_mem hx, hn.erase_eq_filter x]
  congr 1
  apply List.filter_congr
  intro y _
  by_cases h : y = x <;> simp [h]
end

/-! ### the walk over a tree from one house (what the program's ways lean on) -/
def empt (fo : List (List Nat)) : Nat := (fo.filter fun l => l.isEmpty).length
theorem empt_set : ∀ {fo : List (List Nat)} {o : Nat} {l : List Nat}, fo[o]? = some [] → l ≠ [] → empt (fo.set o l) + 1 = empt fo
  | [], o, l, h, _ => by simp at h
  | a :: r, 0, l, h, hl => by
    have e : a = [] := by simpa using h
    subst e
    have h1 : l.isEmpty = false := by cases l with
      | nil => exact (hl rfl).elim
      | cons => rfl
    simp [empt, h1]
  | a :: r, o + 1, l, h, hl => by
    have ih := empt_set (fo := r) (o := o) (l := l) (by simpa using h) hl
    unfold empt at ih ⊢
    rw [List.set_cons_succ, List.filter_cons, List.filter_cons]
    split
    · rw [List.length_cons, List.length_cons]; omega
    · exact ih
/-- fo: what is found, fr: the front; at_: the house at hand, rest: its neighbours that are not looked at yet -/
structure Wf (n : Nat) (near : Nat → List Nat) (h : Nat) (fo : List (List Nat)) (fr : List Nat) (at_ : Nat) (rest : List Nat) : Prop where
  len : fo.length = n
  frt : ∀ x ∈ fr, ∃ l, fo[x]? = some l ∧ l ≠ []
  here : ∃ l, fo[h]? = some l ∧ l ≠ []
  sz : ∀ (x : Nat) l, fo[x]? = some l → l.length + empt fo ≤ n
  cl : ∀ x y, x < n → y ∈ near x → (∃ l, fo[x]? = some l ∧ l ≠ []) → x ∈ fr ∨ (x = at_ ∧ y ∈ rest) ∨ ∃ l, fo[y]? = some l ∧ l ≠ []
section
variable {n : Nat} {near : Nat → List Nat} {h : Nat}
theorem empt_rep (m : Nat) : empt (List.replicate m []) = m := by
  unfold empt
  rw [List.filter_replicate]
  simp
theorem Wf.start (hh : h < n) : Wf n near h ((List.replicate n []).set h [h]) [h] h [] := by
  have hl : h < (List.replicate n ([] : List Nat)).length := by rw [List.length_replicate]; exact hh
  have e1 : ((List.replicate n ([] : List Nat)).set h [h])[h]? = some [h] := List.getElem?_set_self hl
  have e0 : (List.replicate n ([] : List Nat))[h]? = some [] := by rw [List.getElem?_replicate, if_pos hh]
  have e2 := empt_set (l := [h]) e0 (by simp)
  rw [empt_rep] at e2
  refine ⟨by rw [List.length_set, List.length_replicate], fun x hx => ?_, ⟨_, e1, by simp⟩, fun x l e => ?_, fun x y hx hy q => ?_⟩
  · rw [List.mem_singleton] at hx
    subst hx
    exact ⟨_, e1, by simp⟩
  · by_cases hx : h = x
    · subst hx
      rw [e1] at e
      cases e
      show 1 + _ ≤ n
      omega
    · rw [List.getElem?_set_ne hx, List.getElem?_replicate] at e
      split at e
      · cases e
        show 0 + _ ≤ n
        omega
      · cases e
  · obtain ⟨l, e, ne⟩ := q
    by_cases hx' : h = x
    · exact .inl (by rw [hx']; exact List.mem_singleton.mpr rfl)
    · rw [List.getElem?_set_ne hx', List.getElem?_replicate, if_pos hx] at e
      cases e
      exact (ne rfl).elim
theorem Wf.pop {fo : List (List Nat)} {fr : List Nat} {a b : Nat} (w : Wf n near h fo (fr ++ [a]) b []) : Wf n near h fo fr a (near a) := by
  refine ⟨w.len, fun x hx => w.frt x (List.mem_append_left _ hx), w.here, w.sz, fun x y hx hy q => ?_⟩
  rcases w.cl x y hx hy q with r | r | r
  · rcases List.mem_append.mp r with r | r
    · exact .inl r
    · rw [List.mem_singleton] at r
      subst r
      exact .inr (.inl ⟨rfl, hy⟩)
  · exact (List.not_mem_nil r.2).elim
  · exact .inr (.inr r)
theorem Wf.skip {fo : List (List Nat)} {fr rest : List Nat} {a o : Nat} {l : List Nat} (w : Wf n near h fo fr a (o :: rest)) (e : fo[o]? = some l) (ne : l ≠ []) : Wf n near h fo fr a rest := by
  refine ⟨w.len, w.frt, w.here, w.sz, fun x y hx hy q => ?_⟩
  rcases w.cl x y hx hy q with r | ⟨r1, r2⟩ | r
  · exact .inl r
  · rcases List.mem_cons.mp r2 with z | z
    · subst z
      exact .inr (.inr ⟨l, e, ne⟩)
    · exact .inr (.inl ⟨r1, z⟩)
  · exact .inr (.inr r)
theorem Wf.add {fo : List (List Nat)} {fr rest : List Nat} {a o : Nat} {l : List Nat} (w : Wf n near h fo fr a (o :: rest)) (e : fo[o]? = some []) (ea : fo[a]? = some l) : Wf n near h (fo.set o (l ++ [o])) (fr ++ [o]) a rest ∧ empt (fo.set o (l ++ [o])) + 1 = empt fo := by
  have he := empt_set (l := l ++ [o]) e (by simp)
  have hl : o < fo.length := (List.getElem?_eq_some_iff.mp e).1
  have e1 : (fo.set o (l ++ [o]))[o]? = some (l ++ [o]) := List.getElem?_set_self hl
  have keep : ∀ x, (∃ l : List Nat, fo[x]? = some l ∧ l ≠ []) → ∃ l', (fo.set o (l ++ [o]))[x]? = some l' ∧ l' ≠ [] := fun x hx => by
    obtain ⟨m, q, ne⟩ := hx
    by_cases hx : o = x
    · subst hx
      rw [e] at q
      cases q
      exact (ne rfl).elim
    · exact ⟨m, by rw [List.getElem?_set_ne hx]; exact q, ne⟩
  refine ⟨⟨by rw [List.length_set]; exact w.len, fun x hx => ?_, keep h w.here, fun x m q => ?_, fun x y hx hy q => ?_⟩, he⟩
  · rcases List.mem_append.mp hx with hx | hx
    · exact keep x (w.frt x hx)
    · rw [List.mem_singleton] at hx
      subst hx
      exact ⟨_, e1, by simp⟩
  · by_cases hx : o = x
    · subst hx
      rw [e1] at q
      cases q
      have := w.sz a l ea
      rw [List.length_append, List.length_singleton]
      omega
    · rw [List.getElem?_set_ne hx] at q
      have := w.sz x m q
      omega
  · by_cases hxo : o = x
    · subst hxo
      exact .inl (List.mem_append_right _ (List.mem_singleton.mpr rfl))
    · obtain ⟨m, q1, q2⟩ := q
      rw [List.getElem?_set_ne hxo] at q1
      rcases w.cl x y hx hy ⟨m, q1, q2⟩ with r | ⟨r1, r2⟩ | r
      · exact .inl (List.mem_append_left _ r)
      · rcases List.mem_cons.mp r2 with z | z
        · subst z
          exact .inr (.inr ⟨_, e1, by simp⟩)
        · exact .inr (.inl ⟨r1, z⟩)
      · exact .inr (.inr (keep y r))
/-- at the end all are found -/
theorem Wf.done {adj : Nat → Nat → Prop} {S : Nat → Nat → Nat → Prop} (T : TreeS n adj S) (hnear : ∀ x y, adj x y → y ∈ near x) (hh : h < n) {fo : List (List Nat)} {a : Nat} (w : Wf n near h fo [] a []) : ∀ l ∈ fo, l ≠ [] := by
  have key : ∀ x, x < n → ∃ l, fo[x]? = some l ∧ l ≠ [] := fun x hx => by
    refine T.conn (fun x => ∃ l, fo[x]? = some l ∧ l ≠ []) (fun u v q p => ?_) h x hh hx w.here
    rcases w.cl u v (T.lt q).1 (hnear u v q) p with r | r | r
    · exact (List.not_mem_nil r).elim
    · exact (List.not_mem_nil r.2).elim
    · exact r
  intro l hl
  obtain ⟨i, hi, e⟩ := List.getElem_of_mem hl
  obtain ⟨m, q, ne⟩ := key i (by rw [← w.len]; exact hi)
  rw [List.getElem?_eq_getElem hi, e] at q
  cases q
  exact ne
end
end K9
end

section
/-! The plain store: its invariant, the deeds keep it, what the law asks follows from it. Core Lean only. -/
set_option linter.all false
namespace K9

theorem Way.head {adj : Nat → Nat → Prop} {a b : Nat} {p : List Nat} (w : Way adj a b p) : p[0]? = some a := by
  induction w with
  | one => rfl
  | @step u v p w1 _ _ ih =>
    cases p with
    | nil => exact (List.not_mem_nil w1.first).elim
    | cons x r => exact ih
theorem Way.steps {adj : Nat → Nat → Prop} {a b : Nat} {p : List Nat} (w : Way adj a b p) : ∀ (i : Nat) x y, p[i]? = some x → p[i + 1]? = some y → ∃ q, Way adj a x q ∧ adj x y ∧ y ∉ q := by
  induction w with
  | one =>
    intro i x y _ e
    cases i <;> simp at e
  | @step u v p w1 h1 h2 ih =>
    intro i x y e1 e2
    by_cases hi : i + 1 < p.length
    · rw [List.getElem?_append_left (by omega)] at e1
      rw [List.getElem?_append_left hi] at e2
      exact ih i x y e1 e2
    · have hlt := (List.getElem?_eq_some_iff.mp e2).1
      rw [List.length_append, List.length_singleton] at hlt
      have hp : i + 1 = p.length := by omega
      rw [List.getElem?_append_left (by omega)] at e1
      rw [List.getElem?_append_right (by omega), hp, Nat.sub_self] at e2
      have e3 : v = y := by simpa using e2
      have e4 := w1.getLast
      rw [List.getLast?_eq_getElem?] at e4
      have e5 : p.length - 1 = i := by omega
      rw [e5, e1] at e4
      have e6 : x = u := Option.some.inj e4
      subst e3
      subst e6
      exact ⟨p, w1, h1, h2⟩

/-- what the store leans on: W h v is the way from h to v -/
structure TreeW (n : Nat) (adj : Nat → Nat → Prop) (W : Nat → Nat → List Nat) : Prop where
  lt : ∀ {u v}, adj u v → u < n ∧ v < n
  symm : ∀ {u v}, adj u v → adj v u
  ne : ∀ {u v}, adj u v → u ≠ v
  own : ∀ {u v}, adj u v → u ∈ W u v
  opp : ∀ {u v h}, adj u v → h < n → (v ∈ W h u ↔ u ∉ W h v)
  on : ∀ {u v w h}, adj u v → adj v w → w ≠ u → h < n → u ∈ W h v → v ∈ W h w
  wy : ∀ {u v h}, adj u v → h < n → u ∈ W h v → ∀ x ∈ W h v, x ∈ W h u ∨ x = v
  self : ∀ h, h < n → W h h = [h]
  first : ∀ h v, h < n → v < n → h ∈ W h v
  lts : ∀ h v, h < n → v < n → ∀ x ∈ W h v, x < n
  wnd : ∀ h v, h < n → v < n → (W h v).Nodup
  head : ∀ h v, h < n → v < n → (W h v)[0]? = some h
  steps : ∀ h v, h < n → v < n → ∀ (i : Nat) x y, (W h v)[i]? = some x → (W h v)[i + 1]? = some y → adj x y ∧ x ∈ W h y
  conn : ∀ (P : Nat → Prop), (∀ u v, adj u v → P u → P v) → ∀ a b, a < n → b < n → P a → P b
theorem TreeS.toW {n : Nat} {adj : Nat → Nat → Prop} {S : Nat → Nat → Nat → Prop} (T : TreeS n adj S) {W : Nat → Nat → List Nat} (hW : ∀ a b, a < n → b < n → Way adj a b (W a b)) : TreeW n adj W where
  lt := T.lt
  symm := T.symm
  ne := T.ne
  own := fun h => ((hW _ _ (T.lt h).1 (T.lt h).2).mem_iff T (T.lt h).1 h).mpr (T.own h)
  opp := fun {u v x} h hx => by
    rw [(hW x u hx (T.lt h).1).mem_iff T hx (T.symm h), (hW x v hx (T.lt h).2).mem_iff T hx h]
    exact T.opp h hx
  on := fun {u v w x} h1 h2 ne hx m => by
    rw [(hW x w hx (T.lt h2).2).mem_iff T hx h2]
    rw [(hW x v hx (T.lt h1).2).mem_iff T hx h1] at m
    exact T.on h1 h2 ne hx m
  wy := fun {u v x} h hx m y hy => by
    rw [(hW x v hx (T.lt h).2).mem_iff T hx h] at m
    obtain ⟨q, e, w⟩ := (hW x v hx (T.lt h).2).over T hx h m
    rw [e] at hy
    have e2 := w.uniq T hx (hW x u hx (T.lt h).1)
    rcases List.mem_append.mp hy with z | z
    · rw [e2] at z
      exact .inl z
    · exact .inr (List.mem_singleton.mp z)
  self := fun h hh => (hW h h hh hh).one_only
  first := fun h v hh hv => (hW h v hh hv).first
  lts := fun h v hh hv => (hW h v hh hv).lt T hh
  wnd := fun h v hh hv => (hW h v hh hv).nodup
  head := fun h v hh hv => (hW h v hh hv).head
  steps := fun h v hh hv i x y e1 e2 => by
    obtain ⟨p, w, a, hy⟩ := (hW h v hh hv).steps i x y e1 e2
    exact ⟨a, ((hW h y hh (T.lt a).2).mem_iff T hh a).mpr (w.side T hh a hy)⟩
  conn := T.conn

structure Ln (τ : Type) where
  home : Nat
  num : Nat
  cell : τ
  text : τ
  deriving DecidableEq
abbrev Ky := Nat × Nat
def Ln.key {τ : Type} (l : Ln τ) : Ky := (l.home, l.num)
abbrev Notes := List (Ky × List Ky)
def look (ns : Notes) (k : Ky) : Option (List Ky) := (ns.find? fun p => decide (p.1 = k)).map (·.2)
theorem look_snoc {ns : Notes} {k j : Ky} {ks : List Ky} (h : k ∉ ns.map (·.1)) : look (ns ++ [(k, ks)]) j = if j = k then some ks else look ns j := by
  unfold look
  rw [List.find?_append]
  by_cases e : j = k
  · subst e
    have h1 : ns.find? (fun p => decide (p.1 = j)) = none := by
      rw [List.find?_eq_none]
      intro x hx q
      exact h (List.mem_map.mpr ⟨x, hx, of_decide_eq_true q⟩)
    rw [h1, if_pos rfl]
    simp
  · rw [if_neg e]
    have h1 : [(k, ks)].find? (fun p => decide (p.1 = j)) = none := by
      rw [List.find?_eq_none]
      intro x hx q
      rw [List.mem_singleton] at hx
      subst hx
      exact e (of_decide_eq_true q).symm
    rw [h1, Option.or_none]

section
variable {τ : Type} [DecidableEq τ]
def upB (B : Nat → List (Ln τ)) (h : Nat) (x : List (Ln τ)) : Nat → List (Ln τ) := fun v => if v = h then x else B v
theorem upB_same {B : Nat → List (Ln τ)} {h : Nat} {x : List (Ln τ)} : upB B h x h = x := if_pos rfl
theorem upB_ne {B : Nat → List (Ln τ)} {h v : Nat} {x : List (Ln τ)} (e : v ≠ h) : upB B h x v = B v := if_neg e
/-- the lines of u's side of the road to v -/
def sideL (W : Nat → Nat → List Nat) (u v : Nat) (b : List (Ln τ)) : List (Ln τ) := b.filter fun l => decide (u ∈ W l.home v)
def ofHome (h : Nat) (b : List (Ln τ)) : List (Ln τ) := b.filter fun l => decide (l.home = h)
def keysL (b : List (Ln τ)) : List Ky := b.map Ln.key

structure Std (n : Nat) (adj : Nat → Nat → Prop) (W : Nat → Nat → List Nat) (B : Nat → List (Ln τ)) (q : Nat → Nat → List (Ln τ)) (ns : Notes) : Prop where
  home : ∀ v, v < n → ∀ l ∈ B v, l.home < n
  nd : ∀ v, v < n → (keysL (B v)).Nodup
  num : ∀ v, v < n → ∀ h, (ofHome h (B v)).map Ln.num = List.range (ofHome h (B v)).length
  side : ∀ u v, adj u v → sideL W u v (B u) = sideL W u v (B v) ++ q u v
  way : ∀ v, v < n → ∀ l ∈ B v, ∀ w ∈ W l.home v, l ∈ B w
  note : ∀ v, v < n → ∀ pre l post, B v = pre ++ l :: post → ∃ ks, look ns l.key = some ks ∧ (∀ k ∈ ks, k ∈ keysL pre) ∧ (l.home = v → ks = keysL pre)
  kn : (ns.map (·.1)).Nodup
  ks : ∀ k ∈ ns.map (·.1), k.1 < n ∧ ∃ l ∈ B k.1, l.key = k
  inj : ∀ p ∈ ns, p.2.Nodup

section
variable {n : Nat} {adj : Nat → Nat → Prop} {W : Nat → Nat → List Nat} {B : Nat → List (Ln τ)} {q : Nat → Nat → List (Ln τ)} {ns : Notes}

theorem nodup_of_map {α β : Type} {f : α → β} {l : List α} (h : (l.map f).Nodup) : l.Nodup := by
  refine List.Pairwise.imp (fun {a b} ne e => ne (by rw [e])) (List.pairwise_map.mp h)
theorem inj_of_map {α β : Type} {f : α → β} : ∀ {l : List α}, (l.map f).Nodup → ∀ x ∈ l, ∀ y ∈ l, f x = f y → x = y
  | [], _, x, hx, _, _, _ => (List.not_mem_nil hx).elim
  | a :: r, h, x, hx, y, hy, e => by
    rw [List.map_cons] at h
    obtain ⟨h1, h2⟩ := List.nodup_cons.mp h
    rcases List.mem_cons.mp hx with hx | hx <;> rcases List.mem_cons.mp hy with hy | hy
    · rw [hx, hy]
    · rw [hx] at e
      exact (h1 (List.mem_map.mpr ⟨y, hy, e.symm⟩)).elim
    · rw [hy] at e
      exact (h1 (List.mem_map.mpr ⟨x, hx, e⟩)).elim
    · exact inj_of_map h2 x hx y hy e
theorem Std.nodup (s : Std n adj W B q ns) {v : Nat} (hv : v < n) : (B v).Nodup := nodup_of_map (s.nd v hv)
theorem Std.atHome (s : Std n adj W B q ns) (T : TreeW n adj W) {v : Nat} (hv : v < n) {l : Ln τ} (hl : l ∈ B v) : l ∈ B l.home :=
  s.way v hv l hl _ (T.first _ _ (s.home v hv l hl) hv)
theorem Std.one (s : Std n adj W B q ns) (T : TreeW n adj W) {v w : Nat} (hv : v < n) (hw : w < n) {l m : Ln τ} (hl : l ∈ B v) (hm : m ∈ B w) (e : l.key = m.key) : l = m := by
  have h1 := s.atHome T hv hl
  have h2 := s.atHome T hw hm
  have e1 : l.home = m.home := congrArg Prod.fst e
  rw [← e1] at h2
  exact inj_of_map (s.nd _ (s.home v hv l hl)) l h1 m h2 e
/-- what is under way, as the law sees it -/
theorem Std.ready (s : Std n adj W B q ns) (T : TreeW n adj W) {u v : Nat} (h : adj u v) : (B u).filter (fun l => decide (l ∉ B v) && decide (u ∈ W l.home v)) = q u v := by
  have e1 : (B u).filter (fun l => decide (l ∉ B v) && decide (u ∈ W l.home v)) = (sideL W u v (B u)).filter fun l => decide (l ∉ B v) := by
    unfold sideL
    rw [List.filter_filter]
  have hn : (sideL W u v (B u)).Nodup := (s.nodup (T.lt h).1).filter _
  rw [e1, s.side u v h, List.filter_append]
  rw [s.side u v h] at hn
  have e2 : (sideL W u v (B v)).filter (fun l => decide (l ∉ B v)) = [] := by
    rw [List.filter_eq_nil_iff]
    intro l hl q
    exact of_decide_eq_true q (List.mem_filter.mp hl).1
  have e3 : (q u v).filter (fun l => decide (l ∉ B v)) = q u v := by
    rw [List.filter_eq_self]
    intro l hl
    refine decide_eq_true fun hv => ?_
    have h1 : l ∈ sideL W u v (B u) := by rw [s.side u v h]; exact List.mem_append_right _ hl
    have h2 : l ∈ sideL W u v (B v) := List.mem_filter.mpr ⟨hv, (List.mem_filter.mp h1).2⟩
    exact (List.nodup_append.mp hn).2.2 l h2 l hl rfl
  rw [e2, e3, List.nil_append]
theorem Std.q_mem (s : Std n adj W B q ns) {u v : Nat} (h : adj u v) {l : Ln τ} (hl : l ∈ q u v) : l ∈ B u ∧ u ∈ W l.home v := by
  have h1 : l ∈ sideL W u v (B u) := by rw [s.side u v h]; exact List.mem_append_right _ hl
  exact ⟨(List.mem_filter.mp h1).1, of_decide_eq_true (List.mem_filter.mp h1).2⟩
theorem Std.q_not (s : Std n adj W B q ns) (T : TreeW n adj W) {u v : Nat} (h : adj u v) {l : Ln τ} (hl : l ∈ q u v) : l ∉ B v := by
  rw [← s.ready T h] at hl
  have h1 := (List.mem_filter.mp hl).2
  rw [Bool.and_eq_true] at h1
  exact of_decide_eq_true h1.1

/-! ### make -/
def newLine (B : Nat → List (Ln τ)) (h : Nat) (c t : τ) : Ln τ := ⟨h, (ofHome h (B h)).length, c, t⟩
def madeQ (q : Nat → Nat → List (Ln τ)) (h : Nat) (l : Ln τ) : Nat → Nat → List (Ln τ) := fun u v => if u = h then q u v ++ [l] else q u v
theorem Std.new_key (s : Std n adj W B q ns) (T : TreeW n adj W) {h : Nat} (hh : h < n) (c t : τ) : ∀ v, v < n → ∀ m ∈ B v, m.key ≠ (newLine B h c t).key := by
  intro v hv m hm e
  have h1 := s.atHome T hv hm
  have e1 : m.home = h := congrArg Prod.fst e
  have e2 : m.num = (ofHome h (B h)).length := congrArg Prod.snd e
  rw [e1] at h1
  have h2 : m.num ∈ (ofHome h (B h)).map Ln.num := List.mem_map.mpr ⟨m, List.mem_filter.mpr ⟨h1, decide_eq_true e1⟩, rfl⟩
  rw [s.num h hh h] at h2
  have h3 := List.mem_range.mp h2
  omega
theorem ofHome_snoc (h : Nat) (b : List (Ln τ)) (l : Ln τ) : ofHome h (b ++ [l]) = ofHome h b ++ (if l.home = h then [l] else []) := by
  unfold ofHome
  rw [List.filter_append]
  congr 1
  by_cases e : l.home = h <;> simp [e]
theorem sideL_snoc (W : Nat → Nat → List Nat) (u v : Nat) (b : List (Ln τ)) (l : Ln τ) : sideL W u v (b ++ [l]) = sideL W u v b ++ (if u ∈ W l.home v then [l] else []) := by
  unfold sideL
  rw [List.filter_append]
  congr 1
  by_cases e : u ∈ W l.home v <;> simp [e]
theorem split_snoc {α : Type} {b : List α} {x : α} {pre : List α} {l : α} {post : List α} (e : b ++ [x] = pre ++ l :: post) : (post = [] ∧ l = x ∧ pre = b) ∨ ∃ p', post = p' ++ [x] ∧ b = pre ++ l :: p' := by
  rcases List.eq_nil_or_concat post with h | ⟨p', y, h⟩
  · subst h
    have h1 : b = pre := List.append_inj_left' e rfl
    have h2 : [x] = [l] := List.append_inj_right' e rfl
    injection h2 with h2 _
    exact .inl ⟨rfl, h2.symm, h1.symm⟩
  · rw [List.concat_eq_append] at h
    subst h
    have e' : b ++ [x] = (pre ++ l :: p') ++ [y] := by rw [e]; simp
    have h1 := List.append_inj_left' e' rfl
    have h2 : [x] = [y] := List.append_inj_right' e' rfl
    injection h2 with h2 _
    exact .inr ⟨p', by rw [h2], h1⟩
theorem Std.make (s : Std n adj W B q ns) (T : TreeW n adj W) {h : Nat} (hh : h < n) (c t : τ) :
    Std n adj W (upB B h (B h ++ [newLine B h c t])) (madeQ q h (newLine B h c t)) (ns ++ [((newLine B h c t).key, keysL (B h))]) := by
  generalize hl : newLine B h c t = l
  have lh : l.home = h := by rw [← hl]; rfl
  have ln : l.num = (ofHome h (B h)).length := by rw [← hl]; rfl
  have fresh : ∀ v, v < n → ∀ m ∈ B v, m.key ≠ l.key := by rw [← hl]; exact s.new_key T hh c t
  have hk : l.key ∉ ns.map (·.1) := fun hm => by
    obtain ⟨_, m, hm1, hm2⟩ := s.ks _ hm
    have : l.key.1 = h := lh
    rw [this] at hm1
    exact fresh h hh m hm1 hm2
  have lnot : ∀ v, v < n → l ∉ B v := fun v hv hm => fresh v hv l hm rfl
  refine ⟨fun v hv m hm => ?_, fun v hv => ?_, fun v hv g => ?_, fun u v a => ?_, fun v hv m hm w hw => ?_, fun v hv pre m post e => ?_, ?_, fun k hk' => ?_, fun p hp => ?_⟩
  · by_cases e : v = h
    · subst e
      rw [upB_same] at hm
      rcases List.mem_append.mp hm with z | z
      · exact s.home v hv m z
      · rw [List.mem_singleton.mp z, lh]; exact hh
    · rw [upB_ne e] at hm
      exact s.home v hv m hm
  · by_cases e : v = h
    · subst e
      rw [upB_same]
      unfold keysL
      rw [List.map_append]
      refine List.nodup_append.mpr ⟨s.nd v hv, List.nodup_cons.mpr ⟨List.not_mem_nil, List.nodup_nil⟩, fun x hx y hy q => ?_⟩
      obtain ⟨m, hm, rfl⟩ := List.mem_map.mp hx
      have hy : y = l.key := List.mem_singleton.mp hy
      rw [hy] at q
      exact fresh v hv m hm q
    · rw [upB_ne e]; exact s.nd v hv
  · by_cases e : v = h
    · subst e
      rw [upB_same, ofHome_snoc]
      by_cases e2 : l.home = g
      · rw [if_pos e2, List.map_append, s.num v hv g, List.length_append, List.length_singleton, List.range_succ]
        have : l.num = (ofHome g (B v)).length := by rw [ln, ← e2, lh]
        simp [this]
      · rw [if_neg e2, List.append_nil]; exact s.num v hv g
    · rw [upB_ne e]; exact s.num v hv g
  · have hu := (T.lt a).1
    have hv := (T.lt a).2
    have ne := T.ne a
    unfold madeQ
    by_cases e : u = h
    · subst e
      rw [upB_same, upB_ne (fun z => ne z.symm), sideL_snoc, if_pos rfl, lh, if_pos (T.own a), s.side u v a, List.append_assoc]
    · rw [upB_ne e, if_neg e]
      by_cases e2 : v = h
      · subst e2
        have hno : u ∉ W l.home v := by
          rw [lh]
          exact (T.opp a hv).mp (T.own (T.symm a))
        rw [upB_same, sideL_snoc, if_neg hno, List.append_nil]
        exact s.side u v a
      · rw [upB_ne e2]; exact s.side u v a
  · by_cases e : v = h
    · subst e
      rw [upB_same] at hm
      rcases List.mem_append.mp hm with z | z
      · have := s.way v hv m z w hw
        by_cases e3 : w = v
        · subst e3
          rw [upB_same]; exact List.mem_append_left _ this
        · rw [upB_ne e3]; exact this
      · rw [List.mem_singleton.mp z] at hw ⊢
        rw [lh, T.self v hv] at hw
        rw [List.mem_singleton.mp hw, upB_same]
        exact List.mem_append_right _ (List.mem_singleton.mpr rfl)
    · rw [upB_ne e] at hm
      have := s.way v hv m hm w hw
      by_cases e3 : w = h
      · subst e3
        rw [upB_same]; exact List.mem_append_left _ this
      · rw [upB_ne e3]; exact this
  · have old : ∀ pre m post, B v = pre ++ m :: post → ∃ ks, look (ns ++ [(l.key, keysL (B h))]) m.key = some ks ∧ (∀ k ∈ ks, k ∈ keysL pre) ∧ (m.home = v → ks = keysL pre) := fun pre m post e => by
      obtain ⟨ks, h1, h2⟩ := s.note v hv pre m post e
      have hm : m ∈ B v := by rw [e]; exact List.mem_append_right _ List.mem_cons_self
      exact ⟨ks, by rw [look_snoc hk, if_neg (fresh v hv m hm)]; exact h1, h2⟩
    by_cases e1 : v = h
    · subst e1
      rw [upB_same] at e
      rcases split_snoc e with ⟨_, e2, e3⟩ | ⟨p', _, e3⟩
      · subst e2
        subst e3
        exact ⟨keysL (B v), by rw [look_snoc hk, if_pos rfl], fun k hk => hk, fun _ => rfl⟩
      · exact old pre m p' e3
    · rw [upB_ne e1] at e
      exact old pre m post e
  · rw [List.map_append]
    refine List.nodup_append.mpr ⟨s.kn, List.nodup_cons.mpr ⟨List.not_mem_nil, List.nodup_nil⟩, fun x hx y hy q => ?_⟩
    have hy : y = l.key := List.mem_singleton.mp hy
    rw [q, hy] at hx
    exact hk hx
  · rw [List.map_append] at hk'
    rcases List.mem_append.mp hk' with z | z
    · obtain ⟨h1, m, hm, e⟩ := s.ks k z
      refine ⟨h1, m, ?_, e⟩
      by_cases e3 : k.1 = h
      · rw [e3] at hm ⊢
        rw [upB_same]; exact List.mem_append_left _ hm
      · rw [upB_ne e3]; exact hm
    · have z : k = l.key := List.mem_singleton.mp z
      subst z
      have e4 : l.key.1 = h := lh
      refine ⟨by rw [e4]; exact hh, l, ?_, rfl⟩
      rw [e4, upB_same]
      exact List.mem_append_right _ (List.mem_singleton.mpr rfl)
  · rcases List.mem_append.mp hp with z | z
    · exact s.inj p z
    · rw [List.mem_singleton.mp z]
      exact s.nd h hh

/-! ### hand -/
def handQ (q : Nat → Nat → List (Ln τ)) (u v : Nat) (l : Ln τ) (rest : List (Ln τ)) : Nat → Nat → List (Ln τ) := fun x y =>
  if x = u ∧ y = v then rest else if x = v ∧ y ≠ u then q x y ++ [l] else q x y
theorem nodup_split {α : Type} {a b c d : List α} {x : α} (hn : (a ++ x :: b).Nodup) (e : a ++ x :: b = c ++ x :: d) : a = c := by
  induction a generalizing c with
  | nil =>
    cases c with
    | nil => rfl
    | cons y c =>
      exfalso
      rw [List.nil_append, List.cons_append] at e
      injection e with e1 e2
      rw [List.nil_append] at hn
      exact (List.nodup_cons.mp hn).1 (by rw [e2]; exact List.mem_append_right _ List.mem_cons_self)
  | cons y a ih =>
    cases c with
    | nil =>
      exfalso
      rw [List.nil_append, List.cons_append] at e
      injection e with e1 e2
      rw [List.cons_append] at hn
      exact (List.nodup_cons.mp hn).1 (by rw [e1]; exact List.mem_append_right _ List.mem_cons_self)
    | cons z c =>
      rw [List.cons_append, List.cons_append] at e
      injection e with e1 e2
      rw [List.cons_append] at hn
      rw [e1, ih (List.nodup_cons.mp hn).2 e2]
/-- what was ahead of a line under way is under way ahead of it, or in the book beyond -/
theorem Std.ahead (s : Std n adj W B q ns) (T : TreeW n adj W) {u v : Nat} (a : adj u v) {p r : List (Ln τ)} {l : Ln τ} (e : q u v = p ++ l :: r) :
    ∃ pre post, B u = pre ++ l :: post ∧ ∀ x ∈ pre, x ∈ p ∨ x ∈ B v := by
  have hu := (T.lt a).1
  have hv := (T.lt a).2
  have hl : l ∈ q u v := by rw [e]; exact List.mem_append_right _ List.mem_cons_self
  obtain ⟨hlu, hs⟩ := s.q_mem a hl
  obtain ⟨pre, post, e1⟩ := List.append_of_mem hlu
  refine ⟨pre, post, e1, fun x hx => ?_⟩
  have hxu : x ∈ B u := by rw [e1]; exact List.mem_append_left _ hx
  have hxh := s.home u hu x hxu
  by_cases hxs : u ∈ W x.home v
  · have e2 : sideL W u v (B u) = sideL W u v pre ++ l :: sideL W u v post := by
      rw [e1]
      unfold sideL
      rw [List.filter_append, List.filter_cons, if_pos (decide_eq_true hs)]
    have hn : (sideL W u v (B u)).Nodup := (s.nodup hu).filter _
    have e3 := s.side u v a
    rw [e, ← List.append_assoc] at e3
    rw [e3] at hn
    have e4 : sideL W u v (B v) ++ p = sideL W u v pre := nodup_split hn (by rw [← e3, e2])
    have hx2 : x ∈ sideL W u v pre := List.mem_filter.mpr ⟨hx, decide_eq_true hxs⟩
    rw [← e4] at hx2
    rcases List.mem_append.mp hx2 with z | z
    · exact .inr (List.mem_filter.mp z).1
    · exact .inl z
  · have h2 : v ∈ W x.home u := (T.opp a hxh).mpr hxs
    have h3 : x ∈ sideL W v u (B v) := by
      rw [s.side v u (T.symm a)]
      exact List.mem_append_left _ (List.mem_filter.mpr ⟨hxu, decide_eq_true h2⟩)
    exact .inr (List.mem_filter.mp h3).1
theorem Std.hand (s : Std n adj W B q ns) (T : TreeW n adj W) {u v : Nat} (a : adj u v) {l : Ln τ} {rest : List (Ln τ)} (e : q u v = l :: rest) :
    Std n adj W (upB B v (B v ++ [l])) (handQ q u v l rest) ns := by
  have hu := (T.lt a).1
  have hv := (T.lt a).2
  have ne := T.ne a
  have hl : l ∈ q u v := by rw [e]; exact List.mem_cons_self
  obtain ⟨hlu, hs⟩ := s.q_mem a hl
  have hlv := s.q_not T a hl
  have hlh := s.home u hu l hlu
  have hno : v ∉ W l.home u := fun z => (T.opp a hlh).mp z hs
  have fresh : ∀ m ∈ B v, m.key ≠ l.key := fun m hm z => hlv (by rw [← s.one T hv hu hm hlu z]; exact hm)
  have sd := s.side u v a
  rw [e] at sd
  refine ⟨fun w hw m hm => ?_, fun w hw => ?_, fun w hw g => ?_, fun x y b => ?_, fun w hw m hm z hz => ?_, fun w hw pre m post e1 => ?_, s.kn, fun k hk => ?_, s.inj⟩
  · by_cases e1 : w = v
    · subst e1
      rw [upB_same] at hm
      rcases List.mem_append.mp hm with z | z
      · exact s.home w hw m z
      · rw [List.mem_singleton.mp z]; exact hlh
    · rw [upB_ne e1] at hm
      exact s.home w hw m hm
  · by_cases e1 : w = v
    · subst e1
      rw [upB_same]
      unfold keysL
      rw [List.map_append]
      refine List.nodup_append.mpr ⟨s.nd w hw, List.nodup_cons.mpr ⟨List.not_mem_nil, List.nodup_nil⟩, fun x hx y hy q => ?_⟩
      obtain ⟨m, hm, rfl⟩ := List.mem_map.mp hx
      have hy : y = l.key := List.mem_singleton.mp hy
      rw [hy] at q
      exact fresh m hm q
    · rw [upB_ne e1]; exact s.nd w hw
  · by_cases e1 : w = v
    · subst e1
      rw [upB_same, ofHome_snoc]
      by_cases e2 : l.home = g
      · rw [if_pos e2, List.map_append, s.num w hw g, List.length_append, List.length_singleton, List.range_succ]
        -- the lines of this home in the two books
        have e3 : ofHome g (B u) = ofHome g (B w) ++ l :: ofHome g rest := by
          have h1 : ∀ b : List (Ln τ), ofHome g (sideL W u w b) = ofHome g b := fun b => by
            unfold ofHome sideL
            rw [List.filter_filter]
            apply List.filter_congr
            intro m _
            by_cases hm : m.home = g
            · rw [hm, ← e2]; simp [hs]
            · simp [hm]
          rw [← h1 (B u), ← h1 (B w), sd]
          unfold ofHome
          rw [List.filter_append, List.filter_cons, if_pos (decide_eq_true e2)]
        have e4 := s.num u hu g
        rw [e3] at e4
        have e5 : l.num = (ofHome g (B w)).length := by
          have h6 : ((ofHome g (B w) ++ l :: ofHome g rest).map Ln.num)[(ofHome g (B w)).length]? = some l.num := by
            rw [List.map_append, List.getElem?_append_right (by rw [List.length_map]; exact Nat.le_refl _), List.length_map, Nat.sub_self]
            rfl
          rw [e4, List.getElem?_range (by rw [List.length_append, List.length_cons]; omega)] at h6
          exact (Option.some.inj h6).symm
        simp [e5]
      · rw [if_neg e2, List.append_nil]; exact s.num w hw g
    · rw [upB_ne e1]; exact s.num w hw g
  · unfold handQ
    have bne := T.ne b
    by_cases e1 : x = u ∧ y = v
    · obtain ⟨ex, ey⟩ := e1
      subst ex; subst ey
      rw [if_pos ⟨rfl, rfl⟩, upB_ne ne, upB_same, sideL_snoc, if_pos hs, sd, List.append_assoc]
      rfl
    · rw [if_neg e1]
      by_cases e2 : x = v
      · subst e2
        rw [upB_same, upB_ne (fun z => bne z.symm), sideL_snoc]
        by_cases e3 : y = u
        · subst e3
          rw [if_neg hno, List.append_nil, if_neg (fun z => z.2 rfl)]
          exact s.side x y b
        · rw [if_pos (T.on a b e3 hlh hs), if_pos ⟨rfl, e3⟩, s.side x y b, List.append_assoc]
      · rw [upB_ne e2, if_neg (fun z => e2 z.1)]
        by_cases e3 : y = v
        · subst e3
          rw [upB_same, sideL_snoc]
          have hx : x ≠ u := fun z => e1 ⟨z, rfl⟩
          have h4 : x ∉ W l.home y := (T.opp b hlh).mp (T.on a (T.symm b) hx hlh hs)
          rw [if_neg h4, List.append_nil]
          exact s.side x y b
        · rw [upB_ne e3]; exact s.side x y b
  · have keep : ∀ (m' : Ln τ) z', m' ∈ B z' → m' ∈ upB B v (B v ++ [l]) z' := fun m' z' hm' => by
      by_cases e3 : z' = v
      · rw [e3] at hm' ⊢
        rw [upB_same]; exact List.mem_append_left _ hm'
      · rw [upB_ne e3]; exact hm'
    by_cases e1 : w = v
    · subst e1
      rw [upB_same] at hm
      rcases List.mem_append.mp hm with h1 | h1
      · exact keep m z (s.way w hw m h1 z hz)
      · rw [List.mem_singleton.mp h1] at hz ⊢
        rcases T.wy a hlh hs z hz with h2 | h2
        · exact keep l z (s.way u hu l hlu z h2)
        · rw [h2, upB_same]
          exact List.mem_append_right _ (List.mem_singleton.mpr rfl)
    · rw [upB_ne e1] at hm
      exact keep m z (s.way w hw m hm z hz)
  · by_cases e2 : w = v
    · subst e2
      rw [upB_same] at e1
      rcases split_snoc e1 with ⟨_, e3, e4⟩ | ⟨p', _, e4⟩
      · subst e3
        subst e4
        obtain ⟨pu, qu, e5, h5⟩ := s.ahead T a (p := []) (by rw [e, List.nil_append])
        obtain ⟨ks, h1, h2, h3⟩ := s.note u hu pu m qu e5
        refine ⟨ks, h1, fun k hk => ?_, fun z => ?_⟩
        · obtain ⟨x, hx, rfl⟩ := List.mem_map.mp (h2 k hk)
          rcases h5 x hx with z | z
          · exact (List.not_mem_nil z).elim
          · exact List.mem_map.mpr ⟨x, z, rfl⟩
        · exact (hlv (by rw [← z]; exact s.atHome T hu hlu)).elim
      · exact s.note w hw pre m p' e4
    · rw [upB_ne e2] at e1
      exact s.note w hw pre m post e1
  · obtain ⟨h1, m, hm, e1⟩ := s.ks k hk
    refine ⟨h1, m, ?_, e1⟩
    by_cases e3 : k.1 = v
    · rw [e3] at hm ⊢
      rw [upB_same]; exact List.mem_append_left _ hm
    · rw [upB_ne e3]; exact hm
theorem Std.empty (hn : True) : Std n adj W (fun _ => ([] : List (Ln τ))) (fun _ _ => []) [] := by
  refine ⟨fun v _ m hm => (List.not_mem_nil hm).elim, fun v _ => List.nodup_nil, fun v _ h => rfl, fun u v _ => rfl, fun v _ m hm => (List.not_mem_nil hm).elim, fun v _ pre l post e => ?_, List.nodup_nil, fun k hk => ?_, fun p hp => (List.not_mem_nil hp).elim⟩
  · exact (List.append_ne_nil_of_right_ne_nil pre (List.cons_ne_nil l post) e.symm).elim
  · exact (List.not_mem_nil hk).elim
end
end
end K9
end

section
/-! What the law asks of a moment, and that all is handed over at the end. Core Lean only. -/
set_option linter.all false
namespace K9
section
variable {τ : Type} [DecidableEq τ] {n : Nat} {adj : Nat → Nat → Prop} {W : Nat → Nat → List Nat} {B : Nat → List (Ln τ)} {q : Nat → Nat → List (Ln τ)} {ns : Notes}

theorem look_mem {ns : Notes} {k : Ky} {ks : List Ky} (h : look ns k = some ks) : (k, ks) ∈ ns := by
  unfold look at h
  obtain ⟨p, hp, e⟩ := Option.map_eq_some_iff.mp h
  have h1 := List.mem_of_find?_eq_some hp
  have h2 := List.find?_some hp
  have h3 : p.1 = k := of_decide_eq_true h2
  rw [← h3, ← e]
  exact h1
theorem Std.noted (s : Std n adj W B q ns) {v : Nat} (hv : v < n) {l : Ln τ} (hl : l ∈ B v) : l.key ∈ ns.map (·.1) := by
  obtain ⟨pre, post, e⟩ := List.append_of_mem hl
  obtain ⟨ks, h, _⟩ := s.note v hv pre l post e
  exact List.mem_map.mpr ⟨_, look_mem h, rfl⟩
theorem Std.len_le (s : Std n adj W B q ns) {v : Nat} (hv : v < n) : (B v).length ≤ ns.length := by
  have h1 := nodup_sub (s.nd v hv) (m := ns.map (·.1)) (fun k hk => by
    obtain ⟨l, hl, rfl⟩ := List.mem_map.mp hk
    exact s.noted hv hl)
  unfold keysL at h1
  rw [List.length_map, List.length_map] at h1
  exact h1
theorem Std.q_len (s : Std n adj W B q ns) {u v : Nat} (a : adj u v) (T : TreeW n adj W) : (q u v).length ≤ ns.length := by
  rw [← s.ready T a]
  exact Nat.le_trans (List.length_filter_le _ _) (s.len_le (T.lt a).1)
/-- a line at a place of a book -/
theorem Std.at_ (s : Std n adj W B q ns) {v : Nat} (hv : v < n) {i : Nat} {l : Ln τ} (e : (B v)[i]? = some l) :
    ∃ ks, look ns l.key = some ks ∧ ks.Nodup ∧ (∀ k ∈ ks, k ∈ (keysL (B v)).take i) ∧ (l.home = v → ks = (keysL (B v)).take i) := by
  have hi := (List.getElem?_eq_some_iff.mp e).1
  have e1 : B v = (B v).take i ++ l :: (B v).drop (i + 1) := by
    have h1 := List.drop_eq_getElem_cons hi
    have h2 : (B v)[i] = l := (List.getElem?_eq_some_iff.mp e).2
    rw [h2] at h1
    rw [← h1, List.take_append_drop]
  obtain ⟨ks, h1, h2, h3⟩ := s.note v hv _ l _ e1
  have e2 : keysL ((B v).take i) = (keysL (B v)).take i := by unfold keysL; rw [List.map_take]
  rw [e2] at h2 h3
  exact ⟨ks, h1, s.inj _ (look_mem h1), h2, h3⟩
/-- lines made apart -/
theorem Std.apart (s : Std n adj W B q ns) (T : TreeW n adj W) {x : Ky} (hx : x ∈ ns.map (·.1)) : x.1 < n ∧ x ∈ keysL (B x.1) ∧ ∃ ks, look ns x = some ks ∧
    ∀ z, z ∈ keysL (B x.1) → (keysL (B x.1)).idxOf z < (keysL (B x.1)).idxOf x → z ∈ ks := by
  obtain ⟨hn, l, hl, e⟩ := s.ks x hx
  have hk : x ∈ keysL (B x.1) := List.mem_map.mpr ⟨l, hl, e⟩
  have hi : (keysL (B x.1)).idxOf x < (keysL (B x.1)).length := List.idxOf_lt_length_iff.mpr hk
  have hi2 : (keysL (B x.1)).idxOf x < (B x.1).length := by
    have := hi
    unfold keysL at this ⊢
    rw [List.length_map] at this
    exact this
  have e1 : (keysL (B x.1))[(keysL (B x.1)).idxOf x] = x := List.getElem_idxOf hi
  have e2 : ∃ m, (B x.1)[(keysL (B x.1)).idxOf x]? = some m ∧ m.key = x := by
    have h3 : (keysL (B x.1))[(keysL (B x.1)).idxOf x]? = some x := by rw [List.getElem?_eq_getElem hi, e1]
    generalize (keysL (B x.1)).idxOf x = j at h3
    unfold keysL at h3
    rw [List.getElem?_map] at h3
    obtain ⟨m, hm, hm2⟩ := Option.map_eq_some_iff.mp h3
    exact ⟨m, hm, hm2⟩
  obtain ⟨m, hm, e2⟩ := e2
  obtain ⟨ks, h1, _, _, h4⟩ := s.at_ hn hm
  rw [e2] at h1
  have e5 := h4 (congrArg Prod.fst e2)
  refine ⟨hn, hk, ks, h1, fun z hz hlt => ?_⟩
  rw [e5, List.mem_take_iff_getElem]
  have hz2 := List.idxOf_lt_length_iff.mpr hz
  exact ⟨(keysL (B x.1)).idxOf z, by omega, List.getElem_idxOf hz2⟩
/-- what is under way -/
theorem Std.onWay (s : Std n adj W B q ns) (T : TreeW n adj W) {u v : Nat} (a : adj u v) {i : Nat} {l : Ln τ} (e : (q u v)[i]? = some l) :
    l.key ∈ keysL (B u) ∧ l.key ∉ keysL (B v) ∧ ∃ ks, look ns l.key = some ks ∧ ∀ k ∈ ks, k ∈ (keysL (q u v)).take i ∨ k ∈ keysL (B v) := by
  have hi := (List.getElem?_eq_some_iff.mp e).1
  have hl : l ∈ q u v := List.mem_of_getElem? e
  have e1 : q u v = (q u v).take i ++ l :: (q u v).drop (i + 1) := by
    have h1 := List.drop_eq_getElem_cons hi
    have h2 : (q u v)[i] = l := (List.getElem?_eq_some_iff.mp e).2
    rw [h2] at h1
    rw [← h1, List.take_append_drop]
  have hu := (T.lt a).1
  have hv := (T.lt a).2
  obtain ⟨hlu, _⟩ := s.q_mem a hl
  refine ⟨List.mem_map.mpr ⟨l, hlu, rfl⟩, fun hk => ?_, ?_⟩
  · obtain ⟨m, hm, ek⟩ := List.mem_map.mp hk
    have := s.one T hv hu hm hlu ek
    rw [this] at hm
    exact s.q_not T a hl hm
  · obtain ⟨pre, post, e2, h3⟩ := s.ahead T a e1
    obtain ⟨ks, h1, h2, _⟩ := s.note u hu pre l post e2
    refine ⟨ks, h1, fun k hk => ?_⟩
    obtain ⟨x, hx, rfl⟩ := List.mem_map.mp (h2 k hk)
    rcases h3 x hx with z | z
    · exact .inl (by unfold keysL; rw [← List.map_take]; exact List.mem_map.mpr ⟨x, z, rfl⟩)
    · exact .inr (List.mem_map.mpr ⟨x, z, rfl⟩)
/-- numbers of a home's lines, over the keys -/
theorem Std.nums (s : Std n adj W B q ns) {v : Nat} (hv : v < n) (h : Nat) :
    ((keysL (B v)).filter fun k => decide (k.1 = h)).map (·.2) = List.range ((keysL (B v)).filter fun k => decide (k.1 = h)).length := by
  have e : (keysL (B v)).filter (fun k => decide (k.1 = h)) = keysL (ofHome h (B v)) := by
    unfold keysL ofHome
    rw [List.filter_map]
    rfl
  rw [e]
  have h1 := s.num v hv h
  unfold keysL
  rw [List.map_map, List.length_map]
  exact h1
theorem Std.wayKeys (s : Std n adj W B q ns) {v : Nat} (hv : v < n) {k : Ky} (hk : k ∈ keysL (B v)) : k.1 < n ∧ ∀ h ∈ W k.1 v, k ∈ keysL (B h) := by
  obtain ⟨l, hl, rfl⟩ := List.mem_map.mp hk
  exact ⟨s.home v hv l hl, fun h hh => List.mem_map.mpr ⟨l, s.way v hv l hl h hh, rfl⟩⟩

/-! ### all is handed over -/
def tot (n : Nat) (B : Nat → List (Ln τ)) : Nat := ((List.range n).map fun v => (B v).length).sum
theorem sum_up {f : Nat → Nat} {h x : Nat} : ∀ {l : List Nat}, l.Nodup → h ∈ l → (l.map fun v => if v = h then x else f v).sum + f h = (l.map f).sum + x
  | [], _, hm => (List.not_mem_nil hm).elim
  | a :: r, hn, hm => by
    obtain ⟨h1, h2⟩ := List.nodup_cons.mp hn
    rw [List.map_cons, List.map_cons, List.sum_cons, List.sum_cons]
    by_cases e : a = h
    · subst e
      have h3 : (r.map fun v => if v = a then x else f v) = r.map f := List.map_congr_left fun v hv => if_neg fun z => by subst z; exact h1 hv
      rw [if_pos rfl, h3]
      omega
    · have hm' : h ∈ r := by
        rcases List.mem_cons.mp hm with z | z
        · exact (e z.symm).elim
        · exact z
      have ih := sum_up (f := f) (x := x) h2 hm'
      rw [if_neg e]
      omega
theorem tot_up {h : Nat} (hh : h < n) (l : Ln τ) : tot n (upB B h (B h ++ [l])) = tot n B + 1 := by
  have e : (fun v => (upB B h (B h ++ [l]) v).length) = fun v => if v = h then (B h).length + 1 else (B v).length := by
    funext v
    unfold upB
    split
    · rw [List.length_append, List.length_singleton]
    · rfl
  unfold tot
  rw [e]
  have := sum_up (f := fun v => (B v).length) (x := (B h).length + 1) List.nodup_range (List.mem_range.mpr hh)
  omega
theorem sum_le {f : Nat → Nat} {b : Nat} : ∀ {l : List Nat}, (∀ v ∈ l, f v ≤ b) → (l.map f).sum ≤ l.length * b
  | [], _ => Nat.zero_le _
  | a :: r, h => by
    have h1 := h a List.mem_cons_self
    have h2 := sum_le (f := f) (b := b) (l := r) fun v hv => h v (List.mem_cons_of_mem _ hv)
    rw [List.map_cons, List.sum_cons, List.length_cons, Nat.succ_mul]
    omega
theorem sum_full {f : Nat → Nat} {b : Nat} : ∀ {l : List Nat}, (∀ v ∈ l, f v ≤ b) → l.length * b ≤ (l.map f).sum → ∀ v ∈ l, b ≤ f v
  | [], _, _, v, hv => (List.not_mem_nil hv).elim
  | a :: r, h, hs, v, hv => by
    have h1 := h a List.mem_cons_self
    have hr : ∀ v ∈ r, f v ≤ b := fun v hv => h v (List.mem_cons_of_mem _ hv)
    have h2 := sum_le hr
    rw [List.map_cons, List.sum_cons, List.length_cons, Nat.succ_mul] at hs
    rcases List.mem_cons.mp hv with z | z
    · rw [z]; omega
    · exact sum_full hr (by omega) v z
theorem Std.tot_le (s : Std n adj W B q ns) : tot n B ≤ n * ns.length := by
  unfold tot
  have := sum_le (l := List.range n) (f := fun v => (B v).length) (b := ns.length) fun v hv => s.len_le (List.mem_range.mp hv)
  rw [List.length_range] at this
  exact this
/-- how far the run is: at turn i, with so many lines left to make -/
def Far (n : Nat) (adj : Nat → Nat → Prop) (B : Nat → List (Ln τ)) (q : Nat → Nat → List (Ln τ)) (ns : Notes) (M left i : Nat) : Prop :=
  (left = 0 ∧ ∀ u v, adj u v → q u v = []) ∨ left * n + n * ns.length + i ≤ tot n B + n * M
theorem Std.empty_all (s : Std n adj W B q ns) (T : TreeW n adj W) (h : ∀ u v, adj u v → q u v = []) : ∀ v, v < n → ns.length ≤ (B v).length := by
  intro v hv
  have key : ∀ k ∈ ns.map (·.1), k ∈ keysL (B v) := fun k hk => by
    obtain ⟨h1, l, hl, e⟩ := s.ks k hk
    have : l ∈ B v := by
      refine T.conn (fun x => l ∈ B x) (fun a b ab hm => ?_) k.1 v h1 hv hl
      have ha := (T.lt ab).1
      have hb := (T.lt ab).2
      have hh := s.home a ha l hm
      by_cases hs : a ∈ W l.home b
      · have h2 : l ∈ sideL W a b (B a) := List.mem_filter.mpr ⟨hm, decide_eq_true hs⟩
        rw [s.side a b ab, h a b ab, List.append_nil] at h2
        exact (List.mem_filter.mp h2).1
      · have h3 : b ∈ W l.home a := (T.opp ab hh).mpr hs
        have h4 : l ∈ sideL W b a (B b) := by
          rw [s.side b a (T.symm ab)]
          exact List.mem_append_left _ (List.mem_filter.mpr ⟨hm, decide_eq_true h3⟩)
        exact (List.mem_filter.mp h4).1
    exact List.mem_map.mpr ⟨l, this, e⟩
  have := nodup_sub s.kn key
  unfold keysL at this
  rw [List.length_map, List.length_map] at this
  exact this
theorem Far.end_ {M left : Nat} (hn : 0 < n) (s : Std n adj W B q ns) (T : TreeW n adj W) (f : Far n adj B q ns M left (n * M)) : ∀ v, v < n → ns.length ≤ (B v).length := by
  rcases f with ⟨_, f⟩ | f
  · exact s.empty_all T f
  · intro v hv
    have h1 := s.tot_le
    have h2 := sum_full (l := List.range n) (f := fun v => (B v).length) (b := ns.length) (fun v hv => s.len_le (List.mem_range.mp hv)) (by
      rw [List.length_range]
      show n * ns.length ≤ tot n B
      have : 0 ≤ left * n := Nat.zero_le _
      omega)
    exact h2 v (List.mem_range.mpr hv)
theorem Far.make {M left i : Nat} (f : Far n adj B q ns M (left + 1) i) {h : Nat} (hh : h < n) (l : Ln τ) {q' : Nat → Nat → List (Ln τ)} {p : Ky × List Ky} : Far n adj (upB B h (B h ++ [l])) q' (ns ++ [p]) M left (i + 1) := by
  rcases f with ⟨f, _⟩ | f
  · omega
  · right
    rw [tot_up hh, List.length_append, List.length_singleton, Nat.mul_add]
    rw [Nat.add_mul] at f
    omega
theorem Far.hand {M left i : Nat} (f : Far n adj B q ns M left i) {u v : Nat} (a : adj u v) (hv : v < n) (l : Ln τ) {rest : List (Ln τ)} (e : q u v = l :: rest) {q' : Nat → Nat → List (Ln τ)} : Far n adj (upB B v (B v ++ [l])) q' ns M left (i + 1) := by
  rcases f with ⟨_, f⟩ | f
  · rw [f u v a] at e
    cases e
  · right
    rw [tot_up hv]
    omega
theorem Far.start {M many : Nat} (h : many + ns.length ≤ M) : Far n adj B q ns M many 0 := by
  right
  have h1 : n * (many + ns.length) ≤ n * M := Nat.mul_le_mul_left _ h
  rw [Nat.mul_add, Nat.mul_comm n many] at h1
  omega
end
end K9
end

section
set_option Elab.async false
set_option linter.all false
set_option maxRecDepth 100000
set_option maxHeartbeats 0
/-! the text by places, the defs as data, the head's facts (printed by genhead.py) -/
namespace K9
open PySem PySem.Spec PyProof.Rows L2
def top (i : Nat) : Stmt := PySem.Challenge.pw_neverunsaid_k09_whole_causes.main.body.getD i (.Pass ⟨0, 0, 0, 0⟩)
abbrev s_is_integer : Stmt := top 12
abbrev s_is_index : Stmt := top 13
abbrev s_is_list : Stmt := top 14
abbrev s_is_signs : Stmt := top 15
abbrev s_is_cell : Stmt := top 19
abbrev s_is_text : Stmt := top 20
abbrev s_is_road : Stmt := top 23
abbrev s_are_roads : Stmt := top 24
abbrev s_joined_by : Stmt := top 25
abbrev s_ways_from : Stmt := top 26
abbrev s_Tree_init : Stmt := inClass (top 27) 0
abbrev s_Tree_eq : Stmt := inClass (top 27) 1
abbrev s_Tree_contains : Stmt := inClass (top 27) 3
abbrev s_check_house : Stmt := top 28
abbrev s_check_road : Stmt := top 29
abbrev s_Plain_init : Stmt := inClass (top 31) 0
abbrev s_Plain_come : Stmt := inClass (top 31) 1
abbrev s_Plain_make : Stmt := inClass (top 31) 2
abbrev s_Plain_hand : Stmt := inClass (top 31) 3
abbrev s_Plain_row : Stmt := inClass (top 31) 4
abbrev s_Plain_under_way : Stmt := inClass (top 31) 6
abbrev s_l_cell : Stmt := top 33
abbrev s_l_box : Stmt := top 34
abbrev s_l_take : Stmt := top 35
abbrev s_l_mixed : Stmt := top 36
abbrev s_l_world : Stmt := top 37
abbrev s_l_way : Stmt := top 38
abbrev s_l_both : Stmt := top 39
abbrev s_l_words : Stmt := top 40
abbrev s_l_ready : Stmt := top 41
abbrev s_l_make : Stmt := top 42
abbrev s_l_hand : Stmt := top 43
abbrev s_l_book_right : Stmt := top 44
abbrev s_l_apart : Stmt := top 45
abbrev s_l_ways_right : Stmt := top 46
abbrev s_l_right_now : Stmt := top 47
abbrev s_l_begun : Stmt := top 48
abbrev s_l_right : Stmt := top 49
abbrev s_law : Stmt := top 50
def d_is_integer : He.DefD := ⟨("is_integer", none), "is_integer", "is_integer", defArgs s_is_integer, defBody s_is_integer, defScope s_is_integer, [], []⟩
def d_is_index : He.DefD := ⟨("is_index", none), "is_index", "is_index", defArgs s_is_index, defBody s_is_index, defScope s_is_index, [], []⟩
def d_is_list : He.DefD := ⟨("is_list", none), "is_list", "is_list", defArgs s_is_list, defBody s_is_list, defScope s_is_list, [], []⟩
def d_is_signs : He.DefD := ⟨("is_signs", none), "is_signs", "is_signs", defArgs s_is_signs, defBody s_is_signs, defScope s_is_signs, [.non], []⟩
def d_is_cell : He.DefD := ⟨("is_cell", none), "is_cell", "is_cell", defArgs s_is_cell, defBody s_is_cell, defScope s_is_cell, [], []⟩
def d_is_text : He.DefD := ⟨("is_text", none), "is_text", "is_text", defArgs s_is_text, defBody s_is_text, defScope s_is_text, [], []⟩
def d_is_road : He.DefD := ⟨("is_road", none), "is_road", "is_road", defArgs s_is_road, defBody s_is_road, defScope s_is_road, [], []⟩
def d_are_roads : He.DefD := ⟨("are_roads", none), "are_roads", "are_roads", defArgs s_are_roads, defBody s_are_roads, defScope s_are_roads, [], []⟩
def d_joined_by : He.DefD := ⟨("joined_by", none), "joined_by", "joined_by", defArgs s_joined_by, defBody s_joined_by, defScope s_joined_by, [], []⟩
def d_ways_from : He.DefD := ⟨("ways_from", none), "ways_from", "ways_from", defArgs s_ways_from, defBody s_ways_from, defScope s_ways_from, [], []⟩
def d_Tree_init : He.DefD := ⟨("Tree", some "__init__"), "__init__", "Tree.__init__", defArgs s_Tree_init, defBody s_Tree_init, defScope s_Tree_init, [], []⟩
def d_Tree_eq : He.DefD := ⟨("Tree", some "__eq__"), "__eq__", "Tree.__eq__", defArgs s_Tree_eq, defBody s_Tree_eq, defScope s_Tree_eq, [], []⟩
def d_Tree_contains : He.DefD := ⟨("Tree", some "__contains__"), "__contains__", "Tree.__contains__", defArgs s_Tree_contains, defBody s_Tree_contains, defScope s_Tree_contains, [], []⟩
def d_check_house : He.DefD := ⟨("check_house", none), "check_house", "check_house", defArgs s_check_house, defBody s_check_house, defScope s_check_house, [], []⟩
def d_check_road : He.DefD := ⟨("check_road", none), "check_road", "check_road", defArgs s_check_road, defBody s_check_road, defScope s_check_road, [], []⟩
def d_Plain_init : He.DefD := ⟨("Plain", some "__init__"), "__init__", "Plain.__init__", defArgs s_Plain_init, defBody s_Plain_init, defScope s_Plain_init, [], []⟩
def d_Plain_come : He.DefD := ⟨("Plain", some "_come"), "_come", "Plain._come", defArgs s_Plain_come, defBody s_Plain_come, defScope s_Plain_come, [], []⟩
def d_Plain_make : He.DefD := ⟨("Plain", some "make"), "make", "Plain.make", defArgs s_Plain_make, defBody s_Plain_make, defScope s_Plain_make, [], []⟩
def d_Plain_hand : He.DefD := ⟨("Plain", some "hand"), "hand", "Plain.hand", defArgs s_Plain_hand, defBody s_Plain_hand, defScope s_Plain_hand, [], []⟩
def d_Plain_row : He.DefD := ⟨("Plain", some "row"), "row", "Plain.row", defArgs s_Plain_row, defBody s_Plain_row, defScope s_Plain_row, [], []⟩
def d_Plain_under_way : He.DefD := ⟨("Plain", some "under_way"), "under_way", "Plain.under_way", defArgs s_Plain_under_way, defBody s_Plain_under_way, defScope s_Plain_under_way, [], []⟩
def d_l_cell : He.DefD := ⟨("_law_cell", none), "_law_cell", "_law_cell", defArgs s_l_cell, defBody s_l_cell, defScope s_l_cell, [], []⟩
def d_l_box : He.DefD := ⟨("_law_box", none), "_law_box", "_law_box", defArgs s_l_box, defBody s_l_box, defScope s_l_box, [], []⟩
def d_l_take : He.DefD := ⟨("_law_take", none), "_law_take", "_law_take", defArgs s_l_take, defBody s_l_take, defScope s_l_take, [], []⟩
def d_l_mixed : He.DefD := ⟨("_law_mixed", none), "_law_mixed", "_law_mixed", defArgs s_l_mixed, defBody s_l_mixed, defScope s_l_mixed, [], []⟩
def d_l_world : He.DefD := ⟨("_law_world", none), "_law_world", "_law_world", defArgs s_l_world, defBody s_l_world, defScope s_l_world, [], []⟩
def d_l_way : He.DefD := ⟨("_law_way", none), "_law_way", "_law_way", defArgs s_l_way, defBody s_l_way, defScope s_l_way, [], []⟩
def d_l_both : He.DefD := ⟨("_law_both", none), "_law_both", "_law_both", defArgs s_l_both, defBody s_l_both, defScope s_l_both, [], []⟩
def d_l_words : He.DefD := ⟨("_law_words", none), "_law_words", "_law_words", defArgs s_l_words, defBody s_l_words, defScope s_l_words, [], []⟩
def d_l_ready : He.DefD := ⟨("_law_ready", none), "_law_ready", "_law_ready", defArgs s_l_ready, defBody s_l_ready, defScope s_l_ready, [], []⟩
def d_l_make : He.DefD := ⟨("_law_make", none), "_law_make", "_law_make", defArgs s_l_make, defBody s_l_make, defScope s_l_make, [], []⟩
def d_l_hand : He.DefD := ⟨("_law_hand", none), "_law_hand", "_law_hand", defArgs s_l_hand, defBody s_l_hand, defScope s_l_hand, [], []⟩
def d_l_book_right : He.DefD := ⟨("_law_book_right", none), "_law_book_right", "_law_book_right", defArgs s_l_book_right, defBody s_l_book_right, defScope s_l_book_right, [], []⟩
def d_l_apart : He.DefD := ⟨("_law_apart", none), "_law_apart", "_law_apart", defArgs s_l_apart, defBody s_l_apart, defScope s_l_apart, [], []⟩
def d_l_ways_right : He.DefD := ⟨("_law_ways_right", none), "_law_ways_right", "_law_ways_right", defArgs s_l_ways_right, defBody s_l_ways_right, defScope s_l_ways_right, [], []⟩
def d_l_right_now : He.DefD := ⟨("_law_right_now", none), "_law_right_now", "_law_right_now", defArgs s_l_right_now, defBody s_l_right_now, defScope s_l_right_now, [], []⟩
def d_l_begun : He.DefD := ⟨("_law_begun", none), "_law_begun", "_law_begun", defArgs s_l_begun, defBody s_l_begun, defScope s_l_begun, [], []⟩
def d_l_right : He.DefD := ⟨("_law_right", none), "_law_right", "_law_right", defArgs s_l_right, defBody s_l_right, defScope s_l_right, [], []⟩
def d_law : He.DefD := ⟨("law", none), "law", "law", defArgs s_law, defBody s_law, defScope s_law, [], []⟩
def fn : List He.DefD := [d_is_integer, d_is_index, d_is_list, d_is_signs, d_is_cell, d_is_text, d_is_road, d_are_roads, d_joined_by, d_ways_from, d_Tree_init, d_Tree_eq, d_Tree_contains, d_check_house, d_check_road, d_Plain_init, d_Plain_come, d_Plain_make, d_Plain_hand, d_Plain_row, d_Plain_under_way, d_l_cell, d_l_box, d_l_take, d_l_mixed, d_l_world, d_l_way, d_l_both, d_l_words, d_l_ready, d_l_make, d_l_hand, d_l_book_right, d_l_apart, d_l_ways_right, d_l_right_now, d_l_begun, d_l_right, d_law]
def fa : List He.Fa := [.glo "is_integer",
  .glo "is_index",
  .glo "is_list",
  .glo "is_signs",
  .glo "is_cell",
  .glo "is_text",
  .glo "is_road",
  .glo "are_roads",
  .glo "joined_by",
  .glo "ways_from",
  .meth "Tree" "__init__",
  .meth "Tree" "__eq__",
  .meth "Tree" "__contains__",
  .glo "check_house",
  .glo "check_road",
  .meth "Plain" "__init__",
  .meth "Plain" "_come",
  .meth "Plain" "make",
  .meth "Plain" "hand",
  .meth "Plain" "row",
  .meth "Plain" "under_way",
  .glo "_law_cell",
  .glo "_law_box",
  .glo "_law_take",
  .glo "_law_mixed",
  .glo "_law_world",
  .glo "_law_way",
  .glo "_law_both",
  .glo "_law_words",
  .glo "_law_ready",
  .glo "_law_make",
  .glo "_law_hand",
  .glo "_law_book_right",
  .glo "_law_apart",
  .glo "_law_ways_right",
  .glo "_law_right_now",
  .glo "_law_begun",
  .glo "_law_right",
  .glo "law",
  .free "len",
  .free "isinstance",
  .free "int",
  .free "bool",
  .free "list",
  .free "tuple",
  .free "str",
  .free "range",
  .free "sorted",
  .free "all",
  .free "abs",
  .free "sum",
  .free "max",
  .free "min",
  .free "set",
  .free "repr",
  .int "MOST_LETTERS" 8,
  .int "MOST_SIGNS" 40,
  .int "MOST_HOUSES" 16,
  .glo "Tree",
  .cls "Tree",
  .mkr "Tree",
  .noat "Tree" "houses",
  .noat "Tree" "roads",
  .noat "Tree" "near",
  .noat "Tree" "ways",
  .glo "Plain",
  .cls "Plain",
  .mkr "Plain",
  .noat "Plain" "tree",
  .noat "Plain" "_books",
  .noat "Plain" "_made",
  .noat "Plain" "_ways",
  .noat "Plain" "_deeds"]
def lo1 : List PySem.Str := ["_wall", "UnsaidError", "InvalidText", "InvalidCell", "InvalidHouses", "InvalidRoads", "InvalidHouse", "NotJoined", "NotARoad", "NothingUnderWay", "is_integer", "is_index", "is_list", "is_signs", "MOST_LETTERS", "MOST_SIGNS", "is_cell", "is_text", "MOST_HOUSES", "is_road", "are_roads", "joined_by", "ways_from", "Tree", "check_house", "check_road", "Plain", "_law_cell", "_law_box", "_law_take"]
def lo2 : List PySem.Str := ["_law_mixed", "_law_world", "_law_way", "_law_both", "_law_words", "_law_ready", "_law_make", "_law_hand", "_law_book_right", "_law_apart", "_law_ways_right", "_law_right_now", "_law_begun", "_law_right"]
abbrev R : PySem.W.OpenRow := PySem.W.OpenLaw.row PySem.Challenge.rw_neverunsaid_k09_whole_causes
abbrev hk : PySem.W.Hook := He.hookD 5 fa fn
def ob (s : PySem.W.SharedT) : He.AlD := He.obsDG 5 fa fn (HandSHeadRun.getT s)
theorem ob_eq (s : PySem.W.SharedT) : ob s = hk.obs s.abs := He.obsDG_eq (HandSHeadRun.getT_eq s)
end K9
end

section
set_option Elab.async false
set_option linter.all false
set_option maxRecDepth 100000
set_option maxHeartbeats 1000000
/-! own rules: `in` by an own __contains__, an item of a list counted up, repr of data -/
namespace K9
open PySem PySem.Spec PyProof.Rows L2

/-! ### an own __contains__ -/
section
variable {M : Model} {A : Around} {E : Value → Shared → Prop} {s : Shared} {K : PySem.W.Frag}
theorem has_own {x C f : Addr} {ox : Obj} {od : Option Obj} {v : Value} {Q : Bool → Shared → Prop} (X : K.In s.heap) (I : PySem.W.InstAt s.heap x ox C od)
    (hs : PySem.W.findIn K (.ref C) "__contains__" = some (some (.ref f))) (hf : PySem.W.isFn K (.ref f) = true)
    (h : wpAny M A (call (.ref f) [.ref x, v]) (fun r s' => wpAny M A (truthy r) Q E s') E s) : wpAny M A (contains (.ref x) v) Q E s := by
  unfold contains
  refine wpAny_holding ?_
  have e0 : stdlibNamesSay? (.ref x) v = none := rfl
  rw [e0]
  refine wpAny_bind ?_
  unfold specialOf
  refine wpAny_bind (I.type.here ((PySem.W.looks_findIn X hs).here ?_))
  show wpAny M A (if (some (Value.ref f) == some Value.none) = true then _ else _) _ E s
  rw [if_neg (by simp)]
  refine wpAny_bind ?_
  simp only [callSpecialUnlessNone?, specialOf]
  refine wpAny_bind (wpAny_bind (I.type.here ((PySem.W.looks_findIn X hs).here ?_)))
  refine wpAny_holding (wpAny_bind ?_)
  simp only [bindSpecial]
  refine (PySem.W.bind_fn X (.ref x) (beq_iff_eq.mp hf)).here ?_
  show wpAny M A (if (Value.ref f == Value.none) = true then _ else _) _ E s
  rw [if_neg (by simp)]
  exact wpAny_bind (wpAny_mono h (fun r s' q => wpAny_pure q) fun _ _ z => z)
end
section
variable {X : Cx}
/-- x not in o, o an instance whose class has the text's own __contains__ -/
def rNotInOwn (C : Addr) (sp : Sp) (E : XK) : R2 := fun x y H Q => ∃ a dx fs, y = .ref a ∧ H a = some (.ins C dx fs) ∧ sp [.ref a, x] H (fun r H1 => ∃ b, r = .bl b ∧ Q (.bl (!b)) H1) E
theorem op_notInOwn {CX : CXT} {k : Nat} {f C : Addr} {fd : FuncData} {ps : List Str} {sp : Sp} {E : XK} (F : FnOk X.prog X.w X.K X.mg X.base CX k f fd ps sp) (hr : Room k X.A)
    (hm : Meth X.K C "__contains__" f) (hb : Binds X.K fd ps []) (hx : Passes CX X E) : OpR X (compareOp .NotIn) (rNotInOwn C sp E) := by
  intro pins s σ H x y v u Q I rx ry h
  obtain ⟨a, dx, fs, rfl, ha, q⟩ := h
  obtain rfl : u = Value.ref a := ry
  obtain ⟨mA, J, _⟩ := ins_get I.hok ha
  obtain ⟨od, J, _⟩ := J.look
  show wpAny _ _ (contains (.ref a) v >>= fun b => pure (Value.bool (!b))) _ _ s
  refine wpAny_bind (has_own I.kIn J hm.at_ hm.fn ?_)
  refine thn (run_fn (us := [.ref a, v]) (vs := [.ref a, x]) F hr hb .nil hx I (.cons rfl (.cons rx .nil)) q) fun r s1 h1 => ?_
  obtain ⟨z, H1, I1, rz, b, rfl, q1⟩ := h1
  obtain rfl : r = Value.bool b := rz
  exact wpAny_truthy_bool (wpAny_pure ⟨.bl (!b), H1, I1, rfl, q1⟩)

/-! ### xs[i] op= e, a list -/
theorem get_list : PGet X (rIxL X.K) := by
  intro pins s σ H o i ov iv Q I ro ri h
  obtain ⟨p, xs, j, z, rfl, rfl, hq, he, q⟩ := h
  cases ro
  obtain ⟨t, rfl⟩ := ri
  obtain ⟨its, r, pl, hz⟩ := I.list hq
  obtain ⟨k, h1, h2, h3, h4, h5⟩ := atI_get he
  obtain ⟨w, ew, rw'⟩ := r.get h2
  have hl := r.length
  have hn := line63
  by_cases h0 : 0 ≤ j
  · have hj : j.toNat = k := by
      rw [seqIndex_of h0 h5] at h1
      exact Option.some.inj h1
    exact wpAny_getItem_list pl.isList h0 (by omega) (by rw [hj]; simpa using ew) ⟨z, H, I, rw', q⟩
  · have hj : (j + (its.toArray.size : Int)).toNat = k := by
      rw [seqIndex_neg (by omega) h4] at h1
      rw [List.size_toArray, ← hl]
      exact Option.some.inj h1
    exact wpAny_getItem_list_neg pl.isList (by omega) (by rw [List.size_toArray] <;> omega) (by omega) (by rw [hj]; simpa using ew) ⟨z, H, I, rw', q⟩

/-! ### repr of lists and tuples -/
theorem call_repr_data (hg : X.A.guards = some []) (hu : X.A.units + 70 < cLine) : CallR X (.builtin "repr") (fun xs H Q => ∃ a d, xs = [.ref a] ∧ Dp X.K H (.ref a) d ∧ d.showable = true ∧ d.hasDict = false ∧ d.depth ≤ 64 ∧ d.shown.length ≤ sizeLine ∧ Q (.str d.shown) H) := by
  intro pins s σ H xs us Q I r h
  obtain ⟨a, d, rfl, hd, hs, hn, hp, hz, q⟩ := h
  obtain ⟨u, rfl, ru⟩ := vals1 r
  obtain rfl : u = Value.ref a := ru
  obtain ⟨as, rd⟩ := Dp.reads I d _ _ hd rfl
  exact repr_of_reads' rd hs (PyData.noDict_hsm hn) hg (by omega) (fun _ _ e => e) (fun h' t tk hk => ⟨.str d.shown, H, I.kept hk, ⟨t, rfl⟩, q⟩) hz
end

/-! ### promises that ask that no repr is under way -/
structure FnG (P : Program) (w : World) (K : PySem.W.Frag) (mg : Str → Option Value) (base : Heap) (CX : CXT) (k : Nat) (f : Addr) (fd : FuncData) (ps : List Str) (sp : Sp) : Prop where
  len : ∀ vs H Q E, sp vs H Q E → vs.length = ps.length
  run : ∀ (A : Around) (outer : List Env) (s : Shared) (H : Hp) (args : Args) (us : List Value) (vs : List V) (Q : VK) (E : XK), A.guards = some [] → Room k A → Env0 P w K mg base A outer s H →
    BindsTo s fd args (ps.zip us) → Vals vs us → sp vs H Q E → codeAny (model P w) A (.call (.ref f) args) (CR CX outer P w H s Q E) s
section
variable {X : Cx} {CX : CXT} {k : Nat} {f : Addr} {fd : FuncData} {ps : List Str} {sp : Sp} {dvs : List V} {ds : List Value} {E : XK} {x : Str} {p pos : Pos} {e : Expr} {es : List Expr} {t : TA}
theorem pe_callG (F : FnG X.prog X.w X.K X.mg X.base CX k f fd ps sp) (hgd : X.A.guards = some []) (hr : Room k X.A) (hg : Gl X x) (hm : X.mg x = some (.ref f)) (hk : PySem.W.keepIn X.K (.ref f) = true) (hb : Binds X.K fd ps []) (hx : Passes CX X E)
    (ha : PA X (e :: es) t) (hdb : (x == ("__debug__" : Str)) = false := by decide) (he : starEach (e :: es) X.env = (false, eval e X.env) :: starEach es X.env := by rfl) (hpl : (backTo pos (starEach es X.env)).any (·.1) = false := by rfl) :
    PE X (.Call (.Name x p) (e :: es) [] pos) (tCall sp [] E t) := by
  refine ⟨fun pins s σ H Q I h => wpAny_Call_Name_kw (ld_glob I hg hm ?_ hdb)⟩
  refine PySem.W.callWith_K (h₀ := X.base) I.ok.mod.kin hk (thn (ha.run pos pins s σ H _ I h) fun us s1 h1 => ?_) he hpl
  obtain ⟨vs, H1, I1, r, q⟩ := h1
  rw [List.append_nil] at q
  have hl : us.length = ps.length := by rw [← r.length]; exact F.len _ _ _ _ q
  have hbb := hb s1 us I1.kIn (by rw [List.append_nil]; exact hl)
  rw [List.append_nil] at hbb
  refine ⟨I1.kIn, wpAny_call (codeAny_mono (F.run X.A X.stack s1 H1 ⟨us, []⟩ us vs Q E hgd hr I1.env0 hbb r q) fun z s2 hz => ?_)⟩
  cases z with
  | error z => exact hx pins σ H1 s1 z s2 I1 hz
  | ok fl =>
    cases fl with
    | ret u => exact I1.after hz
    | next => exact hz.elim
    | brk => exact hz.elim
    | cont => exact hz.elim
end
section
variable {P : Program} {w : World} {K : PySem.W.Frag} {mg : Str → Option Value} {base : Heap}
/-- a def by its body, where no repr is under way -/
theorem fnG_of {CX : CXT} {x qual : Str} {params : Arguments} {body : List Stmt} {scope : Scope} {dvs : List V} {kws : List (Str × V)} {f : Addr} {fd : FuncData} {N ps : List Str} {k : Nat} {sp : Sp} (F : FunD K x qual params body scope dvs kws f fd) (S : FnScope N ps scope)
    (len : ∀ vs H Q E, sp vs H Q E → vs.length = ps.length)
    (hbody : ∀ (cdv : Value) (A : Around) (outer : List Env) (s : Shared) (H : Hp) (vs : List V) (Q : VK) (E : XK), A.guards = some [] → Room k (A.deeper (envOfC qual scope s.heap.objs.size f cdv)) → sp vs H Q E →
      ∃ t, PSs (cxOf CX P w K mg base N qual scope f cdv A outer s H E) body t ∧ t { nx := fun _ H' => Q .non H', rt := Q } (start N vs) H) : FnG P w K mg base CX (k + 1) f fd ps sp := by
  obtain ⟨oc, od, dV, kV, doc, pm, an, cdv, ct, osl, rfl, lk, hcd, _, _⟩ := F.ex
  refine ⟨len, fun A outer s H args us vs Q E hg hr e0 hb r hsp => ?_⟩
  have hl := len _ _ _ _ hsp
  have KX : K.In s.heap := e0.mod.kin.keeps fun b o e => (e0.bs b o e).1
  have lim : s.heap.NoLimit := e0.mod.nolimit.keeps fun b o e => (e0.bs b o e).1
  have kinds : ((ps.zip us).all fun y => scope.names.lookup y.1 == some .local || scope.names.lookup y.1 == some .cell) = true := by
    rw [List.all_eq_true]
    rintro ⟨z, u⟩ hz
    rcases S.par z (List.of_mem_zip hz).1 with e | e
    · show (scope.names.lookup z == some .local || scope.names.lookup z == some .cell) = true
      rw [e] <;> rfl
    · show (scope.names.lookup z == some .local || scope.names.lookup z == some .cell) = true
      rw [e] <;> rfl
  refine Att.call_fn KX lim lk hcd hr.depth hb kinds (fun s1 ic => ?_) S.co S.gen S.kind
  obtain ⟨t, ht, hq⟩ := hbody cdv A outer s H vs Q E hg (hr.deeper _) hsp
  refine wpAny_mono (ht.run [] s1 (L2.start N vs) H _ (inv_start S hr.hd e0 hl r ic) hq) (fun fl s2 h2 => ?_) fun z s2 h2 => h2
  cases fl with
  | ret u =>
    obtain ⟨v, σ2, H2, J, rv, q2⟩ := h2
    exact ⟨v, H2, J.os, J.bare, J.base, J.hok, rv, q2⟩
  | next =>
    obtain ⟨σ2, H2, J, q2⟩ := h2
    exact ⟨V.non, H2, J.os, J.bare, J.base, J.hok, rfl, q2⟩
  | brk =>
    obtain ⟨_, _, _, q2⟩ := h2
    exact q2.elim
  | cont =>
    obtain ⟨_, _, _, q2⟩ := h2
    exact q2.elim
end
end K9
end

section
set_option Elab.async false
set_option linter.all false
set_option maxRecDepth 100000
set_option maxHeartbeats 2000000
/-! own rule: {k: v for t0 in i0 for t1 in i1}, the keys tuples -/
namespace K9
open PySem PySem.Spec PyProof.Rows L2

/-- the comprehension itself -/
abbrev dcE (kx vx t0 i0 t1 i1 : Expr) (sc : Scope) (pos : Pos) : Expr := .DictComp kx vx [⟨t0, i0, [], 0⟩, ⟨t1, i1, [], 0⟩] sc pos
section
variable {P : Program} {w : World} {A : Around} {R : Result → Shared → Prop} {s : Shared} {kx vx t0 i0 t1 i1 : Expr} {sc : Scope} {pos : Pos} {it : Value} {D : Addr} {env : Env}

/-- one turn of the outer clause -/
theorem dc_outer (hf : ∀ x, foldedSetIterable i1 env x = pure x) (J : Nat → Shared → Prop)
    (step : ∀ n s, J n s → wpAny (model P w) A (pyNext it) (fun r a => match r with
      | none => R (.ok .next) a
      | some v => wpAny (model P w) A (letOwnedTupleGo t0 it v) (fun _ a1 => wpAny (model P w) A (assign t0 env v) (fun _ a2 =>
          wpAny (model P w) A (eval i1 env) (fun x a3 => wpAny (model P w) A (pyIter x) (fun j a4 =>
            codeAny (model P w) A (.compStart (dcE kx vx t0 i0 t1 i1 sc pos) 1 j (.ref D) env) (fun r a5 => (∃ f, r = .ok f) ∧ ∃ m, m < n ∧ J m a5) a4)
              (fun _ _ => False) a3) (fun _ _ => False) a2) (fun _ _ => False) a1) (fun _ _ => False) a) (fun _ _ => False) s)
    (n : Nat) (h : J n s) : codeAny (model P w) A (.compLoop (dcE kx vx t0 i0 t1 i1 sc pos) 0 it (.ref D) env) R s := by
  refine codeAny_loop rfl J (fun n s hJ => ?_) n h
  refine wpAny_noted (m := compTurn (dcE kx vx t0 i0 t1 i1 sc pos) 0 it (.ref D) env) (wpAny_mono (E := fun _ _ => False) ?_ (fun _ _ z => z) fun _ _ z => False.elim z)
  refine wpAny_bind (wpAny_standAt (wpAny_bind (wpAny_mono (step n s hJ) (fun r a ha => ?_) fun _ _ z => z)))
  cases r with
  | none => exact wpAny_pure ha
  | some v =>
    refine wpAny_bind (wpAny_mono ha (fun _ a1 h1 => ?_) fun _ _ z => z)
    refine wpAny_bind (wpAny_mono h1 (fun _ a2 h2 => ?_) fun _ _ z => z)
    refine wpAny_bind (wpAny_tests_nil ?_)
    refine wpAny_bind (wpAny_mono h2 (fun x a3 h3 => ?_) fun _ _ z => z)
    refine wpAny_bind (wpAny_standAt (wpAny_bind (wpAny_of_eq (hf x) (wpAny_bind (wpAny_holding (wpAny_mono h3 (fun j a4 h4 => ?_) fun _ _ z => z))))))
    refine wpAny_bind (wpAny_runOwn ?_)
    rw [Around.mark_none]
    refine codeAny_mono h4 fun r a5 h5 => ?_
    obtain ⟨⟨f, rfl⟩, hm⟩ := h5
    first
      | exact wpAny_pure ⟨rfl, hm⟩
      | exact wpAny_bind (wpAny_pure (wpAny_pure ⟨rfl, hm⟩))
/-- one turn of the inner clause -/
theorem dc_inner (J : Nat → Shared → Prop)
    (step : ∀ n s, J n s → wpAny (model P w) A (pyNext it) (fun r a => match r with
      | none => R (.ok .next) a
      | some v => wpAny (model P w) A (letOwnedTupleGo t1 it v) (fun _ a1 => wpAny (model P w) A (assign t1 env v) (fun _ a2 =>
          wpAny (model P w) A (eval kx env) (fun y a3 => wpAny (model P w) A (eval vx env) (fun z a4 =>
            wpAny (model P w) A (dictSet D y z) (fun _ a5 => ∃ m, m < n ∧ J m a5) (fun _ _ => False) a4) (fun _ _ => False) a3) (fun _ _ => False) a2) (fun _ _ => False) a1) (fun _ _ => False) a) (fun _ _ => False) s)
    (n : Nat) (h : J n s) : codeAny (model P w) A (.compLoop (dcE kx vx t0 i0 t1 i1 sc pos) 1 it (.ref D) env) R s := by
  refine codeAny_loop rfl J (fun n s hJ => ?_) n h
  refine wpAny_noted (m := compTurn (dcE kx vx t0 i0 t1 i1 sc pos) 1 it (.ref D) env) (wpAny_mono (E := fun _ _ => False) ?_ (fun _ _ z => z) fun _ _ z => False.elim z)
  refine wpAny_bind (wpAny_standAt (wpAny_bind (wpAny_mono (step n s hJ) (fun r a ha => ?_) fun _ _ z => z)))
  cases r with
  | none => exact wpAny_pure ha
  | some v =>
    refine wpAny_bind (wpAny_mono ha (fun _ a1 h1 => ?_) fun _ _ z => z)
    refine wpAny_bind (wpAny_mono h1 (fun _ a2 h2 => ?_) fun _ _ z => z)
    refine wpAny_bind (wpAny_tests_nil ?_)
    refine wpAny_bind (wpAny_bind (wpAny_mono h2 (fun y a3 h3 => ?_) fun _ _ z => z))
    refine wpAny_bind (wpAny_holding (wpAny_mono h3 (fun z a4 h4 => ?_) fun _ _ z => z))
    exact wpAny_bind (wpAny_standAt (wpAny_holding (wpAny_mono h4 (fun _ a5 h5 => wpAny_pure ⟨rfl, h5⟩) fun _ _ z => z)))
/-- the inner clause begins -/
theorem dc_begin (h0 : codeAny (model P w) A (.compLoop (dcE kx vx t0 i0 t1 i1 sc pos) 1 it (.ref D) env) R s)
    (h : wpAny (model P w) A (pyIter it) (fun it' s' => codeAny (model P w) A (.compLoop (dcE kx vx t0 i0 t1 i1 sc pos) 1 it' (.ref D) env) R s') (fun _ _ => False) s) :
    codeAny (model P w) A (.compStart (dcE kx vx t0 i0 t1 i1 sc pos) 1 it (.ref D) env) R s := by
  refine codeAny_of_tree ?_
  refine wpAny_notedAt (m := compStart (dcE kx vx t0 i0 t1 i1 sc pos) 1 it (.ref D) env) (wpAny_mono (E := fun _ _ => False) ?_ (fun _ _ z => z) fun _ _ z => False.elim z)
  unfold compStart
  refine wpAny_bind (m := ask) (wpAny_askSetting (wpAny_ite ?_))
  split
  · first
      | exact wpAny_bind (wpAny_pure (wpAny_pure (And.intro rfl h0)))
      | exact wpAny_pure (And.intro rfl h0)
  · refine wpAny_bind (wpAny_rule ?_)
    first
      | exact wpAny_bind (wpAny_standAt (wpAny_bind (wpAny_mono h (fun it' s' h' => wpAny_pure (And.intro rfl h')) fun _ _ x => x)))
      | (refine wpAny_bind (m := standAt i1.pos) ?_; exact wpAny_standAt (wpAny_bind (wpAny_mono h (fun it' s' h' => wpAny_pure (And.intro rfl h')) fun _ _ x => x)))
end
/-- d[y] = v by a comprehension, the key a tuple -/
theorem set_tupKey {X : Cx} {pins : List (Addr × Obj)} {σ : L2.St} {H : Hp} {s : Shared} {E : Value → Shared → Prop} {D b : Addr} {kvs : List (List Key × V)} {k : List Key} {v : V} {r : Value} {Q : Unit → Shared → Prop} (hu : X.A.units + 1 < cLine)
    (I : Inv X pins σ H s) (hD : H D = some (.dT kvs)) (hb : H b = some (.tup (k.map kV))) (hz : kvs.length < sizeLine) (rv : RelV v r) (h : ∀ s', Inv X pins σ (upd H D (.dT (putK kvs k v))) s' → Q () s') :
    wpAny (model X.prog X.w) X.A (dictSet D (.ref b) r) Q E s := by
  obtain ⟨z, hd, xs, rel, dd⟩ := dt_of I.hok hD
  have hxs : xs.length ≤ sizeLine := by rw [← Paired.length rel]; exact z
  have hl : (putK kvs k v).length ≤ sizeLine := by have := length_putK kvs k v; omega
  refine wpAny_dictSet_heap (hsz := hxs) (show (tupleKind (mixKind X.prog X.w)).room X.A from Nat.lt_of_succ_lt hu) (key_of I.hok hb) dd fun h' dd' hs => h _ ?_
  obtain ⟨q, es, ep, hq, h2, h3, h4, _, h5⟩ := dd'
  refine d_write I (by rw [hD]; exact True.intro) hs ⟨q, hq⟩ ⟨hl, hd, _, (rel.put k hb rv).keeps fun c ys ec => ?_, q, es, ep, hq, h2, h3, h4, h5⟩
  rw [upd_ne (ne_of ec hD (fun z => nomatch z))]
  exact ec
theorem dt_fresh {X : Cx} {pins : List (Addr × Obj)} {σ : L2.St} {H : Hp} {s : Shared} (I : Inv X pins σ H s) :
    Inv X pins σ (upd H s.heap.objs.size (.dT [])) { s with heap := s.heap.push { cls := .type "dict", data := .dict #[] } } := by
  exact I.laid (t' := s.toks) (fun b o e => Heap.get?_push_of_some _ e) (Nat.le_refl _) (dt_empty s.heap I.big)
section
variable {X : Cx}
/-- its reading: behind each store of the outer target the inner source is walked; vs: the block's names, vs1: those of the inner target -/
def tDc2 (wi : TI) (g : TG) (wi1 : TI) (g1 : TG) (tk tv : TE) (vs vs1 : List Nat) : TE := fun σ H Q => wi σ H fun J H1 => ∀ D, H1 D = none → ∃ W : Nat → Nat → Hp → Prop, (∃ m, W 0 m (upd H1 D (.dT []))) ∧
  ∀ i m H, W i m H → (J.stop i H ∧ Q (.ref D) H) ∨ (J.go i H ∧ ∃ Nx : Hp → Prop, (∀ H', Nx H' → ∃ m', m' < m ∧ W (i + 1) m' H') ∧
    ∀ x H', J.yld i H x H' → g x (wipe σ vs) H' fun σ2 H2 => wipe σ2 vs = wipe σ vs ∧ wi1 σ2 H2 fun J1 H3 => ∃ W1 : Nat → Nat → Hp → Prop, (∃ m, W1 0 m H3) ∧
      ∀ j k H, W1 j k H → (J1.stop j H ∧ Nx H) ∨ (J1.go j H ∧ ∃ Nx1 : Hp → Prop, (∀ H', Nx1 H' → ∃ k', k' < k ∧ W1 (j + 1) k' H') ∧
        ∀ x H', J1.yld j H x H' → g1 x (wipe σ2 vs1) H' fun σ3 H4 => wipe σ3 vs1 = wipe σ2 vs1 ∧ tk σ3 H4 fun y H5 => tv σ3 H5 fun z H6 =>
          ∃ kvs k b, y = .ref b ∧ H6 b = some (.tup (k.map kV)) ∧ H6 D = some (.dT kvs) ∧ kvs.length < sizeLine ∧ Nx1 (upd H6 D (.dT (putK kvs k z)))))
theorem pe_dc2 {kx vx t0 i0 t1 i1 : Expr} {sc : Scope} {own : List (Str × Nat)} {vs1 : List Nat} {pos : Pos} {wi wi1 : TI} {g g1 : TG} {tk tv : TE} (hu : X.A.units + 1 < cLine) (hc : X.calm = true) (hN : X.N.Nodup) (hi : PI X t0 i0 wi) (ok : BlkOk X.N X.env.scope sc own) (hv : ∀ i ∈ vs1, i ∈ own.map (·.2))
    (hg : ∀ (s : Shared) (H : Hp) (C : Addr) (cl : List (Str × Addr)) (fp : List Addr), PG (X.blk s H sc (compEnvC sc cl C X.env) fp) t0 g)
    (hi1 : ∀ (s : Shared) (H : Hp) (C : Addr) (cl : List (Str × Addr)) (fp : List Addr), PI (X.blk s H sc (compEnvC sc cl C X.env) fp) t1 i1 wi1)
    (hg1 : ∀ (s : Shared) (H : Hp) (C : Addr) (cl : List (Str × Addr)) (fp : List Addr), PG (X.blk s H sc (compEnvC sc cl C X.env) fp) t1 g1)
    (hk : ∀ (s : Shared) (H : Hp) (C : Addr) (cl : List (Str × Addr)) (fp : List Addr), PE (X.blk s H sc (compEnvC sc cl C X.env) fp) kx tk)
    (he : ∀ (s : Shared) (H : Hp) (C : Addr) (cl : List (Str × Addr)) (fp : List Addr), PE (X.blk s H sc (compEnvC sc cl C X.env) fp) vx tv)
    (hs : ∀ x, foldedSetIterable i0 X.env x = pure x := by intro _; rfl) (hs1 : ∀ env x, foldedSetIterable i1 env x = pure x := by intro _ _; rfl) :
    PE X (dcE kx vx t0 i0 t1 i1 sc pos) (tDc2 wi g wi1 g1 tk tv (own.map (·.2)) vs1) := by
  refine ⟨fun pins s σ H Q I h => ?_⟩
  rw [arm_eval_DictComp]
  have hfree : ∀ y ∈ sc.names, y.2 = .free → ∃ c, X.env.cells.lookup y.1 = some c := fun y hy e => (ok.free y hy e).elim (fun k => I.ok.has _ (.inl k)) fun k => I.ok.has _ (.inr k)
  refine wpAny_comprehension_free (use := none) rfl hs (closure_ok hfree) ok.kind (fun y hy e => by rw [ok.uniq y hy, e]) (thn (hi.run pins s σ H _ I h) fun xv s1 hx => thn hx fun itv s2 h2 => ?_)
  obtain ⟨it, fp, tn, J, H2, rfl, I2, T, st2, f2, q⟩ := h2
  refine wpAny_newObj_type (newEnv_comp ?_)
  obtain ⟨W, ⟨m0, w0⟩, turn⟩ := q s2.heap.objs.size (I2.hok.fresh (Nat.le_refl _))
  have I3 := dt_fresh I2
  generalize hD : s2.heap.objs.size = D at I3 w0 turn ⊢
  have hlt : ∀ b ∈ fp, b < D := fun b hb => by
    obtain ⟨o, e, _⟩ := T.obj _ _ st2 b hb
    rw [← hD]
    exact Heap.lt_size e
  generalize hs3 : ({ s2 with heap := s2.heap.push { cls := .type "dict", data := .dict #[] } } : Shared) = s3 at I3
  have grow : ∀ b o, s2.heap.get? b = some o → s3.heap.get? b = some o := fun b o e => by rw [← hs3]; exact Heap.get?_push_of_some _ e
  have size3 : s3.heap.objs.size = D + 1 := by rw [← hs3, ← hD]; exact Heap.size_push ..
  have f3 : ∀ b ∈ fp, FpOk X pins (upd H2 D (.dT [])) b ∧ b < s3.heap.objs.size := fun b hb => by
    have hb2 := hlt b hb
    refine ⟨⟨?_, (f2 b hb).2⟩, by rw [size3]; exact Nat.lt_succ_of_lt hb2⟩
    rw [upd_ne (Nat.ne_of_lt hb2)]
    exact (f2 b hb).1
  generalize upd H2 D (.dT []) = H3 at I3 f3 w0
  have I4 := block_start I3 ok hN f3
  suffices fin : codeAny (model X.prog X.w) X.A (.compStart (dcE kx vx t0 i0 t1 i1 sc pos) 0 (.ref it) (.ref D) (compEnvC sc (cellsFrom (s3.heap.objs.size + 1) sc.names (cloFrom X.env.cells sc.names [])) s3.heap.objs.size X.env))
      (compPost (model X.prog X.w) X.A X.xe none (EP X pins σ Q) (.ref D) s3.heap.objs.size) { s3 with heap := pushCells (s3.heap.push { cls := .type "dict", data := .dict #[] }) sc.names } from by
    subst hs3
    subst hD
    exact fin
  generalize hC : s3.heap.objs.size = C at I4 ⊢
  generalize hcl : cellsFrom (C + 1) sc.names (cloFrom X.env.cells sc.names []) = cl at I4 ⊢
  have pg := hg s3 H3 C cl fp
  have pi1 := hi1 s3 H3 C cl fp
  have pg1 := hg1 s3 H3 C cl fp
  have pk := hk s3 H3 C cl fp
  have pv_ := he s3 H3 C cl fp
  generalize hce : compEnvC sc cl C X.env = ce at I4 pg pi1 pg1 pk pv_ ⊢
  have cL : ce.locals = C := by rw [← hce] <;> rfl
  generalize hs4 : ({ s3 with heap := pushCells (s3.heap.push { cls := .type "dict", data := .dict #[] }) sc.names } : Shared) = s4 at I4 ⊢
  have st4 : tn 0 s4.heap := T.keep _ _ _ st2 fun b _ o e => by rw [← hs4]; exact pushCells_keeps _ _ _ _ (Heap.get?_push_of_some _ (grow b o e))
  have fpx : ∀ {σ' : L2.St} {H' : Hp} {s' : Shared}, Inv (X.blk s3 H3 sc ce fp) [] σ' H' s' → (∀ b ∈ fp, H' b = none) → ∀ b ∈ fp, FpOk (X.blk s3 H3 sc ce fp) [] H' b := fun {σ' H' s'} K hn b hb =>
    ⟨hn b hb, (K.ok.exf b hb).1, K.ok.exfs b hb, .inl hb, fun x c e => (K.ok.exf b hb).2 x c e, fun p hp => by cases (show p ∈ ([] : List (Addr × Obj)) ++ [] from hp)⟩
  -- the state between two turns of the outer clause
  let Out : Nat → Shared → Prop := fun n z => ∃ i Hz, Inv (X.blk s3 H3 sc ce fp) [] (wipe σ (own.map (·.2))) Hz z ∧ tn i z.heap ∧ (∀ b ∈ fp, Hz b = none) ∧ W i n Hz
  let R : Result → Shared → Prop := compPost (model X.prog X.w) X.A X.xe none (EP X pins σ Q) (.ref D) C
  have loop : codeAny (model X.prog X.w) X.A (.compLoop (dcE kx vx t0 i0 t1 i1 sc pos) 0 (.ref it) (.ref D) ce) R s4 := by
    refine dc_outer (fun x => hs1 ce x) Out ?_ m0 ⟨0, H3, I4, st4, fun b hb => (f3 b hb).1.1, w0⟩
    rintro n s5 ⟨i, H5, I5, st5, n5, w5⟩
    rcases turn i n H5 w5 with ⟨stop, qq⟩ | ⟨go, Nx, hNx, step⟩
    · refine thn (T.done (X.blk s3 H3 sc ce fp) rfl rfl rfl hc i [] s5 _ H5 (fun _ _ => False) I5 (fpx I5 n5) st5 stop) fun r s6 h6 => ?_
      obtain ⟨rfl, I6⟩ := h6
      have I7 : Inv X pins σ H5 s6 := I3.call' (ch := fp) I6.os I6.base I6.hok I6.bare fun b hb => ⟨(f3 b hb).1.2.2.2.1, (f3 b hb).1.2.1, (f3 b hb).1.2.2.2.2.1, (f3 b hb).1.2.2.2.2.2⟩
      have nC : H5 C = none := by have z : H5 ce.locals = none := I6.free; rw [cL] at z; exact z
      obtain ⟨m, hn, _⟩ := I6.loc
      have hn : s6.heap.Ns ce.locals m := hn
      rw [cL] at hn
      obtain ⟨e0, e1, e2, e3, e4, e5⟩ := I3.fpOk (Nat.le_of_eq hC) nC
      exact ⟨m, hn, fun h'' sb => ⟨.ref D, H5, I7.turned (t' := s6.toks) (fun b o hb e => (sb.2 b hb).trans e) e0 e1 e3 e4 e5, rfl, qq⟩⟩
    · refine thn (T.item (X.blk s3 H3 sc ce fp) rfl rfl rfl hc i [] s5 _ H5 (fun _ _ => False) I5 (fpx I5 n5) st5 go) fun r s6 h6 => ?_
      obtain ⟨u, rfl, h6⟩ := h6
      refine thn h6 fun _ s7 h7 => ?_
      obtain ⟨x, H7, I7, r7, y7, st7, n7⟩ := h7
      refine thn (pg.run _ s7 _ H7 x u _ (I7.pinned (fpx I7 n7) (T.obj _ _ st7)) r7 (step x H7 y7)) fun _ s8 h8 => ?_
      obtain ⟨σ8, H8, I8, hw8, q8⟩ := h8
      -- the outer turn's end
      have back : ∀ {σ9 : L2.St} {s' : Shared} {H' : Hp}, Inv (X.blk s3 H3 sc ce fp) ([] ++ pinsAt fp s7.heap) σ9 H' s' → (wipe σ (own.map (·.2))).length = σ9.length → (∀ (j : Nat) v, (wipe σ (own.map (·.2)))[j]? = some (some v) → σ9[j]? = some (some v)) → Nx H' → ∃ m, m < n ∧ Out m s' :=
        fun {σ9 s' H'} K hl hk nx => by
          obtain ⟨m', hm, w'⟩ := hNx H' nx
          have pn : ∀ b ∈ fp, ∀ o, s7.heap.get? b = some o → s'.heap.get? b = some o ∧ H' b = none := fun b hb o e => by
            have z := K.pin (b, o) (List.mem_append_right _ (List.mem_append_right _ (mem_pinsAt hb e)))
            exact ⟨z.1, z.2.1⟩
          refine ⟨m', hm, i + 1, H', (K.unpinned (pins := [])).weak hl hk, T.keep _ _ _ st7 fun b hb o e => (pn b hb o e).1, fun b hb => ?_, w'⟩
          obtain ⟨o, e, _⟩ := T.obj _ _ st7 b hb
          exact (pn b hb o e).2
      have len8 : (wipe σ (own.map (·.2))).length = σ8.length := by rw [← hw8, wipe_length]
      have in8 : ∀ (j : Nat) v, (wipe σ (own.map (·.2)))[j]? = some (some v) → (wipe σ8 vs1)[j]? = some (some v) := fun j v e => by
        rw [← hw8] at e
        obtain ⟨e1, e2⟩ := wipe_some e
        rw [wipe_out fun z => e2 (hv j z)]
        exact e1
      refine thn (pi1.run _ s8 σ8 H8 _ I8 q8) fun xv s10 hx => thn hx fun itv s11 h11 => ?_
      obtain ⟨it1, fp1, tn1, J1, H11, rfl, I11, T1, st11, f11, W1, ⟨m1, w1⟩, turn1⟩ := h11
      have fpy : ∀ {H' : Hp}, (∀ b ∈ fp1, H' b = none) → ∀ b ∈ fp1, FpOk (X.blk s3 H3 sc ce fp) ([] ++ pinsAt fp s7.heap) H' b := fun hn b hb => ⟨hn b hb, (f11 b hb).2⟩
      let In : Nat → Shared → Prop := fun k z => ∃ j Hz, Inv (X.blk s3 H3 sc ce fp) ([] ++ pinsAt fp s7.heap) (wipe σ8 vs1) Hz z ∧ tn1 j z.heap ∧ (∀ b ∈ fp1, Hz b = none) ∧ W1 j k Hz
      have loop1 : codeAny (model X.prog X.w) X.A (.compLoop (dcE kx vx t0 i0 t1 i1 sc pos) 1 (.ref it1) (.ref D) ce) (fun r z => (∃ f, r = .ok f) ∧ ∃ m, m < n ∧ Out m z) s11 := by
        refine dc_inner In ?_ m1 ⟨0, H11, I11.weak (wipe_length _ _) (fun j v e => (wipe_some e).1), st11, fun b hb => (f11 b hb).1, w1⟩
        rintro k s12 ⟨j, H12, I12, st12, n12, w12⟩
        rcases turn1 j k H12 w12 with ⟨stop1, nx1⟩ | ⟨go1, Nx1, hNx1, step1⟩
        · refine thn (T1.done (X.blk s3 H3 sc ce fp) rfl rfl rfl hc j _ s12 (wipe σ8 vs1) H12 (fun _ _ => False) I12 (fpy n12) st12 stop1) fun r s13 h13 => ?_
          obtain ⟨rfl, I13⟩ := h13
          exact ⟨⟨_, rfl⟩, back I13 (len8.trans (wipe_length σ8 vs1).symm) in8 nx1⟩
        · refine thn (T1.item (X.blk s3 H3 sc ce fp) rfl rfl rfl hc j _ s12 (wipe σ8 vs1) H12 (fun _ _ => False) I12 (fpy n12) st12 go1) fun r s13 h13 => ?_
          obtain ⟨u1, rfl, h13⟩ := h13
          refine thn h13 fun _ s14 h14 => ?_
          obtain ⟨x1, H14, I14, r14, y14, st14, n14⟩ := h14
          refine thn (pg1.run _ s14 (wipe σ8 vs1) H14 x1 u1 _ (I14.pinned (fpy n14) (T1.obj _ _ st14)) r14 (step1 x1 H14 y14)) fun _ s15 h15 => ?_
          obtain ⟨σ15, H15, I15, hw15, q15⟩ := h15
          refine thn (pk.run _ s15 σ15 H15 _ I15 q15) fun yk s16 h16 => ?_
          obtain ⟨y, H16, I16, r16, q16⟩ := h16
          refine thn (pv_.run _ s16 σ15 H16 _ I16 q16) fun zv s17 h17 => ?_
          obtain ⟨z, H17, I17, r17, kvs, kk, b, rfl, hb, hDk, hz, nx⟩ := h17
          obtain rfl : yk = Value.ref b := r16
          refine set_tupKey (X := X.blk s3 H3 sc ce fp) hu I17 hDk hb hz r17 fun s18 I18 => ?_
          obtain ⟨m', hm, w'⟩ := hNx1 _ nx
          have pn : ∀ b ∈ fp1, ∀ o, s14.heap.get? b = some o → s18.heap.get? b = some o ∧ (upd H17 D (.dT (putK kvs kk z))) b = none := fun b hb o e => by
            have z := I18.pin (b, o) (List.mem_append_right _ (List.mem_append_right _ (mem_pinsAt hb e)))
            exact ⟨z.1, z.2.1⟩
          refine ⟨m', hm, j + 1, _, I18.unpinned.weak (by rw [← hw15, wipe_length]) (fun j v e => by rw [← hw15] at e; exact (wipe_some e).1), T1.keep _ _ _ st14 fun b hb o e => (pn b hb o e).1, fun b hb => ?_, w'⟩
          obtain ⟨o, e, _⟩ := T1.obj _ _ st14 b hb
          exact (pn b hb o e).2
      exact dc_begin loop1 (T1.self X.A 0 _ _ _ st11 loop1)
  exact codeAny_compStart_dict loop (T.self X.A 0 _ _ _ st4 loop)
end
end K9
end

section
set_option Elab.async false
set_option linter.all false
set_option maxRecDepth 100000
set_option maxHeartbeats 0
namespace K9
open PySem PySem.Spec PyProof.Rows L2
/-! the head's facts, with those that isinstance of an own class asks -/
def moreB (K : PySem.W.Frag) : Bool :=
  decide (PySem.W.findIn K (.ref (He.ga K "Tree")) "__class__" = some (some (.builtin "object.__class__"))) &&
  (decide (PySem.W.specialIn K (.builtin "object.__class__") "__get__" = some (some (.builtin "getset_descriptor.__get__"))) &&
  (decide (PySem.W.takesIn K (.builtin "object.__class__") = some true) &&
  (decide (PySem.W.mroIn K (He.ga K "Tree") (.type "object") = some true) &&
  decide (PySem.W.kitOne K (.ref (He.ga K "Tree")) (.ref (He.ga K "Tree")) = some true))))
abbrev AlX : Type := He.AlD × Bool
def obsX (K : PySem.W.Frag) : AlX := (He.obsD fa fn K, moreB K)
def valX : AlX := (He.valD fn, true)
def SaysX (K : PySem.W.Frag) : Prop := obsX K = valX
def obsXG (g : Addr → Option Obj) : AlX := obsX (He.frG g (He.asD g 5))
def hkX : PySem.W.Hook where
  α := AlX
  obs := fun s => obsXG s.heap.get?
  val := fun _ => valX
  says := fun _ h => ∃ K : PySem.W.Frag, K.In h ∧ SaysX K
  of := fun _ _ e => ⟨_, He.frG_in, e⟩
  keeps := fun _ _ _ ⟨K, hK, c⟩ k => ⟨K, PySem.W.Frag.In.keeps hK k, c⟩
def obX (s : PySem.W.SharedT) : AlX := obsXG (HandSHeadRun.getT s)
theorem obX_eq (s : PySem.W.SharedT) : obX s = hkX.obs s.abs := by
  have e : HandSHeadRun.getT s = s.abs.heap.get? := funext fun a => HandSHeadRun.getT_eq s a
  show obsXG (HandSHeadRun.getT s) = obsXG s.abs.heap.get?
  rw [e]
end K9
end

section
set_option Elab.async false
set_option linter.all false
set_option maxRecDepth 100000
set_option maxHeartbeats 0
namespace K9
open PySem PySem.Spec PyProof.Rows L2
theorem runX (w : World) : HandSHeadRun.RunEq R (PySem.W.view R.prog [50]) hkX obX 6000 (lo1 ++ lo2) w := by
  intro os
  kernel_rfl
end K9
end

section
set_option Elab.async false
set_option linter.all false
set_option maxRecDepth 100000
set_option maxHeartbeats 1000000
namespace K9
open PySem PySem.Spec PyProof.Rows L2
/-! facts of the top by name; names and parameters of the defs (printed by gentop.py) -/
structure Top (K : PySem.W.Frag) (mg : Str → Option Value) : Prop where
  says : SaysX K
  ex : ∃ h : Heap, K.In h ∧ h.Ns mainGlobals mg
section
variable {K : PySem.W.Frag} {mg : Str → Option Value}
theorem Top.d (T : Top K mg) : He.SaysD fa fn K := congrArg (fun z : AlX => z.1) T.says
theorem Top.more (T : Top K mg) : moreB K = true := congrArg (fun z : AlX => z.2) T.says
theorem Top.glo (T : Top K mg) (i : Nat) {x : Str} (h : fa[i]? = some (.glo x) := by rfl) : mg x = some (.ref (He.ga K x)) := let ⟨_, X, G⟩ := T.ex; He.glo_ok X G (T.d.fact i h)
theorem Top.free (T : Top K mg) (i : Nat) {x : Str} (h : fa[i]? = some (.free x) := by rfl) : mg x = none := let ⟨_, X, G⟩ := T.ex; He.free_ok X G (T.d.fact i h)
theorem Top.int (T : Top K mg) (i : Nat) {x : Str} {n : Int} (h : fa[i]? = some (.int x n) := by rfl) : ∃ t, mg x = some (.int n t) := let ⟨_, X, G⟩ := T.ex; He.int_ok X G (T.d.fact i h)
theorem Top.meth (T : Top K mg) (i : Nat) {x m : Str} (h : fa[i]? = some (.meth x m) := by rfl) : Meth K (He.ga K x) m (He.ma K (He.ga K x) m) := He.meth_ok (T.d.fact i h)
theorem Top.cls (T : Top K mg) (i : Nat) {x : Str} (h : fa[i]? = some (.cls x) := by rfl) : Cls K (He.ga K x) := He.cls_ok (T.d.fact i h)
theorem Top.mkr (T : Top K mg) (i : Nat) {x : Str} (h : fa[i]? = some (.mkr x) := by rfl) : Mk K (He.ga K x) (He.ma K (He.ga K x) "__init__") := He.mkr_ok (T.d.fact i h)
theorem Top.noat (T : Top K mg) (i : Nat) {x f : Str} (h : fa[i]? = some (.noat x f) := by rfl) : NoAttr K (He.ga K x) f := He.noat_ok (T.d.fact i h)
theorem Top.f_is_integer (T : Top K mg) : ∃ fd, FunD K "is_integer" "is_integer" (defArgs s_is_integer) (defBody s_is_integer) (defScope s_is_integer) [] [] (He.ga K "is_integer") fd := T.d.def_ 0 (d := d_is_integer) rfl
theorem Top.g_is_integer (T : Top K mg) : mg "is_integer" = some (.ref (He.ga K "is_integer")) := T.glo 0
theorem Top.f_is_index (T : Top K mg) : ∃ fd, FunD K "is_index" "is_index" (defArgs s_is_index) (defBody s_is_index) (defScope s_is_index) [] [] (He.ga K "is_index") fd := T.d.def_ 1 (d := d_is_index) rfl
theorem Top.g_is_index (T : Top K mg) : mg "is_index" = some (.ref (He.ga K "is_index")) := T.glo 1
theorem Top.f_is_list (T : Top K mg) : ∃ fd, FunD K "is_list" "is_list" (defArgs s_is_list) (defBody s_is_list) (defScope s_is_list) [] [] (He.ga K "is_list") fd := T.d.def_ 2 (d := d_is_list) rfl
theorem Top.g_is_list (T : Top K mg) : mg "is_list" = some (.ref (He.ga K "is_list")) := T.glo 2
theorem Top.f_is_signs (T : Top K mg) : ∃ fd, FunD K "is_signs" "is_signs" (defArgs s_is_signs) (defBody s_is_signs) (defScope s_is_signs) [.non] [] (He.ga K "is_signs") fd := T.d.def_ 3 (d := d_is_signs) rfl
theorem Top.g_is_signs (T : Top K mg) : mg "is_signs" = some (.ref (He.ga K "is_signs")) := T.glo 3
theorem Top.f_is_cell (T : Top K mg) : ∃ fd, FunD K "is_cell" "is_cell" (defArgs s_is_cell) (defBody s_is_cell) (defScope s_is_cell) [] [] (He.ga K "is_cell") fd := T.d.def_ 4 (d := d_is_cell) rfl
theorem Top.g_is_cell (T : Top K mg) : mg "is_cell" = some (.ref (He.ga K "is_cell")) := T.glo 4
theorem Top.f_is_text (T : Top K mg) : ∃ fd, FunD K "is_text" "is_text" (defArgs s_is_text) (defBody s_is_text) (defScope s_is_text) [] [] (He.ga K "is_text") fd := T.d.def_ 5 (d := d_is_text) rfl
theorem Top.g_is_text (T : Top K mg) : mg "is_text" = some (.ref (He.ga K "is_text")) := T.glo 5
theorem Top.f_is_road (T : Top K mg) : ∃ fd, FunD K "is_road" "is_road" (defArgs s_is_road) (defBody s_is_road) (defScope s_is_road) [] [] (He.ga K "is_road") fd := T.d.def_ 6 (d := d_is_road) rfl
theorem Top.g_is_road (T : Top K mg) : mg "is_road" = some (.ref (He.ga K "is_road")) := T.glo 6
theorem Top.f_are_roads (T : Top K mg) : ∃ fd, FunD K "are_roads" "are_roads" (defArgs s_are_roads) (defBody s_are_roads) (defScope s_are_roads) [] [] (He.ga K "are_roads") fd := T.d.def_ 7 (d := d_are_roads) rfl
theorem Top.g_are_roads (T : Top K mg) : mg "are_roads" = some (.ref (He.ga K "are_roads")) := T.glo 7
theorem Top.f_joined_by (T : Top K mg) : ∃ fd, FunD K "joined_by" "joined_by" (defArgs s_joined_by) (defBody s_joined_by) (defScope s_joined_by) [] [] (He.ga K "joined_by") fd := T.d.def_ 8 (d := d_joined_by) rfl
theorem Top.g_joined_by (T : Top K mg) : mg "joined_by" = some (.ref (He.ga K "joined_by")) := T.glo 8
theorem Top.f_ways_from (T : Top K mg) : ∃ fd, FunD K "ways_from" "ways_from" (defArgs s_ways_from) (defBody s_ways_from) (defScope s_ways_from) [] [] (He.ga K "ways_from") fd := T.d.def_ 9 (d := d_ways_from) rfl
theorem Top.g_ways_from (T : Top K mg) : mg "ways_from" = some (.ref (He.ga K "ways_from")) := T.glo 9
theorem Top.f_Tree_init (T : Top K mg) : ∃ fd, FunD K "__init__" "Tree.__init__" (defArgs s_Tree_init) (defBody s_Tree_init) (defScope s_Tree_init) [] [] (He.ma K (He.ga K "Tree") "__init__") fd := T.d.def_ 10 (d := d_Tree_init) rfl
theorem Top.m_Tree_init (T : Top K mg) : Meth K (He.ga K "Tree") "__init__" (He.ma K (He.ga K "Tree") "__init__") := T.meth 10
theorem Top.f_Tree_eq (T : Top K mg) : ∃ fd, FunD K "__eq__" "Tree.__eq__" (defArgs s_Tree_eq) (defBody s_Tree_eq) (defScope s_Tree_eq) [] [] (He.ma K (He.ga K "Tree") "__eq__") fd := T.d.def_ 11 (d := d_Tree_eq) rfl
theorem Top.m_Tree_eq (T : Top K mg) : Meth K (He.ga K "Tree") "__eq__" (He.ma K (He.ga K "Tree") "__eq__") := T.meth 11
theorem Top.f_Tree_contains (T : Top K mg) : ∃ fd, FunD K "__contains__" "Tree.__contains__" (defArgs s_Tree_contains) (defBody s_Tree_contains) (defScope s_Tree_contains) [] [] (He.ma K (He.ga K "Tree") "__contains__") fd := T.d.def_ 12 (d := d_Tree_contains) rfl
theorem Top.m_Tree_contains (T : Top K mg) : Meth K (He.ga K "Tree") "__contains__" (He.ma K (He.ga K "Tree") "__contains__") := T.meth 12
theorem Top.f_check_house (T : Top K mg) : ∃ fd, FunD K "check_house" "check_house" (defArgs s_check_house) (defBody s_check_house) (defScope s_check_house) [] [] (He.ga K "check_house") fd := T.d.def_ 13 (d := d_check_house) rfl
theorem Top.g_check_house (T : Top K mg) : mg "check_house" = some (.ref (He.ga K "check_house")) := T.glo 13
theorem Top.f_check_road (T : Top K mg) : ∃ fd, FunD K "check_road" "check_road" (defArgs s_check_road) (defBody s_check_road) (defScope s_check_road) [] [] (He.ga K "check_road") fd := T.d.def_ 14 (d := d_check_road) rfl
theorem Top.g_check_road (T : Top K mg) : mg "check_road" = some (.ref (He.ga K "check_road")) := T.glo 14
theorem Top.f_Plain_init (T : Top K mg) : ∃ fd, FunD K "__init__" "Plain.__init__" (defArgs s_Plain_init) (defBody s_Plain_init) (defScope s_Plain_init) [] [] (He.ma K (He.ga K "Plain") "__init__") fd := T.d.def_ 15 (d := d_Plain_init) rfl
theorem Top.m_Plain_init (T : Top K mg) : Meth K (He.ga K "Plain") "__init__" (He.ma K (He.ga K "Plain") "__init__") := T.meth 15
theorem Top.f_Plain_come (T : Top K mg) : ∃ fd, FunD K "_come" "Plain._come" (defArgs s_Plain_come) (defBody s_Plain_come) (defScope s_Plain_come) [] [] (He.ma K (He.ga K "Plain") "_come") fd := T.d.def_ 16 (d := d_Plain_come) rfl
theorem Top.m_Plain_come (T : Top K mg) : Meth K (He.ga K "Plain") "_come" (He.ma K (He.ga K "Plain") "_come") := T.meth 16
theorem Top.f_Plain_make (T : Top K mg) : ∃ fd, FunD K "make" "Plain.make" (defArgs s_Plain_make) (defBody s_Plain_make) (defScope s_Plain_make) [] [] (He.ma K (He.ga K "Plain") "make") fd := T.d.def_ 17 (d := d_Plain_make) rfl
theorem Top.m_Plain_make (T : Top K mg) : Meth K (He.ga K "Plain") "make" (He.ma K (He.ga K "Plain") "make") := T.meth 17
theorem Top.f_Plain_hand (T : Top K mg) : ∃ fd, FunD K "hand" "Plain.hand" (defArgs s_Plain_hand) (defBody s_Plain_hand) (defScope s_Plain_hand) [] [] (He.ma K (He.ga K "Plain") "hand") fd := T.d.def_ 18 (d := d_Plain_hand) rfl
theorem Top.m_Plain_hand (T : Top K mg) : Meth K (He.ga K "Plain") "hand" (He.ma K (He.ga K "Plain") "hand") := T.meth 18
theorem Top.f_Plain_row (T : Top K mg) : ∃ fd, FunD K "row" "Plain.row" (defArgs s_Plain_row) (defBody s_Plain_row) (defScope s_Plain_row) [] [] (He.ma K (He.ga K "Plain") "row") fd := T.d.def_ 19 (d := d_Plain_row) rfl
theorem Top.m_Plain_row (T : Top K mg) : Meth K (He.ga K "Plain") "row" (He.ma K (He.ga K "Plain") "row") := T.meth 19
theorem Top.f_Plain_under_way (T : Top K mg) : ∃ fd, FunD K "under_way" "Plain.under_way" (defArgs s_Plain_under_way) (defBody s_Plain_under_way) (defScope s_Plain_under_way) [] [] (He.ma K (He.ga K "Plain") "under_way") fd := T.d.def_ 20 (d := d_Plain_under_way) rfl
theorem Top.m_Plain_under_way (T : Top K mg) : Meth K (He.ga K "Plain") "under_way" (He.ma K (He.ga K "Plain") "under_way") := T.meth 20
theorem Top.f_l_cell (T : Top K mg) : ∃ fd, FunD K "_law_cell" "_law_cell" (defArgs s_l_cell) (defBody s_l_cell) (defScope s_l_cell) [] [] (He.ga K "_law_cell") fd := T.d.def_ 21 (d := d_l_cell) rfl
theorem Top.g_l_cell (T : Top K mg) : mg "_law_cell" = some (.ref (He.ga K "_law_cell")) := T.glo 21
theorem Top.f_l_box (T : Top K mg) : ∃ fd, FunD K "_law_box" "_law_box" (defArgs s_l_box) (defBody s_l_box) (defScope s_l_box) [] [] (He.ga K "_law_box") fd := T.d.def_ 22 (d := d_l_box) rfl
theorem Top.g_l_box (T : Top K mg) : mg "_law_box" = some (.ref (He.ga K "_law_box")) := T.glo 22
theorem Top.f_l_take (T : Top K mg) : ∃ fd, FunD K "_law_take" "_law_take" (defArgs s_l_take) (defBody s_l_take) (defScope s_l_take) [] [] (He.ga K "_law_take") fd := T.d.def_ 23 (d := d_l_take) rfl
theorem Top.g_l_take (T : Top K mg) : mg "_law_take" = some (.ref (He.ga K "_law_take")) := T.glo 23
theorem Top.f_l_mixed (T : Top K mg) : ∃ fd, FunD K "_law_mixed" "_law_mixed" (defArgs s_l_mixed) (defBody s_l_mixed) (defScope s_l_mixed) [] [] (He.ga K "_law_mixed") fd := T.d.def_ 24 (d := d_l_mixed) rfl
theorem Top.g_l_mixed (T : Top K mg) : mg "_law_mixed" = some (.ref (He.ga K "_law_mixed")) := T.glo 24
theorem Top.f_l_world (T : Top K mg) : ∃ fd, FunD K "_law_world" "_law_world" (defArgs s_l_world) (defBody s_l_world) (defScope s_l_world) [] [] (He.ga K "_law_world") fd := T.d.def_ 25 (d := d_l_world) rfl
theorem Top.g_l_world (T : Top K mg) : mg "_law_world" = some (.ref (He.ga K "_law_world")) := T.glo 25
theorem Top.f_l_way (T : Top K mg) : ∃ fd, FunD K "_law_way" "_law_way" (defArgs s_l_way) (defBody s_l_way) (defScope s_l_way) [] [] (He.ga K "_law_way") fd := T.d.def_ 26 (d := d_l_way) rfl
theorem Top.g_l_way (T : Top K mg) : mg "_law_way" = some (.ref (He.ga K "_law_way")) := T.glo 26
theorem Top.f_l_both (T : Top K mg) : ∃ fd, FunD K "_law_both" "_law_both" (defArgs s_l_both) (defBody s_l_both) (defScope s_l_both) [] [] (He.ga K "_law_both") fd := T.d.def_ 27 (d := d_l_both) rfl
theorem Top.g_l_both (T : Top K mg) : mg "_law_both" = some (.ref (He.ga K "_law_both")) := T.glo 27
theorem Top.f_l_words (T : Top K mg) : ∃ fd, FunD K "_law_words" "_law_words" (defArgs s_l_words) (defBody s_l_words) (defScope s_l_words) [] [] (He.ga K "_law_words") fd := T.d.def_ 28 (d := d_l_words) rfl
theorem Top.g_l_words (T : Top K mg) : mg "_law_words" = some (.ref (He.ga K "_law_words")) := T.glo 28
theorem Top.f_l_ready (T : Top K mg) : ∃ fd, FunD K "_law_ready" "_law_ready" (defArgs s_l_ready) (defBody s_l_ready) (defScope s_l_ready) [] [] (He.ga K "_law_ready") fd := T.d.def_ 29 (d := d_l_ready) rfl
theorem Top.g_l_ready (T : Top K mg) : mg "_law_ready" = some (.ref (He.ga K "_law_ready")) := T.glo 29
theorem Top.f_l_make (T : Top K mg) : ∃ fd, FunD K "_law_make" "_law_make" (defArgs s_l_make) (defBody s_l_make) (defScope s_l_make) [] [] (He.ga K "_law_make") fd := T.d.def_ 30 (d := d_l_make) rfl
theorem Top.g_l_make (T : Top K mg) : mg "_law_make" = some (.ref (He.ga K "_law_make")) := T.glo 30
theorem Top.f_l_hand (T : Top K mg) : ∃ fd, FunD K "_law_hand" "_law_hand" (defArgs s_l_hand) (defBody s_l_hand) (defScope s_l_hand) [] [] (He.ga K "_law_hand") fd := T.d.def_ 31 (d := d_l_hand) rfl
theorem Top.g_l_hand (T : Top K mg) : mg "_law_hand" = some (.ref (He.ga K "_law_hand")) := T.glo 31
theorem Top.f_l_book_right (T : Top K mg) : ∃ fd, FunD K "_law_book_right" "_law_book_right" (defArgs s_l_book_right) (defBody s_l_book_right) (defScope s_l_book_right) [] [] (He.ga K "_law_book_right") fd := T.d.def_ 32 (d := d_l_book_right) rfl
theorem Top.g_l_book_right (T : Top K mg) : mg "_law_book_right" = some (.ref (He.ga K "_law_book_right")) := T.glo 32
theorem Top.f_l_apart (T : Top K mg) : ∃ fd, FunD K "_law_apart" "_law_apart" (defArgs s_l_apart) (defBody s_l_apart) (defScope s_l_apart) [] [] (He.ga K "_law_apart") fd := T.d.def_ 33 (d := d_l_apart) rfl
theorem Top.g_l_apart (T : Top K mg) : mg "_law_apart" = some (.ref (He.ga K "_law_apart")) := T.glo 33
theorem Top.f_l_ways_right (T : Top K mg) : ∃ fd, FunD K "_law_ways_right" "_law_ways_right" (defArgs s_l_ways_right) (defBody s_l_ways_right) (defScope s_l_ways_right) [] [] (He.ga K "_law_ways_right") fd := T.d.def_ 34 (d := d_l_ways_right) rfl
theorem Top.g_l_ways_right (T : Top K mg) : mg "_law_ways_right" = some (.ref (He.ga K "_law_ways_right")) := T.glo 34
theorem Top.f_l_right_now (T : Top K mg) : ∃ fd, FunD K "_law_right_now" "_law_right_now" (defArgs s_l_right_now) (defBody s_l_right_now) (defScope s_l_right_now) [] [] (He.ga K "_law_right_now") fd := T.d.def_ 35 (d := d_l_right_now) rfl
theorem Top.g_l_right_now (T : Top K mg) : mg "_law_right_now" = some (.ref (He.ga K "_law_right_now")) := T.glo 35
theorem Top.f_l_begun (T : Top K mg) : ∃ fd, FunD K "_law_begun" "_law_begun" (defArgs s_l_begun) (defBody s_l_begun) (defScope s_l_begun) [] [] (He.ga K "_law_begun") fd := T.d.def_ 36 (d := d_l_begun) rfl
theorem Top.g_l_begun (T : Top K mg) : mg "_law_begun" = some (.ref (He.ga K "_law_begun")) := T.glo 36
theorem Top.f_l_right (T : Top K mg) : ∃ fd, FunD K "_law_right" "_law_right" (defArgs s_l_right) (defBody s_l_right) (defScope s_l_right) [] [] (He.ga K "_law_right") fd := T.d.def_ 37 (d := d_l_right) rfl
theorem Top.g_l_right (T : Top K mg) : mg "_law_right" = some (.ref (He.ga K "_law_right")) := T.glo 37
theorem Top.f_law (T : Top K mg) : ∃ fd, FunD K "law" "law" (defArgs s_law) (defBody s_law) (defScope s_law) [] [] (He.ga K "law") fd := T.d.def_ 38 (d := d_law) rfl
theorem Top.g_law (T : Top K mg) : mg "law" = some (.ref (He.ga K "law")) := T.glo 38
theorem Top.z_len (T : Top K mg) : mg "len" = none := T.free 39
theorem Top.z_isinstance (T : Top K mg) : mg "isinstance" = none := T.free 40
theorem Top.z_int (T : Top K mg) : mg "int" = none := T.free 41
theorem Top.z_bool (T : Top K mg) : mg "bool" = none := T.free 42
theorem Top.z_list (T : Top K mg) : mg "list" = none := T.free 43
theorem Top.z_tuple (T : Top K mg) : mg "tuple" = none := T.free 44
theorem Top.z_str (T : Top K mg) : mg "str" = none := T.free 45
theorem Top.z_range (T : Top K mg) : mg "range" = none := T.free 46
theorem Top.z_sorted (T : Top K mg) : mg "sorted" = none := T.free 47
theorem Top.z_all (T : Top K mg) : mg "all" = none := T.free 48
theorem Top.z_abs (T : Top K mg) : mg "abs" = none := T.free 49
theorem Top.z_sum (T : Top K mg) : mg "sum" = none := T.free 50
theorem Top.z_max (T : Top K mg) : mg "max" = none := T.free 51
theorem Top.z_min (T : Top K mg) : mg "min" = none := T.free 52
theorem Top.z_set (T : Top K mg) : mg "set" = none := T.free 53
theorem Top.z_repr (T : Top K mg) : mg "repr" = none := T.free 54
theorem Top.c_MOST_LETTERS (T : Top K mg) : ∃ t, mg "MOST_LETTERS" = some (.int 8 t) := T.int 55
theorem Top.c_MOST_SIGNS (T : Top K mg) : ∃ t, mg "MOST_SIGNS" = some (.int 40 t) := T.int 56
theorem Top.c_MOST_HOUSES (T : Top K mg) : ∃ t, mg "MOST_HOUSES" = some (.int 16 t) := T.int 57
theorem Top.g_Tree (T : Top K mg) : mg "Tree" = some (.ref (He.ga K "Tree")) := T.glo 58
theorem Top.cl_Tree (T : Top K mg) : Cls K (He.ga K "Tree") := T.cls 59
theorem Top.mk_Tree (T : Top K mg) : Mk K (He.ga K "Tree") (He.ma K (He.ga K "Tree") "__init__") := T.mkr 60
theorem Top.n_Tree_houses (T : Top K mg) : NoAttr K (He.ga K "Tree") "houses" := T.noat 61
theorem Top.n_Tree_roads (T : Top K mg) : NoAttr K (He.ga K "Tree") "roads" := T.noat 62
theorem Top.n_Tree_near (T : Top K mg) : NoAttr K (He.ga K "Tree") "near" := T.noat 63
theorem Top.n_Tree_ways (T : Top K mg) : NoAttr K (He.ga K "Tree") "ways" := T.noat 64
theorem Top.g_Plain (T : Top K mg) : mg "Plain" = some (.ref (He.ga K "Plain")) := T.glo 65
theorem Top.cl_Plain (T : Top K mg) : Cls K (He.ga K "Plain") := T.cls 66
theorem Top.mk_Plain (T : Top K mg) : Mk K (He.ga K "Plain") (He.ma K (He.ga K "Plain") "__init__") := T.mkr 67
theorem Top.n_Plain_tree (T : Top K mg) : NoAttr K (He.ga K "Plain") "tree" := T.noat 68
theorem Top.n_Plain_books (T : Top K mg) : NoAttr K (He.ga K "Plain") "_books" := T.noat 69
theorem Top.n_Plain_made (T : Top K mg) : NoAttr K (He.ga K "Plain") "_made" := T.noat 70
theorem Top.n_Plain_ways (T : Top K mg) : NoAttr K (He.ga K "Plain") "_ways" := T.noat 71
theorem Top.n_Plain_deeds (T : Top K mg) : NoAttr K (He.ga K "Plain") "_deeds" := T.noat 72
end
abbrev N_is_integer : List Str := ["value"]
abbrev A_is_integer : List Str := ["value"]
theorem sc_is_integer : FnScope N_is_integer A_is_integer (defScope s_is_integer) := ⟨rfl, rfl, rfl, by decide +kernel, rfl, by decide +kernel, by decide +kernel⟩
abbrev N_is_index : List Str := ["value", "many"]
abbrev A_is_index : List Str := ["value", "many"]
theorem sc_is_index : FnScope N_is_index A_is_index (defScope s_is_index) := ⟨rfl, rfl, rfl, by decide +kernel, rfl, by decide +kernel, by decide +kernel⟩
abbrev N_is_list : List Str := ["value"]
abbrev A_is_list : List Str := ["value"]
theorem sc_is_list : FnScope N_is_list A_is_list (defScope s_is_list) := ⟨rfl, rfl, rfl, by decide +kernel, rfl, by decide +kernel, by decide +kernel⟩
abbrev N_is_signs : List Str := ["value", "most", "sign"]
abbrev A_is_signs : List Str := ["value", "most"]
theorem sc_is_signs : FnScope N_is_signs A_is_signs (defScope s_is_signs) := ⟨rfl, rfl, rfl, by decide +kernel, rfl, by decide +kernel, by decide +kernel⟩
abbrev N_is_cell : List Str := ["value", "letter"]
abbrev A_is_cell : List Str := ["value"]
theorem sc_is_cell : FnScope N_is_cell A_is_cell (defScope s_is_cell) := ⟨rfl, rfl, rfl, by decide +kernel, rfl, by decide +kernel, by decide +kernel⟩
abbrev N_is_text : List Str := ["value"]
abbrev A_is_text : List Str := ["value"]
theorem sc_is_text : FnScope N_is_text A_is_text (defScope s_is_text) := ⟨rfl, rfl, rfl, by decide +kernel, rfl, by decide +kernel, by decide +kernel⟩
abbrev N_is_road : List Str := ["value", "houses", "u", "v"]
abbrev A_is_road : List Str := ["value", "houses"]
theorem sc_is_road : FnScope N_is_road A_is_road (defScope s_is_road) := ⟨rfl, rfl, rfl, by decide +kernel, rfl, by decide +kernel, by decide +kernel⟩
abbrev N_are_roads : List Str := ["value", "houses", "at", "road"]
abbrev A_are_roads : List Str := ["value", "houses"]
theorem sc_are_roads : FnScope N_are_roads A_are_roads (defScope s_are_roads) := ⟨rfl, rfl, rfl, by decide +kernel, rfl, by decide +kernel, by decide +kernel⟩
abbrev N_joined_by : List Str := ["houses", "roads", "found", "u", "v", "_", "others"]
abbrev A_joined_by : List Str := ["houses", "roads"]
theorem sc_joined_by : FnScope N_joined_by A_joined_by (defScope s_joined_by) := ⟨rfl, rfl, rfl, by decide +kernel, rfl, by decide +kernel, by decide +kernel⟩
abbrev N_ways_from : List Str := ["near", "house", "found", "front", "at", "other", "_"]
abbrev A_ways_from : List Str := ["near", "house"]
theorem sc_ways_from : FnScope N_ways_from A_ways_from (defScope s_ways_from) := ⟨rfl, rfl, rfl, by decide +kernel, rfl, by decide +kernel, by decide +kernel⟩
abbrev N_Tree_init : List Str := ["self", "houses", "roads", "house"]
abbrev A_Tree_init : List Str := ["self", "houses", "roads"]
theorem sc_Tree_init : FnScope N_Tree_init A_Tree_init (defScope s_Tree_init) := ⟨rfl, rfl, rfl, by decide +kernel, rfl, by decide +kernel, by decide +kernel⟩
abbrev N_Tree_eq : List Str := ["self", "other"]
abbrev A_Tree_eq : List Str := ["self", "other"]
theorem sc_Tree_eq : FnScope N_Tree_eq A_Tree_eq (defScope s_Tree_eq) := ⟨rfl, rfl, rfl, by decide +kernel, rfl, by decide +kernel, by decide +kernel⟩
abbrev N_Tree_contains : List Str := ["self", "value"]
abbrev A_Tree_contains : List Str := ["self", "value"]
theorem sc_Tree_contains : FnScope N_Tree_contains A_Tree_contains (defScope s_Tree_contains) := ⟨rfl, rfl, rfl, by decide +kernel, rfl, by decide +kernel, by decide +kernel⟩
abbrev N_check_house : List Str := ["tree", "house"]
abbrev A_check_house : List Str := ["tree", "house"]
theorem sc_check_house : FnScope N_check_house A_check_house (defScope s_check_house) := ⟨rfl, rfl, rfl, by decide +kernel, rfl, by decide +kernel, by decide +kernel⟩
abbrev N_check_road : List Str := ["tree", "u", "v"]
abbrev A_check_road : List Str := ["tree", "u", "v"]
theorem sc_check_road : FnScope N_check_road A_check_road (defScope s_check_road) := ⟨rfl, rfl, rfl, by decide +kernel, rfl, by decide +kernel, by decide +kernel⟩
abbrev N_Plain_init : List Str := ["self", "tree", "houses", "_", "u", "v"]
abbrev A_Plain_init : List Str := ["self", "tree"]
theorem sc_Plain_init : FnScope N_Plain_init A_Plain_init (defScope s_Plain_init) := ⟨rfl, rfl, rfl, by decide +kernel, rfl, by decide +kernel, by decide +kernel⟩
abbrev N_Plain_come : List Str := ["self", "house", "line", "origin", "other"]
abbrev A_Plain_come : List Str := ["self", "house", "line", "origin"]
theorem sc_Plain_come : FnScope N_Plain_come A_Plain_come (defScope s_Plain_come) := ⟨rfl, rfl, rfl, by decide +kernel, rfl, by decide +kernel, by decide +kernel⟩
abbrev N_Plain_make : List Str := ["self", "house", "cell", "text", "line"]
abbrev A_Plain_make : List Str := ["self", "house", "cell", "text"]
theorem sc_Plain_make : FnScope N_Plain_make A_Plain_make (defScope s_Plain_make) := ⟨rfl, rfl, rfl, by decide +kernel, rfl, by decide +kernel, by decide +kernel⟩
abbrev N_Plain_hand : List Str := ["self", "u", "v", "line"]
abbrev A_Plain_hand : List Str := ["self", "u", "v"]
theorem sc_Plain_hand : FnScope N_Plain_hand A_Plain_hand (defScope s_Plain_hand) := ⟨rfl, rfl, rfl, by decide +kernel, rfl, by decide +kernel, by decide +kernel⟩
abbrev N_Plain_row : List Str := ["self", "house"]
abbrev A_Plain_row : List Str := ["self", "house"]
theorem sc_Plain_row : FnScope N_Plain_row A_Plain_row (defScope s_Plain_row) := ⟨rfl, rfl, rfl, by decide +kernel, rfl, by decide +kernel, by decide +kernel⟩
abbrev N_Plain_under_way : List Str := ["self", "u", "v"]
abbrev A_Plain_under_way : List Str := ["self", "u", "v"]
theorem sc_Plain_under_way : FnScope N_Plain_under_way A_Plain_under_way (defScope s_Plain_under_way) := ⟨rfl, rfl, rfl, by decide +kernel, rfl, by decide +kernel, by decide +kernel⟩
abbrev N_l_cell : List Str := ["_law_script", "_law_k"]
abbrev A_l_cell : List Str := ["_law_script", "_law_k"]
theorem sc_l_cell : FnScope N_l_cell A_l_cell (defScope s_l_cell) := ⟨rfl, rfl, rfl, by decide +kernel, rfl, by decide +kernel, by decide +kernel⟩
abbrev N_l_box : List Str := ["_law_great"]
abbrev A_l_box : List Str := ["_law_great"]
theorem sc_l_box : FnScope N_l_box A_l_box (defScope s_l_box) := ⟨rfl, rfl, rfl, by decide +kernel, rfl, by decide +kernel, by decide +kernel⟩
abbrev N_l_take : List Str := ["_law_box_here", "_law_many", "_law_digit", "_law_mixed_here"]
abbrev A_l_take : List Str := ["_law_box_here", "_law_many"]
theorem sc_l_take : FnScope N_l_take A_l_take (defScope s_l_take) := ⟨rfl, rfl, rfl, by decide +kernel, rfl, by decide +kernel, by decide +kernel⟩
abbrev N_l_mixed : List Str := ["_law_box_here", "_law_items", "_law_left", "_law_found"]
abbrev A_l_mixed : List Str := ["_law_box_here", "_law_items"]
theorem sc_l_mixed : FnScope N_l_mixed A_l_mixed (defScope s_l_mixed) := ⟨rfl, rfl, rfl, by decide +kernel, rfl, by decide +kernel, by decide +kernel⟩
abbrev N_l_world : List Str := ["_law_box_here", "_law_houses", "_law_many", "_law_kind", "_law_pairs", "_law_names", "_law_k", "_law_a", "_law_b"]
abbrev A_l_world : List Str := ["_law_box_here"]
theorem sc_l_world : FnScope N_l_world A_l_world (defScope s_l_world) := ⟨rfl, rfl, rfl, by decide +kernel, rfl, by decide +kernel, by decide +kernel⟩
abbrev N_l_way : List Str := ["_law_world_here", "_law_a", "_law_b", "_law_rows", "_law_row", "_law_u", "_law_v"]
abbrev A_l_way : List Str := ["_law_world_here", "_law_a", "_law_b"]
theorem sc_l_way : FnScope N_l_way A_l_way (defScope s_l_way) := ⟨rfl, rfl, rfl, by decide +kernel, rfl, by decide +kernel, by decide +kernel⟩
abbrev N_l_both : List Str := ["_law_world_here", "_law_u", "_law_v"]
abbrev A_l_both : List Str := ["_law_world_here"]
theorem sc_l_both : FnScope N_l_both A_l_both (defScope s_l_both) := ⟨rfl, rfl, rfl, by decide +kernel, rfl, by decide +kernel, by decide +kernel⟩
abbrev N_l_words : List Str := ["_law_box_here", "_law_cell_here"]
abbrev A_l_words : List Str := ["_law_box_here"]
theorem sc_l_words : FnScope N_l_words A_l_words (defScope s_l_words) := ⟨rfl, rfl, rfl, by decide +kernel, rfl, by decide +kernel, by decide +kernel⟩
abbrev N_l_ready : List Str := ["_law_world_here", "_law_books", "_law_ways", "_law_found", "_law_u", "_law_v", "_law_line"]
abbrev A_l_ready : List Str := ["_law_world_here", "_law_books", "_law_ways"]
theorem sc_l_ready : FnScope N_l_ready A_l_ready (defScope s_l_ready) := ⟨rfl, rfl, rfl, by decide +kernel, rfl, by decide +kernel, by decide +kernel⟩
abbrev N_l_make : List Str := ["_law_box_here", "_law_plain", "_law_books", "_law_notes", "_law_house", "_law_cell_here", "_law_text", "_law_line", "_law_row"]
abbrev A_l_make : List Str := ["_law_box_here", "_law_plain", "_law_books", "_law_notes", "_law_house"]
theorem sc_l_make : FnScope N_l_make A_l_make (defScope s_l_make) := ⟨rfl, rfl, rfl, by decide +kernel, rfl, by decide +kernel, by decide +kernel⟩
abbrev N_l_hand : List Str := ["_law_plain", "_law_books", "_law_ways", "_law_u", "_law_v", "_law_line", "_law_row"]
abbrev A_l_hand : List Str := ["_law_plain", "_law_books", "_law_ways", "_law_u", "_law_v"]
theorem sc_l_hand : FnScope N_l_hand A_l_hand (defScope s_l_hand) := ⟨rfl, rfl, rfl, by decide +kernel, rfl, by decide +kernel, by decide +kernel⟩
abbrev N_l_book_right : List Str := ["_law_keys", "_law_home", "_law_notes", "_law_at", "_law_ahead", "_law_due", "_law_key"]
abbrev A_l_book_right : List Str := ["_law_keys", "_law_home", "_law_notes"]
theorem sc_l_book_right : FnScope N_l_book_right A_l_book_right (defScope s_l_book_right) := ⟨rfl, rfl, rfl, by decide +kernel, rfl, by decide +kernel, by decide +kernel⟩
abbrev N_l_apart : List Str := ["_law_told", "_law_notes", "_law_x", "_law_z", "_law_home"]
abbrev A_l_apart : List Str := ["_law_told", "_law_notes"]
theorem sc_l_apart : FnScope N_l_apart A_l_apart (defScope s_l_apart) := ⟨rfl, rfl, rfl, by decide +kernel, rfl, by decide +kernel, by decide +kernel⟩
abbrev N_l_ways_right : List Str := ["_law_world_here", "_law_plain", "_law_told", "_law_notes", "_law_u", "_law_v", "_law_row", "_law_at", "_law_line", "_law_key"]
abbrev A_l_ways_right : List Str := ["_law_world_here", "_law_plain", "_law_told", "_law_notes"]
theorem sc_l_ways_right : FnScope N_l_ways_right A_l_ways_right (defScope s_l_ways_right) := ⟨rfl, rfl, rfl, by decide +kernel, rfl, by decide +kernel, by decide +kernel⟩
abbrev N_l_right_now : List Str := ["_law_world_here", "_law_plain", "_law_ways", "_law_books", "_law_notes", "_law_told", "_law_lines", "_law_made", "_law_house", "_law_book", "_law_keys", "_law_home", "_law_line", "_law_key", "_law_h"]
abbrev A_l_right_now : List Str := ["_law_world_here", "_law_plain", "_law_ways", "_law_books", "_law_notes"]
theorem sc_l_right_now : FnScope N_l_right_now A_l_right_now (defScope s_l_right_now) := ⟨rfl, rfl, rfl, by decide +kernel, rfl, by decide +kernel, by decide +kernel⟩
abbrev N_l_begun : List Str := ["_law_box_here", "_law_world_here", "_law_plain", "_law_ways", "_law_books", "_law_notes", "_law_house", "_law_ends", "_law_one", "_law_other", "_law_way_here", "_law_at", "_law_makes", "_law_road"]
abbrev A_l_begun : List Str := ["_law_box_here", "_law_world_here", "_law_plain", "_law_ways", "_law_books", "_law_notes"]
theorem sc_l_begun : FnScope N_l_begun A_l_begun (defScope s_l_begun) := ⟨rfl, rfl, rfl, by decide +kernel, rfl, by decide +kernel, by decide +kernel⟩
abbrev N_l_right : List Str := ["_law_box_here", "_law_planted", "_law_world_here", "_law_plain", "_law_books", "_law_notes", "_law_ways", "_law_left", "_law_turn", "_law_ready_here", "_law_make_here", "_law_u", "_law_v", "_law_whole", "_law_a", "_law_house", "_law_b", "_law_book"]
abbrev A_l_right : List Str := ["_law_box_here"]
theorem sc_l_right : FnScope N_l_right A_l_right (defScope s_l_right) := ⟨rfl, rfl, rfl, by decide +kernel, rfl, by decide +kernel, by decide +kernel⟩
abbrev N_law : List Str := ["_law_script", "_law_k"]
abbrev A_law : List Str := ["_law_script"]
theorem sc_law : FnScope N_law A_law (defScope s_law) := ⟨rfl, rfl, rfl, by decide +kernel, rfl, by decide +kernel, by decide +kernel⟩
end K9
end

section
set_option Elab.async false
set_option linter.all false
set_option maxRecDepth 100000
set_option maxHeartbeats 1000000
/-! numbers, keys, lines in the heap; comprehensions that only read; sets of keys -/
namespace K9
open PySem PySem.Spec PyProof.Rows L2

abbrev nV (n : Nat) : V := .int (n : Int)
abbrev nsV (l : List Nat) : List V := l.map nV
abbrev Line : Type := Ln Str
abbrev lineV (l : Line) : List V := [nV l.home, nV l.num, .str l.cell, .str l.text]
abbrev kyV (k : Ky) : List V := [nV k.1, nV k.2]
def LnAt (H : Hp) (v : V) (l : Line) : Prop := ∃ a, v = .ref a ∧ H a = some (.tup (lineV l))
def KyAt (H : Hp) (v : V) (k : Ky) : Prop := ∃ a, v = .ref a ∧ H a = some (.tup (kyV k))

/-! ### what stays -/
/-- the tuples stay -/
def Tups (H H' : Hp) : Prop := ∀ b xs, H b = some (.tup xs) → H' b = some (.tup xs)
theorem Tups.refl (H : Hp) : Tups H H := fun _ _ e => e
theorem Tups.trans {H H1 H2 : Hp} (a : Tups H H1) (b : Tups H1 H2) : Tups H H2 := fun c xs e => b c xs (a c xs e)
theorem _root_.L2.Same.tups {H H' : Hp} (s : Same H H') : Tups H H' := fun b xs e => s b _ e
theorem _root_.L2.Same.new {H : Hp} {p : Addr} {o : HO} (h : H p = none) : Same H (upd H p o) := fun b u e => by rw [upd_ne (ne_of_none e h)]; exact e
theorem _root_.L2.Same.newr {H H1 : Hp} {p : Addr} {o : HO} (s : Same H H1) (h : H1 p = none) : Same H (upd H1 p o) := s.trans (Same.new h)
/-- a list that H does not have is changed -/
theorem _root_.L2.Same.wr {H H1 : Hp} {p : Addr} {o : HO} (s : Same H H1) (h : H p = none) : Same H (upd H1 p o) := fun b u e => by rw [upd_ne (ne_of_none e h)]; exact s b u e
theorem Tups.wr {H : Hp} {p : Addr} {o u : HO} (h : H p = some u) (hn : ∀ xs, u ≠ .tup xs) : Tups H (upd H p o) := fun b xs e => by
  rw [upd_ne (fun z => hn xs (by rw [z, h] at e; exact Option.some.inj e))]
  exact e
theorem Tups.new {H : Hp} {p : Addr} {o : HO} (h : H p = none) : Tups H (upd H p o) := (Same.new h).tups
theorem LnAt.mono {H H' : Hp} (s : Tups H H') {v : V} {l : Line} (h : LnAt H v l) : LnAt H' v l := let ⟨a, e, h⟩ := h; ⟨a, e, s _ _ h⟩
theorem KyAt.mono {H H' : Hp} (s : Tups H H') {v : V} {k : Ky} (h : KyAt H v k) : KyAt H' v k := let ⟨a, e, h⟩ := h; ⟨a, e, s _ _ h⟩
theorem lnsMono {H H' : Hp} (s : Tups H H') {xs : List V} {ls : List Line} (h : Paired (LnAt H) xs ls) : Paired (LnAt H') xs ls := Paired.mapP h fun _ _ => LnAt.mono s
theorem kysMono {H H' : Hp} (s : Tups H H') {xs : List V} {ls : List Ky} (h : Paired (KyAt H) xs ls) : Paired (KyAt H') xs ls := Paired.mapP h fun _ _ => KyAt.mono s

/-! ### Paired by places -/
section
variable {α β : Type} {F : α → β → Prop}
theorem Paired.at_ : ∀ {xs : List α} {ys : List β} {i : Nat} {x : α}, Paired F xs ys → xs[i]? = some x → ∃ y, ys[i]? = some y ∧ F x y
  | _, _, _, _, .nil, e => by simp at e
  | _, _, 0, _, .cons h _, e => by simp at e; subst e; exact ⟨_, rfl, h⟩
  | _, _, i + 1, _, .cons _ t, e => by
    obtain ⟨y, h1, h2⟩ := Paired.at_ (i := i) t (by simpa using e)
    exact ⟨y, by simpa using h1, h2⟩
theorem Paired.at' : ∀ {xs : List α} {ys : List β} {i : Nat} {y : β}, Paired F xs ys → ys[i]? = some y → ∃ x, xs[i]? = some x ∧ F x y
  | _, _, _, _, .nil, e => by simp at e
  | _, _, 0, _, .cons h _, e => by simp at e; subst e; exact ⟨_, rfl, h⟩
  | _, _, i + 1, _, .cons _ t, e => by
    obtain ⟨y, h1, h2⟩ := Paired.at' (i := i) t (by simpa using e)
    exact ⟨y, by simpa using h1, h2⟩
theorem Paired.take_ : ∀ {xs : List α} {ys : List β} (n : Nat), Paired F xs ys → Paired F (xs.take n) (ys.take n)
  | _, _, 0, _ => .nil
  | _, _, _ + 1, .nil => .nil
  | _, _, n + 1, .cons h t => .cons h (Paired.take_ n t)
theorem Paired.app : ∀ {xs xs' : List α} {ys ys' : List β}, Paired F xs ys → Paired F xs' ys' → Paired F (xs ++ xs') (ys ++ ys')
  | _, _, _, _, .nil, h => h
  | _, _, _, _, .cons h t, h' => .cons h (Paired.app t h')
theorem Paired.of_map {f : β → α} (h : ∀ y, F (f y) y) : ∀ ys : List β, Paired F (ys.map f) ys
  | [] => .nil
  | y :: ys => .cons (h y) (Paired.of_map h ys)
end

/-! ### data -/
abbrev lnD (l : Line) : PyData := .tuple [.int l.home, .int l.num, .str l.cell, .str l.text]
abbrev kyD (k : Ky) : PyData := .tuple [.int k.1, .int k.2]
section
variable {K : PySem.W.Frag} {H : Hp}
theorem dpAll_of {β : Type} {F : V → β → Prop} {D : β → PyData} (h : ∀ v y, F v y → Dp K H v (D y)) : ∀ {xs : List V} {ys : List β}, Paired F xs ys → DpAll K H xs (ys.map D)
  | _, _, .nil => .nil
  | _, _, .cons h1 t => .cons (h _ _ h1) (dpAll_of h t)
theorem LnAt.dp {v : V} {l : Line} (h : LnAt H v l) : Dp K H v (lnD l) := by
  obtain ⟨a, rfl, h⟩ := h
  exact .tup (SqT.of h) (.cons (.int _) (.cons (.int _) (.cons (.str _) (.cons (.str _) .nil))))
theorem KyAt.dp {v : V} {k : Ky} (h : KyAt H v k) : Dp K H v (kyD k) := by
  obtain ⟨a, rfl, h⟩ := h
  exact .tup (SqT.of h) (.cons (.int _) (.cons (.int _) .nil))
theorem nsV_dp : ∀ l : List Nat, DpAll K H (nsV l) (l.map fun n : Nat => PyData.int (n : Int))
  | [] => .nil
  | n :: l => .cons (.int _) (nsV_dp l)
end
theorem int_eqv (a b : Nat) : (((a : Nat) : Int) == ((b : Nat) : Int)) = decide (a = b) := by
  by_cases h : a = b
  · subst h; simp
  · rw [decide_eq_false h]
    exact beq_eq_false_iff_ne.mpr (by omega)
theorem str_eqv (a b : Str) : (a == b) = decide (a = b) := by
  by_cases h : a = b
  · subst h; simp
  · rw [decide_eq_false h]
    exact beq_eq_false_iff_ne.mpr h
theorem kyD_eqv (a b : Ky) : PyData.eqv (kyD a) (kyD b) = decide (a = b) := by
  obtain ⟨a1, a2⟩ := a
  obtain ⟨b1, b2⟩ := b
  have e : PyData.eqv (kyD (a1, a2)) (kyD (b1, b2)) = (((a1 : Nat) : Int) == ((b1 : Nat) : Int) && (((a2 : Nat) : Int) == ((b2 : Nat) : Int) && true)) := by simp only [PyData.eqv, PyData.eqvAll]
  rw [e, int_eqv, int_eqv, Bool.and_true]
  by_cases h1 : a1 = b1 <;> by_cases h2 : a2 = b2 <;> simp [h1, h2]
theorem lnD_eqv (a b : Line) : PyData.eqv (lnD a) (lnD b) = decide (a = b) := by
  obtain ⟨a1, a2, a3, a4⟩ := a
  obtain ⟨b1, b2, b3, b4⟩ := b
  have e : PyData.eqv (lnD ⟨a1, a2, a3, a4⟩) (lnD ⟨b1, b2, b3, b4⟩) = (((a1 : Nat) : Int) == ((b1 : Nat) : Int) && (((a2 : Nat) : Int) == ((b2 : Nat) : Int) && (a3 == b3 && (a4 == b4 && true)))) := by simp only [PyData.eqv, PyData.eqvAll]
  rw [e, int_eqv, int_eqv, str_eqv, str_eqv, Bool.and_true]
  by_cases h1 : a1 = b1 <;> by_cases h2 : a2 = b2 <;> by_cases h3 : a3 = b3 <;> by_cases h4 : a4 = b4 <;> simp [h1, h2, h3, h4]
theorem kyD_depth (k : Ky) : (kyD k).depth ≤ 1 := by simp [PyData.depth, PyData.depthAll]
theorem lnD_depth (l : Line) : (lnD l).depth ≤ 1 := by simp [PyData.depth, PyData.depthAll]
theorem kyD_lay (k : Ky) : (kyD k).canLay0 = true := by simp [PyData.canLay0, PyData.canLayAll0]
/-- texts that the model may lay -/
def Wd (l : Line) : Prop := PyData.strOk l.cell = true ∧ PyData.strOk l.text = true
theorem lnD_lay {l : Line} (h : Wd l) : (lnD l).canLay0 = true := by simp [PyData.canLay0, PyData.canLayAll0, h.1, h.2]
theorem shaped_of {d : PyData} (h1 : d.canLay0 = true) (h2 : d.depth ≤ 64) : SeqAt.shaped d = true := by
  show (d.canLay0 && decide (d.depth ≤ 64)) = true
  rw [h1, decide_eq_true h2] <;> rfl
theorem kyD_shaped (k : Ky) : SeqAt.shaped (kyD k) = true := shaped_of (kyD_lay k) (by have := kyD_depth k; omega)
theorem lnD_shaped {l : Line} (h : Wd l) : SeqAt.shaped (lnD l) = true := shaped_of (lnD_lay h) (by have := lnD_depth l; omega)
theorem all_lay {β : Type} {D : β → PyData} : ∀ l : List β, (∀ y ∈ l, (D y).canLay0 = true) → PyData.canLayAll0 (l.map D) = true
  | [], _ => by simp [PyData.canLayAll0]
  | y :: l, h => by simp [PyData.canLayAll0, h y List.mem_cons_self, all_lay l fun z hz => h z (List.mem_cons_of_mem _ hz)]
theorem all_depth {β : Type} {D : β → PyData} {n : Nat} (h : ∀ y, (D y).depth ≤ n) : ∀ l : List β, PyData.depthAll (l.map D) ≤ n
  | [] => by simp [PyData.depthAll]
  | y :: l => by
    have h1 := all_depth h l
    have h2 := h y
    simp only [List.map_cons, PyData.depthAll]
    omega
theorem list_shaped {β : Type} {D : β → PyData} {n : Nat} (l : List β) (h1 : ∀ y ∈ l, (D y).canLay0 = true) (h2 : ∀ y, (D y).depth ≤ n) (hn : n ≤ 60) : SeqAt.shaped (.list (l.map D)) = true := by
  have h3 := all_depth h2 l
  refine shaped_of (by simp only [PyData.canLay0]; exact all_lay l h1) ?_
  simp only [PyData.depth]
  omega
theorem kyDs_shaped (l : List Ky) : SeqAt.shaped (.list (l.map kyD)) = true := list_shaped l (fun y _ => kyD_lay y) kyD_depth (by decide)
theorem lnDs_shaped {l : List Line} (h : ∀ x ∈ l, Wd x) : SeqAt.shaped (.list (l.map lnD)) = true := list_shaped l (fun y hy => lnD_lay (h y hy)) lnD_depth (by decide)
theorem intDs_shaped (l : List Nat) : SeqAt.shaped (.list (l.map fun n : Nat => PyData.int (n : Int))) = true := list_shaped (n := 0) l (fun _ _ => by simp [PyData.canLay0]) (fun _ => by simp [PyData.depth]) (by decide)
theorem nil_shaped : SeqAt.shaped (.list []) = true := intDs_shaped []
theorem any_eqv {β : Type} [DecidableEq β] {D : β → PyData} (h : ∀ a b, PyData.eqv (D a) (D b) = decide (a = b)) (x : β) : ∀ l : List β, ((l.map D).any fun z => PyData.eqv z (D x)) = decide (x ∈ l)
  | [] => by simp
  | y :: l => by
    rw [List.map_cons, List.any_cons, h, any_eqv h x l]
    by_cases e : y = x
    · subst e; simp
    · have e' : ¬ x = y := fun z => e z.symm
      simp [e, e']
theorem eqv_nil {ds : List PyData} : PyData.eqv (.list ds) (.list []) = ds.isEmpty := by
  cases ds <;> simp [PyData.eqv, PyData.eqvAll]
theorem eqvAll_eq {β : Type} [DecidableEq β] {D : β → PyData} (h : ∀ a b, PyData.eqv (D a) (D b) = decide (a = b)) : ∀ l m : List β, PyData.eqvAll (l.map D) (m.map D) = decide (l = m)
  | [], [] => by simp [PyData.eqvAll]
  | [], _ :: _ => by simp [PyData.eqvAll]
  | _ :: _, [] => by simp [PyData.eqvAll]
  | a :: l, b :: m => by
    rw [List.map_cons, List.map_cons]
    simp only [PyData.eqvAll]
    rw [h, eqvAll_eq h l m]
    by_cases e1 : a = b <;> by_cases e2 : l = m <;> simp [e1, e2]
theorem intD_eqv (a b : Nat) : PyData.eqv (PyData.int (a : Nat)) (PyData.int (b : Nat)) = decide (a = b) := by
  have e : PyData.eqv (PyData.int (a : Nat)) (PyData.int (b : Nat)) = (((a : Nat) : Int) == ((b : Nat) : Int)) := by simp only [PyData.eqv]
  rw [e, int_eqv]
theorem eqv_ints (l m : List Nat) : PyData.eqv (.list (l.map fun n : Nat => PyData.int (n : Int))) (.list (m.map fun n : Nat => PyData.int (n : Int))) = decide (l = m) := by
  have := eqvAll_eq intD_eqv l m
  simp only [PyData.eqv]
  exact this

/-- x in xs, of numbers -/
theorem inV_nat (x : Nat) : ∀ l : List Nat, inV (nV x) (nsV l) = decide (x ∈ l)
  | [] => by simp [inV]
  | y :: l => by
    have ih := inV_nat x l
    unfold inV at ih ⊢
    show ((nV y :: nsV l).any fun z => eqV z (nV x)) = _
    rw [List.any_cons, ih]
    have e : eqV (nV y) (nV x) = decide (y = x) := by
      show (((y : Nat) : Int) == ((x : Nat) : Int)) = _
      exact int_eqv y x
    rw [e]
    by_cases h : y = x
    · subst h; simp
    · have h' : ¬ x = y := fun z => h z.symm
      simp [h, h']
theorem nsV_flat : ∀ l : List Nat, (nsV l).all flatV = true
  | [] => rfl
  | y :: l => by
    show ((nV y :: nsV l).all flatV) = true
    rw [List.all_cons, nsV_flat l] <;> rfl
theorem nV_inj {a b : Nat} (h : nV a = nV b) : a = b := by
  injection h with h
  omega
theorem dec_nV (a b : Nat) : decide (nV a = nV b) = decide (a = b) := by
  by_cases h : a = b
  · subst h; simp
  · rw [decide_eq_false h]
    exact decide_eq_false fun z => h (nV_inj z)

/-! ### x in t, t a tuple of data; len of a set of tuples -/
section
variable {X : Cx}
def rInTD (K : PySem.W.Frag) : R2 := fun x y H Q => ∃ d ds, Dp K H x d ∧ Dp K H y (.tuple ds) ∧ SeqAt.shaped d = true ∧ SeqAt.shaped (.tuple ds) = true ∧ Q (.bl (ds.any fun z => PyData.eqv z d)) H
theorem op_inTD (hu : X.A.units + 65 < cLine) : OpR X (compareOp .In) (rInTD X.K) := by
  intro pins s σ H x y v u Q I rx ry h
  obtain ⟨d, ds, hd, he, sd, se, q⟩ := h
  obtain ⟨as, r1⟩ := Dp.reads I d x v hd rx
  obtain ⟨bs, r2⟩ := Dp.reads I (.tuple ds) y u he ry
  exact SeqAt.in_tuple_reads r2 r1 (SeqAt.canLay_of_shaped se) (SeqAt.canLay_of_shaped sd) (room_in_shaped sd hu) ⟨.bl _, H, I, rfl, q⟩
theorem call_len_setT : CallR X (.builtin "len") (fun xs H Q => ∃ a L, xs = [.ref a] ∧ H a = some (SetTO X.prog X.w a L) ∧ (∀ p ∈ L, SqT X.K H p.1 (p.2.map V.int)) ∧ ((L.map (·.2)).Nodup → Q (.int L.length) H)) := by
  intro pins s σ H xs us Q I r h
  obtain ⟨a, L, rfl, ha, hk, q⟩ := h
  have R0 : SetT0 X.prog X.w s.heap a L := (I.hok a _ ha).1
  obtain ⟨es, ep, t, R⟩ := R0.full fun p hp => I.isT (hk p hp)
  rw [Vals.ref1 r]
  obtain ⟨o, ho, hx, hd⟩ := R.ob
  have hf := R.few
  refine call_len_set ho hx hd R.fits (by rw [R.size]; omega) ⟨.int L.length, H, I.tok _, ⟨_, by rw [R.size]⟩, q R.nd⟩
end

/-! ### comprehensions that only read -/
section
variable {J : It} {n : Nat} {G : Hp → Prop} {xs : List V} {β γ : Type} {R : V → β → Prop} {ls : List β} {H1 : Hp} {D : Addr} {Qd : Hp → Prop} {tt : TT} {te : TE} {vs : List Nat} {σ : L2.St} {i : Nat}
/-- [x for x in xs if ..] -/
theorem lcKeep (w : Walk J n G (YAt xs)) (hn : xs.length = n) (pr : Paired R xs ls) (p : β → Bool) (hG : ∀ H, Same H1 H → G H) (hD : H1 D = none) (hlen : n ≤ 1000) (hi : i < σ.length) (hw : ∀ v, wipe ((wipe σ vs).set i (some v)) vs = wipe σ vs)
    (ht : ∀ x l H2 (Q : Bool → Hp → Prop), R x l → l ∈ ls → Same H1 H2 → (∀ H3, Same H2 H3 → Q (p l) H3) → tt ((wipe σ vs).set i (some x)) H2 Q)
    (hd : ∀ H zs, Same H1 H → H D = some (.lst zs) → Paired R zs (ls.filter p) → Qd H) :
    ∃ Wv : Nat → Nat → Hp → Prop, (∃ m, Wv 0 m (upd H1 D (.lst []))) ∧ ∀ k m H, Wv k m H →
      (J.stop k H ∧ Qd H) ∨ (J.go k H ∧ ∃ Nx : Hp → Prop, (∀ H', Nx H' → ∃ m', m' < m ∧ Wv (k + 1) m' H') ∧ ∀ x H', J.yld k H x H' → gName i x (wipe σ vs) H' fun σ2 H2 => wipe σ2 vs = wipe σ vs ∧ tt σ2 H2 fun b H3 =>
        if b = true then tVar i σ2 H3 fun y H4 => ∃ acc, H4 D = some (.lst acc) ∧ acc.length < sizeLine ∧ Nx (upd H4 D (.lst (acc ++ [y]))) else Nx H3) := by
  refine lc_it w (fun k H => Same H1 H ∧ ∃ zs, H D = some (.lst zs) ∧ Paired R zs ((ls.take k).filter p)) ⟨Same.new hD, [], upd_same, .nil⟩ (fun k H _ q => hG H q.1) ?_ ?_
  · rintro k x H H' hk ⟨s1, zs, hz, pz⟩ ⟨rfl, ex⟩
    obtain ⟨l, el, rl⟩ := Paired.at_ pr ex
    refine ⟨hw x, ht x l _ _ rl (List.mem_of_getElem? el) s1 fun H3 s3 => ?_⟩
    have e1 : (ls.take (k + 1)).filter p = (ls.take k).filter p ++ (if p l then [l] else []) := take_succ_filter p ls k l el
    refine ite2 (fun hp => ?_) (fun hp => ?_)
    · refine ⟨x, List.getElem?_set_self (by rw [wipe_length]; exact hi), zs, s3 _ _ hz, ?_, (s1.trans s3).wr hD, _, upd_same, ?_⟩
      · have h1 := Paired.length pz
        have h2 := List.length_filter_le p (ls.take k)
        rw [List.length_take] at h2
        exact Nat.lt_of_le_of_lt (by omega : zs.length ≤ 1000) (by decide)
      · rw [e1, if_pos hp]
        exact Paired.snoc pz rl
    · refine ⟨s1.trans s3, zs, s3 _ _ hz, ?_⟩
      rw [e1, if_neg hp, List.append_nil]
      exact pz
  · rintro H ⟨s1, zs, hz, pz⟩
    refine hd H zs s1 hz ?_
    have : ls.length = n := by rw [← Paired.length pr]; exact hn
    rwa [List.take_of_length_le (by omega)] at pz
/-- [e for x in xs]: R2 says what each element is -/
theorem lcEach (w : Walk J n G (YAt xs)) (hn : xs.length = n) (pr : Paired R xs ls) {R2 : Hp → V → γ → Prop} (f : β → γ) (hG : ∀ H, Same H1 H → G H) (hD : H1 D = none) (hlen : n ≤ 1000) (hw : ∀ v, wipe ((wipe σ vs).set i (some v)) vs = wipe σ vs)
    (mono : ∀ H H' y c, (∀ b o, b ≠ D → H b = some o → H' b = some o) → R2 H y c → R2 H' y c)
    (he : ∀ x l H2 (Q : VK), R x l → l ∈ ls → Same H1 H2 → (∃ zs, H2 D = some (.lst zs)) → (∀ y H3, Same H2 H3 → R2 H3 y (f l) → Q y H3) → te ((wipe σ vs).set i (some x)) H2 Q)
    (hd : ∀ H zs, Same H1 H → H D = some (.lst zs) → Paired (R2 H) zs (ls.map f) → Qd H) :
    ∃ Wv : Nat → Nat → Hp → Prop, (∃ m, Wv 0 m (upd H1 D (.lst []))) ∧ ∀ k m H, Wv k m H →
      (J.stop k H ∧ Qd H) ∨ (J.go k H ∧ ∃ Nx : Hp → Prop, (∀ H', Nx H' → ∃ m', m' < m ∧ Wv (k + 1) m' H') ∧ ∀ x H', J.yld k H x H' → gName i x (wipe σ vs) H' fun σ2 H2 => wipe σ2 vs = wipe σ vs ∧ tYes σ2 H2 fun b H3 =>
        if b = true then te σ2 H3 fun y H4 => ∃ acc, H4 D = some (.lst acc) ∧ acc.length < sizeLine ∧ Nx (upd H4 D (.lst (acc ++ [y]))) else Nx H3) := by
  refine lc_it w (fun k H => Same H1 H ∧ ∃ zs, H D = some (.lst zs) ∧ Paired (R2 H) zs ((ls.take k).map f)) ⟨Same.new hD, [], upd_same, .nil⟩ (fun k H _ q => hG H q.1) ?_ ?_
  · rintro k x H H' hk ⟨s1, zs, hz, pz⟩ ⟨rfl, ex⟩
    obtain ⟨l, el, rl⟩ := Paired.at_ pr ex
    refine ⟨hw x, ?_⟩
    unfold tYes
    dsimp only
    rw [if_pos rfl]
    refine he x l _ _ rl (List.mem_of_getElem? el) s1 ⟨zs, hz⟩ fun y H3 s3 q => ?_
    have h1 := Paired.length pz
    rw [List.length_map, List.length_take] at h1
    refine ⟨zs, s3 _ _ hz, Nat.lt_of_le_of_lt (by omega : zs.length ≤ 1000) (by decide), (s1.trans s3).wr hD, _, upd_same, ?_⟩
    have e1 : (ls.take (k + 1)).map f = (ls.take k).map f ++ [f l] := by
      rw [List.take_add_one, el, List.map_append] <;> rfl
    rw [e1]
    have k1 : ∀ b o, b ≠ D → H3 b = some o → upd H3 D (.lst (zs ++ [y])) b = some o := fun b o hb e => by rw [upd_ne hb]; exact e
    exact Paired.snoc (Paired.mapP pz fun a b q => mono _ _ a b (fun c o hc e => k1 c o hc (s3 c o e)) q) (mono _ _ y _ k1 q)
  · rintro H ⟨s1, zs, hz, pz⟩
    refine hd H zs s1 hz ?_
    have : ls.length = n := by rw [← Paired.length pr]; exact hn
    rwa [List.take_of_length_le (by omega)] at pz
end
/-- a range as a list of its numbers -/
theorem walk_nats (n : Nat) : Walk (Itr 0 n) n (fun _ => True) (YAt (nsV (List.range n))) :=
  walk_range.mono (fun _ h => h) fun i H x H' hi _ y => by
    obtain ⟨e1, e2⟩ := y
    refine ⟨e1, ?_⟩
    rw [e2, List.getElem?_map, List.getElem?_range hi]
    simp
end K9
end

section
set_option Elab.async false
set_option linter.all false
set_option maxRecDepth 100000
set_option maxHeartbeats 1000000
namespace K9
open PySem PySem.Spec PyProof.Rows L2
/-! a def with its promise; the small defs of shapes, texts -/
section
variable (P : Program) (w : World) (K : PySem.W.Frag) (mg : Str → Option Value) (base : Heap)
def Has (k : Nat) (f : Addr) (ps : List Str) (sp : Sp) : Prop := ∃ fd, FnOk P w K mg base CX0 k f fd ps sp ∧ Binds K fd ps [] ∧ PySem.W.keepIn K (.ref f) = true
def HasG (k : Nat) (f : Addr) (ps : List Str) (sp : Sp) : Prop := ∃ fd, FnG P w K mg base CX0 k f fd ps sp ∧ Binds K fd ps [] ∧ PySem.W.keepIn K (.ref f) = true
end
section
variable {P : Program} {w : World} {K : PySem.W.Frag} {mg : Str → Option Value} {base : Heap}
abbrev endOf (Q : VK) : Ends := { nx := fun _ H' => Q .non H', rt := Q }
theorem has_of {x q : Str} {st : Stmt} {f : Addr} {N ps : List Str} {k : Nat} {sp : Sp} (F : ∃ fd, FunD K x q (defArgs st) (defBody st) (defScope st) [] [] f fd) (S : FnScope N ps (defScope st))
    (hb : ∀ (kV doc pm : Value) (an : Option Addr) (cdv ct : Value) (us : List Value), us.length = ps.length → bindArgs (PySem.W.fnOf x q (defArgs st) (defBody st) (defScope st) .none kV doc pm an cdv ct) ⟨us, []⟩ = pure (ps.zip us))
    (len : ∀ vs H Q E, sp vs H Q E → vs.length = ps.length)
    (hbody : ∀ (cdv : Value) (A : Around) (outer : List Env) (s : Shared) (H : Hp) (vs : List V) (Q : VK) (E : XK), Room k (A.deeper (envOfC q (defScope st) s.heap.objs.size f cdv)) → sp vs H Q E →
      ∃ t, PSs (cxOf CX0 P w K mg base N q (defScope st) f cdv A outer s H E).nox (defBody st) t ∧ t (endOf Q) (L2.start N vs) H) : Has P w K mg base (k + 1) f ps sp := by
  obtain ⟨fd, F⟩ := F
  refine ⟨fd, F.ok S len fun cdv A outer s H vs Q E hr h => ?_, F.bindsN hb, F.kp⟩
  obtain ⟨t, h1, h2⟩ := hbody cdv A outer s H vs Q E hr h
  exact ⟨t, h1.nox, h2⟩
theorem hasG_of {x q : Str} {st : Stmt} {f : Addr} {N ps : List Str} {k : Nat} {sp : Sp} (F : ∃ fd, FunD K x q (defArgs st) (defBody st) (defScope st) [] [] f fd) (S : FnScope N ps (defScope st))
    (hb : ∀ (kV doc pm : Value) (an : Option Addr) (cdv ct : Value) (us : List Value), us.length = ps.length → bindArgs (PySem.W.fnOf x q (defArgs st) (defBody st) (defScope st) .none kV doc pm an cdv ct) ⟨us, []⟩ = pure (ps.zip us))
    (len : ∀ vs H Q E, sp vs H Q E → vs.length = ps.length)
    (hbody : ∀ (cdv : Value) (A : Around) (outer : List Env) (s : Shared) (H : Hp) (vs : List V) (Q : VK) (E : XK), A.guards = some [] → Room k (A.deeper (envOfC q (defScope st) s.heap.objs.size f cdv)) → sp vs H Q E →
      ∃ t, PSs (cxOf CX0 P w K mg base N q (defScope st) f cdv A outer s H E).nox (defBody st) t ∧ t (endOf Q) (L2.start N vs) H) : HasG P w K mg base (k + 1) f ps sp := by
  obtain ⟨fd, F⟩ := F
  refine ⟨fd, fnG_of F S len fun cdv A outer s H vs Q E hg hr h => ?_, F.bindsN hb, F.kp⟩
  obtain ⟨t, h1, h2⟩ := hbody cdv A outer s H vs Q E hg hr h
  exact ⟨t, h1.nox, h2⟩
end
def tUse (sp : Sp) (t : TA) : TE := fun σ H Q => t σ H fun vs H1 => sp vs H1 Q E0
def tUseM (C : Addr) (m : Str) (sp : Sp) (ta : TE) (t : TA) : TE := fun σ H Q => ta σ H fun x H1 => ∃ a dx fs, x = .ref a ∧ H1 a = some (.ins C dx fs) ∧ fs.lookup m = none ∧ t σ H1 fun vs H2 => sp (x :: vs) H2 Q E0
def tUseMk (C : Addr) (sp : Sp) (t : TA) : TE := fun σ H Q => t σ H fun vs H1 => ∀ x dx, H1 x = none → H1 dx = none → dx ≠ x → sp (.ref x :: vs) (upd (upd H1 dx (.own x)) x (.ins C dx [])) (fun v H2 => v = .non ∧ Q (.ref x) H2) E0
theorem tUse_eq (sp : Sp) (t : TA) : tCall sp [] E0 t = tUse sp t := by
  funext σ H Q
  show t σ H (fun vs H1 => sp (vs ++ []) H1 Q E0) = t σ H fun vs H1 => sp vs H1 Q E0
  have e : (fun (vs : List V) (H1 : Hp) => sp (vs ++ []) H1 Q E0) = fun vs H1 => sp vs H1 Q E0 := by
    funext vs H1
    rw [List.append_nil]
  rw [e]
theorem tUseM_eq (C : Addr) (m : Str) (sp : Sp) (ta : TE) (t : TA) : tMeth C m sp [] E0 ta t = tUseM C m sp ta t := by
  funext σ H Q
  unfold tMeth tUseM
  have e : ∀ x : V, (fun (vs : List V) (H2 : Hp) => sp (x :: (vs ++ [])) H2 Q E0) = fun vs H2 => sp (x :: vs) H2 Q E0 := fun x => by
    funext vs H2
    rw [List.append_nil]
  simp only [e]
theorem tUseMk_eq (C : Addr) (sp : Sp) (t : TA) : tMake C sp [] E0 t = tUseMk C sp t := by
  funext σ H Q
  unfold tMake tUseMk
  simp only [List.append_nil]
section
variable {X : Cx} {k : Nat} {f C : Addr} {ps : List Str} {sp : Sp} {x m : Str} {p pos apos : Pos} {e o : Expr} {es : List Expr} {t : TA} {ta : TE}
theorem pe_use (h : Has X.prog X.w X.K X.mg X.base k f ps sp) (hr : Room k X.A) (hm : X.mg x = some (.ref f)) (ha : PA X (e :: es) t) (hg : Gl X x := by rfl) (hdb : (x == ("__debug__" : Str)) = false := by decide)
    (he : starEach (e :: es) X.env = (false, eval e X.env) :: starEach es X.env := by rfl) (hpl : (backTo pos (starEach es X.env)).any (·.1) = false := by rfl) : PE X (.Call (.Name x p) (e :: es) [] pos) (tUse sp t) := by
  obtain ⟨fd, F, b, kp⟩ := h
  rw [← tUse_eq]
  exact pe_call F hr hg hm kp b .nil pass0 ha hdb he hpl
theorem pe_useG (h : HasG X.prog X.w X.K X.mg X.base k f ps sp) (hgd : X.A.guards = some []) (hr : Room k X.A) (hm : X.mg x = some (.ref f)) (ha : PA X (e :: es) t) (hg : Gl X x := by rfl) (hdb : (x == ("__debug__" : Str)) = false := by decide)
    (he : starEach (e :: es) X.env = (false, eval e X.env) :: starEach es X.env := by rfl) (hpl : (backTo pos (starEach es X.env)).any (·.1) = false := by rfl) : PE X (.Call (.Name x p) (e :: es) [] pos) (tUse sp t) := by
  obtain ⟨fd, F, b, kp⟩ := h
  rw [← tUse_eq]
  exact pe_callG F hgd hr hg hm kp b pass0 ha hdb he hpl
theorem pe_useM {pl : Sem Bool} (he : PE X o ta) (c : Cls X.K C) (hm : Meth X.K C m f) (h : Has X.prog X.w X.K X.mg X.base k f ps sp) (hr : Room k X.A) (ha : PA X (e :: es) t)
    (hst : starEach (e :: es) X.env = (false, eval e X.env) :: starEach es X.env := by rfl) (hpl : (backTo pos (starEach es X.env)).any (·.1) = false := by rfl)
    (ht : eval (.Call (.Attribute o m apos) (e :: es) [] pos) X.env = (do
      let ov ← eval o X.env
      standAt apos.atName
      let (f, first) ← holding [ov] (getMethod ov m pl)
      callWith pos f first (backTo pos (starEach (e :: es) X.env)) (backToKw pos (keywordEach [] X.env))) := by rfl) :
    PE X (.Call (.Attribute o m apos) (e :: es) [] pos) (tUseM C m sp ta t) := by
  obtain ⟨fd, F, b, kp⟩ := h
  rw [← tUseM_eq]
  exact pe_meth he c hm F hr b .nil pass0 ha hst hpl ht
theorem pe_useMk (M : Mk X.K C f) (h : Has X.prog X.w X.K X.mg X.base k f ps sp) (hr : Room (k + 1) X.A) (hm : X.mg x = some (.ref C)) (ha : PA X (e :: es) t) (hg : Gl X x := by rfl) (hdb : (x == ("__debug__" : Str)) = false := by decide)
    (he : starEach (e :: es) X.env = (false, eval e X.env) :: starEach es X.env := by rfl) (hpl : (backTo pos (starEach es X.env)).any (·.1) = false := by rfl) : PE X (.Call (.Name x p) (e :: es) [] pos) (tUseMk C sp t) := by
  obtain ⟨fd, F, b, kp⟩ := h
  rw [← tUseMk_eq]
  exact pe_make M F hr hg hm b .nil pass0 ha hdb he hpl
/-- a built-in called by its name -/
theorem pe_blt {id : String} {r : List V → Hp → VK → Prop} (hc : CallR X (.builtin id) r) (hm : X.mg x = none) (ha : PA X (e :: es) t) (hg : Gl X x := by rfl) (hv : bootBuiltins x = some (.builtin id) := by decide +kernel) (hn : x ≠ "__name__" := by decide) (hdb : (x == ("__debug__" : Str)) = false := by decide)
    (he : starEach (e :: es) X.env = (false, eval e X.env) :: starEach es X.env := by rfl) (hpl : (backTo pos (starEach es X.env)).any (·.1) = false := by rfl) : PE X (.Call (.Name x p) (e :: es) [] pos) (tCB r t) :=
  pe_callB hc hg hm hv ha hn hdb he hpl
theorem pe_blty {id : String} {r : List V → Hp → VK → Prop} (hc : CallR X (.type id) r) (hm : X.mg x = none) (ha : PA X (e :: es) t) (hg : Gl X x := by rfl) (hv : bootBuiltins x = some (.type id) := by decide +kernel) (hn : x ≠ "__name__" := by decide) (hdb : (x == ("__debug__" : Str)) = false := by decide)
    (he : starEach (e :: es) X.env = (false, eval e X.env) :: starEach es X.env := by rfl) (hpl : (backTo pos (starEach es X.env)).any (·.1) = false := by rfl) : PE X (.Call (.Name x p) (e :: es) [] pos) (tCB r t) :=
  pe_callTy hc hg hm hv ha hn hdb he hpl
/-- a built-in class's name -/
theorem pe_tyn (n : String) (hm : X.mg x = none) (hg : Gl X x := by rfl) (hv : bootBuiltins x = some (.type n) := by decide +kernel) (hn : x ≠ "__name__" := by decide) (hdb : (x == ("__debug__" : Str)) = false := by decide) : PE X (.Name x pos) (tC (.ty n)) :=
  pe_bltn hg hm hv rfl hn hdb
theorem pe_gint {n : Int} (h : ∃ t, X.mg x = some (.int n t)) (hg : Gl X x := by rfl) (hdb : (x == ("__debug__" : Str)) = false := by decide) : PE X (.Name x pos) (tC (.int n)) := by
  obtain ⟨t, h⟩ := h
  exact pe_glob hg h ⟨t, rfl⟩ hdb
end

section
variable {P : Program} {w : World} {K : PySem.W.Frag} {mg : Str → Option Value} {base : Heap}
/-! ### shapes -/
def spIsInteger : Sp := fun vs H Q _ => ∃ i : Int, vs = [.int i] ∧ Q (.bl true) H
theorem h_is_integer (T : Top K mg) : Has P w K mg base 1 (He.ga K "is_integer") A_is_integer spIsInteger := by
  refine has_of T.f_is_integer sc_is_integer (fun _ _ _ _ _ _ us hl => match us, hl with | [_], _ => rfl) (fun vs H Q E h => ?_) (fun cdv A outer s H vs Q E hr h => ?_)
  · obtain ⟨i, rfl, _⟩ := h
    rfl
  · obtain ⟨i, rfl, q⟩ := h
    refine ⟨_, pss_one (ps_ret (pe_and (pe_blt call_isi T.z_isinstance (pa_cons (pv 0) (pa_cons (pe_tyn "int" T.z_int) pa_nil)))
      (pe_one (pe_not (pe_blt call_isi T.z_isinstance (pa_cons (pv 0) (pa_cons (pe_tyn "bool" T.z_bool) pa_nil))))))), ?_⟩
    refine ⟨_, rfl, _, _, _, _, true, rfl, .ty _, .base (.int i), kit_ty (by decide +kernel), true, rfl, ?_⟩
    refine iteT ?_
    exact ⟨_, rfl, _, _, _, _, false, rfl, .ty _, .base (.int i), kit_ty (by decide +kernel), false, rfl, q⟩
def spIsIndex : Sp := fun vs H Q _ => ∃ i n : Int, vs = [.int i, .int n] ∧ Q (.bl (decide (0 ≤ i ∧ i < n))) H
theorem h_is_index (T : Top K mg) : Has P w K mg base 2 (He.ga K "is_index") A_is_index spIsIndex := by
  refine has_of T.f_is_index sc_is_index (fun _ _ _ _ _ _ us hl => match us, hl with | [_, _], _ => rfl) (fun vs H Q E h => ?_) (fun cdv A outer s H vs Q E hr h => ?_)
  · obtain ⟨i, n, rfl, _⟩ := h
    rfl
  · obtain ⟨i, n, rfl, q⟩ := h
    refine ⟨_, pss_one (ps_ret (pe_and (pe_use (h_is_integer T) hr T.g_is_integer (pa_cons (pv 0) pa_nil)) (pe_one (pe_chain op_le op_lt pe_int (pv 0) (pv 1))))), ?_⟩
    refine ⟨_, rfl, i, rfl, true, rfl, ?_⟩
    refine iteT ?_
    refine ⟨_, rfl, _, _, rfl, rfl, _, rfl, ?_⟩
    by_cases h0 : (0 : Int) ≤ i
    · rw [decide_eq_true h0]
      refine iteT ?_
      refine ⟨_, rfl, _, _, rfl, rfl, ?_⟩
      have e : decide (i < n) = decide (0 ≤ i ∧ i < n) := by simp [h0]
      show Q (.bl (decide (i < n))) H
      rw [e]
      exact q
    · rw [decide_eq_false h0]
      refine iteF ?_
      have e : decide (0 ≤ i ∧ i < n) = false := by simp [h0]
      rw [e] at q
      exact q
end
end K9
end

section
set_option Elab.async false
set_option linter.all false
set_option maxRecDepth 100000
set_option maxHeartbeats 1000000
namespace K9
open PySem PySem.Spec PyProof.Rows L2
/-! texts, cells, roads -/
theorem walk_signs (z : Str) : Walk (Its z) z.cps.size (fun _ => True) (YAt (z.cps.toList.map fun c => V.str ⟨#[c]⟩)) :=
  walk_str.mono (fun _ h => h) fun i H x H' hi _ y => by
    obtain ⟨e1, c, e2, e3⟩ := y
    refine ⟨e1, ?_⟩
    have e4 : z.cps.toList[i]? = some c := by rw [Array.getElem?_toList]; exact e2
    rw [List.getElem?_map, e4, e3] <;> rfl
/-- between two signs, as the model compares texts -/
def betw (lo hi : Str) (c : Nat) : Bool := (!decide (([c] : List Nat) < lo.cps.toList)) && !decide (hi.cps.toList < ([c] : List Nat))
def cells4 : List Str := ["bell", "a", "ab", "z"]
def texts4 : List Str := ["", "rings", " ", "0"]
theorem cells_ok : ∀ z ∈ cells4, (z.cps.toList.map (betw "a" "z")).all id = true ∧ z.cps.size ≤ 8 ∧ 1 ≤ z.length ∧ z.length ≤ 8 ∧ PyData.strOk z = true ∧ (reprText z).length ≤ 10 := by decide +kernel
theorem texts_ok : ∀ z ∈ texts4, (z.cps.toList.map (betw " " "~")).all id = true ∧ z.cps.size ≤ 40 ∧ z.length ≤ 40 ∧ PyData.strOk z = true ∧ (reprText z).length ≤ 10 := by decide +kernel
section
variable {P : Program} {w : World} {K : PySem.W.Frag} {mg : Str → Option Value} {base : Heap}
/-- all([lo <= c <= hi for c in z]), read -/
theorem signs_read {lo hi z : Str} {i : Nat} {σ : L2.St} {H : Hp} {vs : List Nat} {Q : VK} (hz : z.cps.size ≤ 1000) (hi' : i < σ.length) (hw : ∀ v, wipe ((wipe σ vs).set i (some v)) vs = wipe σ vs)
    (q : ∀ H', Same H H' → Q (.bl ((z.cps.toList.map (betw lo hi)).all id)) H') :
    ∀ D, H D = none → ∃ W : Nat → Nat → Hp → Prop, (∃ m, W 0 m (upd H D (.lst []))) ∧ ∀ k m H, W k m H →
      ((Its z).stop k H ∧ rAll K [.ref D] H Q) ∨ ((Its z).go k H ∧ ∃ Nx : Hp → Prop, (∀ H', Nx H' → ∃ m', m' < m ∧ W (k + 1) m' H') ∧ ∀ x H', (Its z).yld k H x H' → gName i x (wipe σ vs) H' fun σ2 H2 => wipe σ2 vs = wipe σ vs ∧ tYes σ2 H2 fun b H3 =>
        if b = true then tChain (fun x y H Q => ∃ i j, x = .str i ∧ y = .str j ∧ Q (.bl (!decide (j.cps.toList < i.cps.toList))) H) (fun x y H Q => ∃ i j, x = .str i ∧ y = .str j ∧ Q (.bl (!decide (j.cps.toList < i.cps.toList))) H) (tC (.str lo)) (tVar i) (tC (.str hi)) σ2 H3 fun y H4 =>
          ∃ acc, H4 D = some (.lst acc) ∧ acc.length < sizeLine ∧ Nx (upd H4 D (.lst (acc ++ [y]))) else Nx H3) := by
  intro D hD
  refine lcEach (R := fun x c => x = V.str ⟨#[c]⟩) (R2 := fun _ y b => y = V.bl b) (ls := z.cps.toList) (walk_signs z) (by simp) (Paired.of_map (F := fun x c => x = V.str ⟨#[c]⟩) (f := fun c => V.str ⟨#[c]⟩) (fun _ => rfl) _) (betw lo hi) (fun _ _ => trivial) hD hz hw (fun _ _ _ _ _ e => e) ?_ ?_
  · rintro x c H2 Q' rfl hc s1 _ k
    refine ⟨_, List.getElem?_set_self (by rw [wipe_length]; exact hi'), lo, ⟨#[c]⟩, rfl, rfl, _, rfl, ?_⟩
    cases e : (!decide ((⟨#[c]⟩ : Str).cps.toList < lo.cps.toList)) with
    | true =>
      refine iteT ⟨⟨#[c]⟩, hi, rfl, rfl, ?_⟩
      refine k _ H2 (L2.Same.refl _) ?_
      show _ = V.bl (betw lo hi c)
      have e' : (!decide (([c] : List Nat) < lo.cps.toList)) = true := e
      unfold betw
      rw [e'] <;> rfl
    | false =>
      refine iteF ?_
      refine k _ H2 (L2.Same.refl _) ?_
      show _ = V.bl (betw lo hi c)
      have e' : (!decide (([c] : List Nat) < lo.cps.toList)) = false := e
      unfold betw
      rw [e'] <;> rfl
  · intro H' zs s1 hz' pz
    have e : zs = (z.cps.toList.map (betw lo hi)).map V.bl := by
      clear hz' q
      generalize z.cps.toList.map (betw lo hi) = bs at pz
      induction pz with
      | nil => rfl
      | cons h _ ih => rw [h, ih] <;> rfl
    rw [e] at hz'
    exact ⟨D, _, rfl, SqL.of hz', q _ s1⟩
def spIsList : Sp := fun vs H Q _ => ∃ a xs, vs = [.ref a] ∧ H a = some (.lst xs) ∧ ∀ H', Same H H' → Q (.bl true) H'
theorem h_is_list (T : Top K mg) : Has P w K mg base 1 (He.ga K "is_list") A_is_list spIsList := by
  refine has_of T.f_is_list sc_is_list (fun _ _ _ _ _ _ us hl => match us, hl with | [_], _ => rfl) (fun vs H Q E h => ?_) (fun cdv A outer s H vs Q E hr h => ?_)
  · obtain ⟨a, xs, rfl, _⟩ := h
    rfl
  · obtain ⟨a, xs, rfl, ha, q⟩ := h
    refine ⟨_, pss_one (ps_ret (pe_blt call_isiT T.z_isinstance (pa_cons (pv 0) (pa_cons (pe_tup (pa_cons (pe_tyn "list" T.z_list) (pa_cons (pe_tyn "tuple" T.z_tuple) pa_nil))) pa_nil)))), ?_⟩
    refine ⟨_, rfl, by show 2 ≤ sizeLine; decide, fun p hp => ?_⟩
    have s1 : Same H (upd H p (.tup [V.ty "list", V.ty "tuple"])) := L2.Same.new hp
    exact ⟨_, p, _, .type "list", [.type "list", .type "tuple"], true, rfl, upd_same, .cons (.ty _) (.cons (.ty _) .nil), .base (.lst (s1 _ _ ha)), kitAny_cons (kit_ty (r := true) (by decide +kernel)) (fun z => nomatch z) (fun _ => rfl), q _ s1⟩
def spIsSigns : Sp := fun vs H Q _ => ∃ z, vs = [.str z, .int 40] ∧ z ∈ texts4 ∧ ∀ H', Same H H' → Q (.bl true) H'
theorem h_is_signs (T : Top K mg) : Has P w K mg base 1 (He.ga K "is_signs") A_is_signs spIsSigns := by
  obtain ⟨fd, F⟩ := T.f_is_signs
  refine ⟨fd, F.ok sc_is_signs (fun vs H Q E h => ?_) (fun cdv A outer s H vs Q E hr h => ?_), ?_, F.kp⟩
  · obtain ⟨z, rfl, _⟩ := h
    rfl
  · obtain ⟨z, rfl, hz, q⟩ := h
    obtain ⟨t1, t2, t3, _, _⟩ := texts_ok z hz
    refine ⟨_, PSs.nox (pss_cons (ps_if (PW.pt (pw_or (pt_not (pt_val (pe_blt call_isi T.z_isinstance (pa_cons (pv 0) (pa_cons (pe_tyn "str" T.z_str) pa_nil))))) (pw_or1 (PW.pt (pw_and (pt_cmpR op_notN (pv 1) pe_non (nomark _)) (pw_and1 (pt_cmpR op_gt (pe_blt call_len_str T.z_len (pa_cons (pv 0) pa_nil)) (pv 1) (nomark _))))))))
        (pss_one (ps_ret pe_bl)) pss_nil)
      (pss_one (ps_ret (pe_blt (cr_all rfl) T.z_all (pa_cons (pe_lc (own := [("sign", 2)]) (g := gName 2) (tt := tYes) rfl sc_is_signs.nd (pi_str (pv 0)) (blkOk_by (N := N_is_signs) (sc := defScope s_is_signs) (by decide +kernel)) (fun _ _ _ _ _ => pg_name (i := 2) sc_is_signs.nd rfl (Or.inl rfl)) (fun _ _ _ _ _ => pts_nil)
        (fun _ _ _ _ _ => pe_chain op_le_str op_le_str pe_str (pv 2) pe_str)) pa_nil))))), ?_⟩
    refine ⟨_, rfl, _, _, _, _, true, rfl, .ty _, .base (.str z), kit_ty (by decide +kernel), true, rfl, ?_⟩
    refine iteF ?_
    refine ⟨_, rfl, rfl, _, rfl, ?_⟩
    refine iteT ?_
    refine ⟨_, rfl, z, rfl, Nat.le_trans t3 (by decide), _, rfl, _, _, rfl, rfl, _, rfl, ?_⟩
    have e : decide ((40 : Int) < (z.length : Int)) = false := decide_eq_false (by omega)
    rw [e]
    refine iteF ?_
    refine ⟨_, rfl, z, rfl, signs_read (by omega) (by show 2 < 3; decide) (fun _ => rfl) fun H' s1 => ?_⟩
    rw [t1]
    exact q H' s1
  · obtain ⟨ds, hv, hb⟩ := F.binds1 (ps := A_is_signs) 2 1 (List.cons_ne_nil _ _) rfl (fun T kV doc pm an cdv ct us its h1 h2 => match us, its, h1, h2 with | [_, _], [_], _, _ => ⟨_, rfl, by kernel_rfl⟩)
    cases hv
    exact hb
def spIsText : Sp := fun vs H Q _ => ∃ z, vs = [.str z] ∧ z ∈ texts4 ∧ ∀ H', Same H H' → Q (.bl true) H'
theorem h_is_text (T : Top K mg) : Has P w K mg base 2 (He.ga K "is_text") A_is_text spIsText := by
  refine has_of T.f_is_text sc_is_text (fun _ _ _ _ _ _ us hl => match us, hl with | [_], _ => rfl) (fun vs H Q E h => ?_) (fun cdv A outer s H vs Q E hr h => ?_)
  · obtain ⟨z, rfl, _⟩ := h
    rfl
  · obtain ⟨z, rfl, hz, q⟩ := h
    refine ⟨_, pss_one (ps_ret (pe_use (h_is_signs T) hr T.g_is_signs (pa_cons (pv 0) (pa_cons (pe_gint T.c_MOST_SIGNS) pa_nil)))), ?_⟩
    exact ⟨_, rfl, z, rfl, hz, q⟩
def spIsCell : Sp := fun vs H Q _ => ∃ z, vs = [.str z] ∧ z ∈ cells4 ∧ ∀ H', Same H H' → Q (.bl true) H'
theorem h_is_cell (T : Top K mg) : Has P w K mg base 1 (He.ga K "is_cell") A_is_cell spIsCell := by
  refine has_of T.f_is_cell sc_is_cell (fun _ _ _ _ _ _ us hl => match us, hl with | [_], _ => rfl) (fun vs H Q E h => ?_) (fun cdv A outer s H vs Q E hr h => ?_)
  · obtain ⟨z, rfl, _⟩ := h
    rfl
  · obtain ⟨z, rfl, hz, q⟩ := h
    obtain ⟨t1, t2, t3, t4, _, _⟩ := cells_ok z hz
    refine ⟨_, pss_cons (ps_if (PW.pt (pw_or (pt_not (pt_val (pe_blt call_isi T.z_isinstance (pa_cons (pv 0) (pa_cons (pe_tyn "str" T.z_str) pa_nil))))) (pw_or1 (pt_not (pt_chain op_le op_le pe_int (pe_blt call_len_str T.z_len (pa_cons (pv 0) pa_nil)) (pe_gint T.c_MOST_LETTERS))))))
        (pss_one (ps_ret pe_bl)) pss_nil)
      (pss_one (ps_ret (pe_blt (cr_all rfl) T.z_all (pa_cons (pe_lc (own := [("letter", 1)]) (g := gName 1) (tt := tYes) rfl sc_is_cell.nd (pi_str (pv 0)) (blkOk_by (N := N_is_cell) (sc := defScope s_is_cell) (by decide +kernel)) (fun _ _ _ _ _ => pg_name (i := 1) sc_is_cell.nd rfl (Or.inl rfl)) (fun _ _ _ _ _ => pts_nil)
        (fun _ _ _ _ _ => pe_chain op_le_str op_le_str pe_str (pv 1) pe_str)) pa_nil)))), ?_⟩
    refine ⟨_, rfl, _, _, _, _, true, rfl, .ty _, .base (.str z), kit_ty (by decide +kernel), true, rfl, ?_⟩
    refine iteF ?_
    refine ⟨_, rfl, z, rfl, Nat.le_trans t4 (by decide), _, _, rfl, rfl, _, rfl, ?_⟩
    have e : decide ((1 : Int) ≤ (z.length : Int)) = true := decide_eq_true (by omega)
    rw [e]
    refine iteT ?_
    refine ⟨_, _, rfl, rfl, _, rfl, ?_⟩
    have e : decide ((z.length : Int) ≤ (8 : Int)) = true := decide_eq_true (by omega)
    rw [e]
    refine iteF ?_
    refine ⟨_, rfl, z, rfl, signs_read (by omega) (by show 1 < 2; decide) (fun _ => rfl) fun H' s1 => ?_⟩
    rw [t1]
    exact q H' s1
end
end K9
end

section
set_option Elab.async false
set_option linter.all false
set_option maxRecDepth 100000
set_option maxHeartbeats 1000000
namespace K9
open PySem PySem.Spec PyProof.Rows L2
section
variable {P : Program} {w : World} {K : PySem.W.Frag} {mg : Str → Option Value} {base : Heap}
theorem small40 {n : Nat} (h : n ≤ 1000) : n ≤ sizeLine := Nat.le_trans h (by decide)
def spIsRoad : Sp := fun vs H Q _ => ∃ (a : Addr) (u v n : Nat), vs = [.ref a, nV n] ∧ H a = some (.tup (kyV (u, v))) ∧ u < v ∧ v < n ∧ Q (.bl true) H
theorem h_is_road (T : Top K mg) : Has P w K mg base 3 (He.ga K "is_road") A_is_road spIsRoad := by
  refine has_of T.f_is_road sc_is_road (fun _ _ _ _ _ _ us hl => match us, hl with | [_, _], _ => rfl) (fun vs H Q E h => ?_) (fun cdv A outer s H vs Q E hr h => ?_)
  · obtain ⟨a, u, v, n, rfl, _⟩ := h
    rfl
  · obtain ⟨a, u, v, n, rfl, ha, huv, hvn, q⟩ := h
    refine ⟨_, pss_cons (ps_if (PW.pt (pw_or (pt_not (pt_val (pe_blt call_isi T.z_isinstance (pa_cons (pv 0) (pa_cons (pe_tyn "tuple" T.z_tuple) pa_nil))))) (pw_or1 (pt_cmpR op_ne (pe_blt call_len_seq T.z_len (pa_cons (pv 0) pa_nil)) pe_int (nomark _)))))
        (pss_one (ps_ret pe_bl)) pss_nil)
      (pss_cons (ps_asg (pv 0) (pg_tup rfl (pgs_cons (pg_name (i := 2) sc_is_road.nd rfl (Or.inl rfl)) (pgs_cons (pg_name (i := 3) sc_is_road.nd rfl (Or.inl rfl)) pgs_nil))))
      (pss_one (ps_ret (pe_and (pe_use (h_is_index T) hr T.g_is_index (pa_cons (pv 2) (pa_cons (pv 1) pa_nil))) (pe_and (pe_use (h_is_index T) hr T.g_is_index (pa_cons (pv 3) (pa_cons (pv 1) pa_nil))) (pe_one (pe_cmpR op_lt (pv 2) (pv 3) (nomark _)))))))), ?_⟩
    refine ⟨_, rfl, _, _, _, _, true, rfl, .ty _, .base (.tup ha), kit_ty (by decide +kernel), true, rfl, ?_⟩
    refine iteF ?_
    refine ⟨_, rfl, a, _, rfl, .inr (SqT.of ha), rfl, _, rfl, ?_⟩
    refine iteF ?_
    refine ⟨_, rfl, a, _, rfl, SqT.of ha, rfl, _, _, rfl, _, _, rfl, rfl, ?_⟩
    refine ⟨_, rfl, _, rfl, _, _, rfl, ?_⟩
    have e1 : decide ((0 : Int) ≤ (u : Int) ∧ (u : Int) < (n : Int)) = true := decide_eq_true (by omega)
    rw [e1]
    refine ⟨true, rfl, iteT ?_⟩
    refine ⟨_, rfl, _, rfl, _, _, rfl, ?_⟩
    have e2 : decide ((0 : Int) ≤ (v : Int) ∧ (v : Int) < (n : Int)) = true := decide_eq_true (by omega)
    rw [e2]
    refine ⟨true, rfl, iteT ?_⟩
    refine ⟨_, rfl, _, rfl, _, _, rfl, rfl, ?_⟩
    show Q (.bl (decide ((u : Int) < (v : Int)))) H
    rw [decide_eq_true (by omega)]
    exact q
/-- ascending, as tuples -/
theorem lex_of {a b : Ky} (h : ltP a b) : HT.lexLt [(a.1 : Int), (a.2 : Int)] [(b.1 : Int), (b.2 : Int)] = true := by
  rw [HT.lexLt_cons]
  rcases h with h | ⟨h1, h2⟩
  · rw [if_neg (by omega)]
    exact decide_eq_true (by omega)
  · rw [if_pos (by rw [h1]), HT.lexLt_cons, if_neg (by omega)]
    exact decide_eq_true (by omega)
/-- what the program asks of the roads -/
structure RoadsOk (n : Nat) (R : List Ky) : Prop where
  lt : ∀ r ∈ R, r.1 < r.2 ∧ r.2 < n
  len : R.length + 1 = n
  asc : ∀ (i : Nat) a b, R[i]? = some a → R[i + 1]? = some b → ltP a b
  few : n ≤ 16
theorem all_true {β : Type} : ∀ l : List β, (l.map fun _ => true).all id = true
  | [] => rfl
  | _ :: l => by rw [List.map_cons, List.all_cons, all_true l] <;> rfl
theorem bl_list {β : Type} {f : β → Bool} : ∀ {zs : List V} {bs : List Bool}, Paired (fun y b => y = V.bl b) zs bs → zs = bs.map V.bl
  | _, _, .nil => rfl
  | _, _, .cons h t => by rw [h, bl_list (f := f) t] <;> rfl
def spAreRoads : Sp := fun vs H Q _ => ∃ (a : Addr) (xs : List V) (R : List Ky) (n : Nat), vs = [.ref a, nV n] ∧ H a = some (.lst xs) ∧ Paired (KyAt H) xs R ∧ RoadsOk n R ∧ ∀ H', Same H H' → Q (.bl true) H'
theorem h_are_roads (T : Top K mg) : Has P w K mg base 4 (He.ga K "are_roads") A_are_roads spAreRoads := by
  refine has_of T.f_are_roads sc_are_roads (fun _ _ _ _ _ _ us hl => match us, hl with | [_, _], _ => rfl) (fun vs H Q E h => ?_) (fun cdv A outer s H vs Q E hr h => ?_)
  · obtain ⟨a, xs, R, n, rfl, _⟩ := h
    rfl
  · obtain ⟨a, xs, R, n, rfl, ha, px, ok, q⟩ := h
    have hl : xs.length = R.length := Paired.length px
    have hlen := ok.len
    have hfew := ok.few
    have hr1 : Room 1 _ := hr.mono (by decide)
    refine ⟨_, pss_cons (ps_if (PW.pt (pw_or (pt_not (pt_val (pe_use (h_is_list T) hr1 T.g_is_list (pa_cons (pv 0) pa_nil)))) (pw_or (pt_cmpR op_ne (pe_blt call_len_seq T.z_len (pa_cons (pv 0) pa_nil)) (pe_op op_sub (pv 1) pe_int) (nomark _))
          (pw_or1 (pt_not (pt_val (pe_blt (cr_all rfl) T.z_all (pa_cons (pe_lc (own := [("road", 3)]) (g := gName 3) (tt := tYes) rfl sc_are_roads.nd (pi_list (pv 0)) (blkOk_by (N := N_are_roads) (sc := defScope s_are_roads) (by decide +kernel)) (fun _ _ _ _ _ => pg_name (i := 3) sc_are_roads.nd rfl (Or.inl rfl)) (fun _ _ _ _ _ => pts_nil)
            (fun _ _ _ _ _ => pe_use (h_is_road T) hr T.g_is_road (pa_cons (pv 3) (pa_cons (pv 1) pa_nil)))) pa_nil))))))))
        (pss_one (ps_ret pe_bl)) pss_nil)
      (pss_one (ps_ret (pe_blt (cr_all rfl) T.z_all (pa_cons (pe_lc (own := [("at", 2)]) (g := gName 2) (tt := tYes) rfl sc_are_roads.nd (pi_range1 (by rfl) T.z_range (pa_cons (pe_op op_sub (pe_blt call_len_seq T.z_len (pa_cons (pv 0) pa_nil)) pe_int) pa_nil)) (blkOk_by (N := N_are_roads) (sc := defScope s_are_roads) (by decide +kernel))
        (fun _ _ _ _ _ => pg_name (i := 2) sc_are_roads.nd rfl (Or.inl rfl)) (fun _ _ _ _ _ => pts_nil)
        (fun _ _ _ _ _ => pe_cmpR (r := rLtT K) (op_ltT hr.units0) (pe_ix (r := rIxL K) ix_list (pv 0) (pv 2) (fun _ _ => rfl)) (pe_ix (r := rIxL K) ix_list (pv 0) (pe_op op_add (pv 2) pe_int) (fun _ _ => rfl)) (nomark _))) pa_nil)))), ?_⟩
    refine ⟨_, rfl, a, xs, rfl, ha, fun H1 s1 => ⟨true, rfl, ?_⟩⟩
    have ha1 := s1 _ _ ha
    refine iteF ?_
    refine ⟨_, rfl, a, xs, rfl, .inl (SqL.of ha1), _, rfl, _, _, rfl, rfl, rfl, _, rfl, ?_⟩
    have e1 : (!decide (V.int (xs.length : Int) = V.int ((n : Int) - 1))) = false := by
      rw [decide_eq_true (show V.int (xs.length : Int) = V.int ((n : Int) - 1) by rw [show (xs.length : Int) = (n : Int) - 1 by omega])] <;> rfl
    rw [e1]
    refine iteF ?_
    refine ⟨_, rfl, a, rfl, ⟨xs, SqL.of ha1⟩, fun D hD => ?_⟩
    refine lcEach (R := KyAt H1) (R2 := fun _ y b => y = V.bl b) (n := xs.length) walk_list rfl (kysMono s1.tups px) (fun _ => true) (fun H' s => s.seq (SqL.of ha1)) hD (by omega) (fun _ => rfl) (fun _ _ _ _ _ e => e) ?_ ?_
    · rintro x r H2 Q' hx hm s2 _ k
      obtain ⟨b, rfl, hb⟩ := hx
      obtain ⟨h1, h2⟩ := ok.lt r hm
      exact ⟨_, rfl, _, rfl, b, r.1, r.2, n, rfl, s2 _ _ hb, h1, h2, k _ H2 (L2.Same.refl _) rfl⟩
    · intro H2 zs s2 hz pz
      rw [bl_list (f := fun _ : Ky => true) pz] at hz
      refine ⟨D, _, rfl, SqL.of hz, true, ?_, ?_⟩
      · rw [all_true]
      refine iteF ?_
      have s12 := L2.Same.trans s1 s2
      have ha2 := s12 _ _ ha
      refine ⟨_, rfl, a, xs, rfl, .inl (SqL.of ha2), _, _, rfl, rfl, _, rfl, by omega, by omega, fun D2 hD2 => ?_⟩
      have en : ((xs.length : Int) - 1).toNat = xs.length - 1 := by omega
      rw [en]
      refine lcEach (R := fun x k => x = nV k) (R2 := fun _ y b => y = V.bl b) (n := xs.length - 1) (walk_nats _) (by simp) (Paired.of_map (F := fun x k => x = nV k) (f := nV) (fun _ => rfl) _) (fun _ => true) (fun _ _ => trivial) hD2 (by omega) (fun _ => rfl) (fun _ _ _ _ _ e => e) ?_ ?_
      · rintro x k H3 Q' rfl hm s3 _ kk
        have hk := List.mem_range.mp hm
        obtain ⟨r1, e1⟩ : ∃ r, R[k]? = some r := ⟨R[k]'(by omega), List.getElem?_eq_getElem (by omega)⟩
        obtain ⟨r2, e2⟩ : ∃ r, R[k + 1]? = some r := ⟨R[k + 1]'(by omega), List.getElem?_eq_getElem (by omega)⟩
        obtain ⟨x1, ex1, a1, rfl, h1⟩ := Paired.at' px e1
        obtain ⟨x2, ex2, a2, rfl, h2⟩ := Paired.at' px e2
        have s23 := L2.Same.trans s12 s3
        refine ⟨_, rfl, _, rfl, a, xs, _, _, rfl, rfl, SqL.of (s23 _ _ ha), atI_nat ex1, _, rfl, _, rfl, _, _, rfl, rfl, a, xs, _, _, rfl, rfl, SqL.of (s23 _ _ ha), at_of (j := k + 1) (by omega) ex2, ?_⟩
        refine ⟨a1, a2, [(r1.1 : Int), (r1.2 : Int)], [(r2.1 : Int), (r2.2 : Int)], rfl, rfl, SqT.of (s23 _ _ h1), SqT.of (s23 _ _ h2), kk _ H3 (L2.Same.refl _) ?_⟩
        rw [lex_of (ok.asc k r1 r2 e1 e2)]
      · intro H3 zs3 s3 hz3 pz3
        rw [bl_list (f := fun _ : Nat => true) pz3] at hz3
        refine ⟨D2, _, rfl, SqL.of hz3, ?_⟩
        rw [all_true]
        exact q H3 (L2.Same.trans s12 s3)
end
end K9
end

section
set_option Elab.async false
set_option linter.all false
set_option maxRecDepth 100000
set_option maxHeartbeats 1000000
namespace K9
open PySem PySem.Spec PyProof.Rows L2
/-! lists of lists; joined_by -/
/-- a list of n lists, the i-th of f i -/
structure Rows (H : Hp) (a : Addr) (as : List Addr) (n : Nat) (f : Nat → List V) : Prop where
  top : H a = some (.lst (as.map V.ref))
  len : as.length = n
  nd : as.Nodup
  ne : a ∉ as
  at_ : ∀ (i : Nat) b, as[i]? = some b → H b = some (.lst (f i))
theorem Rows.get {H : Hp} {a : Addr} {as : List Addr} {n : Nat} {f : Nat → List V} (r : Rows H a as n f) {i : Nat} (hi : i < n) : ∃ b, as[i]? = some b ∧ (as.map V.ref)[i]? = some (.ref b) ∧ H b = some (.lst (f i)) := by
  have h : i < as.length := by rw [r.len]; exact hi
  have e : as[i]? = some as[i] := List.getElem?_eq_getElem h
  exact ⟨as[i], e, by rw [List.getElem?_map, e] <;> rfl, r.at_ i _ e⟩
theorem Rows.congr {H : Hp} {a : Addr} {as : List Addr} {n : Nat} {f g : Nat → List V} (r : Rows H a as n f) (h : ∀ i, i < n → f i = g i) : Rows H a as n g :=
  ⟨r.top, r.len, r.nd, r.ne, fun i b e => by
    have hi := (List.getElem?_eq_some_iff.mp e).1
    rw [← h i (by rw [← r.len]; exact hi)]
    exact r.at_ i b e⟩
theorem Rows.keep {H H' : Hp} {a : Addr} {as : List Addr} {n : Nat} {f : Nat → List V} (r : Rows H a as n f) (h : ∀ b o, (b = a ∨ b ∈ as) → H b = some o → H' b = some o) : Rows H' a as n f :=
  ⟨h _ _ (.inl rfl) r.top, r.len, r.nd, r.ne, fun i b e => h _ _ (.inr (List.mem_of_getElem? e)) (r.at_ i b e)⟩
theorem Rows.same {H H' : Hp} {a : Addr} {as : List Addr} {n : Nat} {f : Nat → List V} (r : Rows H a as n f) (h : Same H H') : Rows H' a as n f := r.keep fun b o _ e => h b o e
/-- the i-th list is changed -/
theorem Rows.put {H : Hp} {a : Addr} {as : List Addr} {n : Nat} {f : Nat → List V} (r : Rows H a as n f) {i : Nat} {b : Addr} (e : as[i]? = some b) (l : List V) : Rows (upd H b (.lst l)) a as n (fun j => if j = i then l else f j) := by
  have hb : b ∈ as := List.mem_of_getElem? e
  have hab : a ≠ b := fun z => r.ne (by rw [z]; exact hb)
  refine ⟨by rw [upd_ne hab]; exact r.top, r.len, r.nd, r.ne, fun j c ec => ?_⟩
  by_cases hj : j = i
  · subst hj
    rw [e] at ec
    cases ec
    rw [upd_same, if_pos rfl]
  · have hcb : c ≠ b := fun z => by
      rw [z] at ec
      exact hj (nd_ix r.nd ec e)
    rw [upd_ne hcb, if_neg hj]
    exact r.at_ j c ec
section
variable {H1 : Hp} {D : Addr} {Qd : Hp → Prop} {vs : List Nat} {σ : L2.St} {i : Nat}
/-- [[] for _ in range(n)] -/
theorem rows_new {n : Nat} (hD : H1 D = none) (hn : n ≤ 1000) (hw : ∀ v, wipe ((wipe σ vs).set i (some v)) vs = wipe σ vs) (hd : ∀ H as, Same H1 H → Rows H D as n (fun _ => []) → (∀ b ∈ as, H1 b = none) → Qd H) :
    ∃ Wv : Nat → Nat → Hp → Prop, (∃ m, Wv 0 m (upd H1 D (.lst []))) ∧ ∀ k m H, Wv k m H →
      ((Itr 0 n).stop k H ∧ Qd H) ∨ ((Itr 0 n).go k H ∧ ∃ Nx : Hp → Prop, (∀ H', Nx H' → ∃ m', m' < m ∧ Wv (k + 1) m' H') ∧ ∀ x H', (Itr 0 n).yld k H x H' → gName i x (wipe σ vs) H' fun σ2 H2 => wipe σ2 vs = wipe σ vs ∧ tYes σ2 H2 fun b H3 =>
        if b = true then tLst tNil σ2 H3 fun y H4 => ∃ acc, H4 D = some (.lst acc) ∧ acc.length < sizeLine ∧ Nx (upd H4 D (.lst (acc ++ [y]))) else Nx H3) := by
  refine lc_it (walk_nats n) (fun k H => Same H1 H ∧ ∃ as, Rows H D as k (fun _ => []) ∧ ∀ b ∈ as, H1 b = none) ⟨L2.Same.new hD, [], ⟨upd_same, rfl, List.nodup_nil, List.not_mem_nil, fun i b e => by simp at e⟩, fun b hb => (List.not_mem_nil hb).elim⟩ (fun _ _ _ _ => trivial) ?_ ?_
  · rintro k x H H' hk ⟨s1, as, r, fr⟩ ⟨rfl, ex⟩
    refine ⟨hw x, ?_⟩
    unfold tYes
    dsimp only
    rw [if_pos rfl]
    refine ⟨Nat.zero_le _, fun p hp => ?_⟩
    have hDp : D ≠ p := ne_of_none r.top hp
    have pas : p ∉ as := fun hm => by
      obtain ⟨j, hj, e⟩ := List.getElem_of_mem hm
      have := r.at_ j p (by rw [List.getElem?_eq_getElem hj, e])
      rw [hp] at this
      cases this
    have e1 : as.map V.ref ++ [V.ref p] = (as ++ [p]).map V.ref := by rw [List.map_append] <;> rfl
    refine ⟨as.map V.ref, by rw [upd_ne hDp]; exact r.top, ?_, (s1.newr hp).wr hD, as ++ [p], ⟨by rw [upd_same, e1], by rw [List.length_append, r.len] <;> rfl, ?_, ?_, fun j b e => ?_⟩, fun b hb => ?_⟩
    · rw [List.length_map, r.len]
      exact Nat.lt_of_le_of_lt (by omega : k ≤ 1000) (by decide)
    · refine List.nodup_append.mpr ⟨r.nd, List.nodup_cons.mpr ⟨List.not_mem_nil, List.nodup_nil⟩, fun y hy z hz q => ?_⟩
      rw [List.mem_singleton.mp hz] at q
      rw [q] at hy
      exact pas hy
    · rw [List.mem_append, List.mem_singleton]
      exact fun z => z.elim r.ne hDp
    · have hbD : b ≠ D := fun z => by
        have hm := List.mem_of_getElem? e
        rw [z, List.mem_append, List.mem_singleton] at hm
        exact hm.elim r.ne hDp
      rw [upd_ne hbD]
      by_cases hj : j < as.length
      · rw [List.getElem?_append_left hj] at e
        have hbp : b ≠ p := fun z => pas (by rw [← z]; exact List.mem_of_getElem? e)
        rw [upd_ne hbp]
        exact r.at_ j b e
      · rw [List.getElem?_append_right (by omega)] at e
        have e2 : b = p := by
          cases hx : j - as.length with
          | zero => rw [hx] at e; simpa using e.symm
          | succ m => rw [hx] at e; simp at e
        rw [e2, upd_same]
    · rcases List.mem_append.mp hb with z | z
      · exact fr b z
      · rw [List.mem_singleton.mp z]
        exact s1.free hp
  · rintro H ⟨s1, as, r, fr⟩
    exact hd H as s1 r fr
end
theorem nsV_eq (l : List Nat) : nsV l = (l.map fun n : Nat => (n : Int)).map V.int := by
  rw [List.map_map] <;> rfl
theorem perm_nat {ns : List Int} {l : List Nat} (h : ns.Perm (l.map fun n : Nat => (n : Int))) : ∃ l' : List Nat, ns = l'.map (fun n : Nat => (n : Int)) ∧ l'.Perm l := by
  have e : l = (l.map fun n : Nat => (n : Int)).map Int.toNat := by
    rw [List.map_map]
    have : (Int.toNat ∘ fun n : Nat => (n : Int)) = id := by funext n; simp
    rw [this, List.map_id]
  refine ⟨ns.map Int.toNat, ?_, ?_⟩
  · rw [List.map_map]
    have hx : ∀ x ∈ ns, ((fun n : Nat => (n : Int)) ∘ Int.toNat) x = x := fun x hx => by
      obtain ⟨m, _, rfl⟩ := List.mem_map.mp (h.mem_iff.mp hx)
      simp
    rw [List.map_congr_left hx]
    simp
  · have := h.map Int.toNat
    rw [← e] at this
    exact this
theorem choose_fn {α : Type} [Inhabited α] {n : Nat} {C : Nat → α → Prop} (h : ∀ u, u < n → ∃ l, C u l) : ∃ f : Nat → α, ∀ u, u < n → C u (f u) := by
  classical
  refine ⟨fun u => if hu : u < n then Classical.choose (h u hu) else default, fun u hu => ?_⟩
  dsimp only
  rw [dif_pos hu]
  exact Classical.choose_spec (h u hu)
/-- a tuple of n tuples of numbers -/
def TupsAt (H : Hp) (p : Addr) (n : Nat) (near : Nat → List Nat) : Prop := ∃ zs, H p = some (.tup zs) ∧ zs.length = n ∧ ∀ u, u < n → ∃ b, zs[u]? = some (.ref b) ∧ H b = some (.tup (nsV (near u)))
theorem TupsAt.mono {H H' : Hp} (s : Tups H H') {p : Addr} {n : Nat} {near : Nat → List Nat} (h : TupsAt H p n near) : TupsAt H' p n near := by
  obtain ⟨zs, h1, h2, h3⟩ := h
  exact ⟨zs, s _ _ h1, h2, fun u hu => let ⟨b, e1, e2⟩ := h3 u hu; ⟨b, e1, s _ _ e2⟩⟩
theorem met_take {R : List Ky} {i : Nat} {r : Ky} (e : R[i]? = some r) (j : Nat) : met j (R.take (i + 1)) = met j (R.take i) ++ met1 j r := by
  unfold met
  rw [List.take_add_one, e, List.flatMap_append]
  simp
theorem met_len (j : Nat) : ∀ R : List Ky, (met j R).length ≤ 2 * R.length
  | [] => Nat.le_refl _
  | r :: R => by
    have h1 := met_len j R
    have e : met j (r :: R) = met1 j r ++ met j R := by simp [met]
    have h2 : (met1 j r).length ≤ 2 := by
      unfold met1
      rw [List.length_append]
      have a : (if r.1 = j then [r.2] else []).length ≤ 1 := by split <;> simp
      have b : (if r.2 = j then [r.1] else []).length ≤ 1 := by split <;> simp
      omega
    rw [e, List.length_append, List.length_cons]
    omega
section
variable {P : Program} {w : World} {K : PySem.W.Frag} {mg : Str → Option Value} {base : Heap}
def spJoined : Sp := fun vs H Q _ => ∃ (a : Addr) (xs : List V) (R : List Ky) (n : Nat), vs = [nV n, .ref a] ∧ H a = some (.lst xs) ∧ Paired (KyAt H) xs R ∧ (∀ r ∈ R, r.1 < r.2 ∧ r.2 < n) ∧ n ≤ 16 ∧ R.length ≤ 20 ∧
  ∀ p near H', Same H H' → TupsAt H' p n near → (∀ u, u < n → (near u).Perm (met u R)) → Q (.ref p) H'
theorem h_joined_by (T : Top K mg) : Has P w K mg base 1 (He.ga K "joined_by") A_joined_by spJoined := by
  refine has_of T.f_joined_by sc_joined_by (fun _ _ _ _ _ _ us hl => match us, hl with | [_, _], _ => rfl) (fun vs H Q E h => ?_) (fun cdv A outer s H vs Q E hr h => ?_)
  · obtain ⟨a, xs, R, n, rfl, _⟩ := h
    rfl
  · obtain ⟨a, xs, R, n, rfl, ha, px, hlt, hn, hR, q⟩ := h
    have hl : xs.length = R.length := Paired.length px
    refine ⟨_, pss_cons (ps_setLc (i := 2) (own := [("_", 5)]) (g := gName 5) (tt := tYes) rfl sc_joined_by.nd rfl rfl (sw_true rfl rfl rfl (by decide +kernel)) (pi_range1 (by rfl) T.z_range (pa_cons (pv 0) pa_nil)) (blkOk_by (N := N_joined_by) (sc := defScope s_joined_by) (by decide +kernel))
        (fun _ _ _ _ _ => pg_name (i := 5) sc_joined_by.nd rfl (Or.inl rfl)) (fun _ _ _ _ _ => pts_nil) (fun _ _ _ _ _ => pe_lst pa_nil))
      (pss_cons (ps_for PassesOwn.never rfl (pi_list (pv 1)) (pg_tup rfl (pgs_cons (pg_name (i := 3) sc_joined_by.nd rfl (Or.inl rfl)) (pgs_cons (pg_name (i := 4) sc_joined_by.nd rfl (Or.inl rfl)) pgs_nil)))
        (pss_cons (ps_expr (pe_bm PySem.F.plainAttrs_list PySem.F.slot_list_append PySem.F.type_list_append mt_append (pe_ix ix_list (pv 2) (pv 3) (fun _ _ => rfl)) (pa_cons (pv 4) pa_nil)))
        (pss_one (ps_expr (pe_bm PySem.F.plainAttrs_list PySem.F.slot_list_append PySem.F.type_list_append mt_append (pe_ix ix_list (pv 2) (pv 4) (fun _ _ => rfl)) (pa_cons (pv 3) pa_nil))))))
      (pss_one (ps_ret (pe_blty call_tuple_of T.z_tuple (pa_cons (pe_lc (own := [("others", 6)]) (g := gName 6) (tt := tYes) rfl sc_joined_by.nd (pi_list (pv 2)) (blkOk_by (N := N_joined_by) (sc := defScope s_joined_by) (by decide +kernel)) (fun _ _ _ _ _ => pg_name (i := 6) sc_joined_by.nd rfl (Or.inl rfl)) (fun _ _ _ _ _ => pts_nil)
        (fun _ _ _ _ _ => pe_blty (r := fun xs H Q => ∃ p ys, xs = [.ref p] ∧ ((SqL K H p ys ∧ ∀ l, H l = none → Q (.ref l) (upd H l (.tup ys))) ∨ (SqT K H p ys ∧ Q (.ref p) H))) call_tuple_of T.z_tuple (pa_cons (pe_blt (r := rSortedI K) cr_sortedI T.z_sorted (pa_cons (pv 6) pa_nil)) pa_nil))) pa_nil))))), ?_⟩
    refine ⟨_, rfl, (n : Int), rfl, by omega, by omega, fun D hD => ?_⟩
    have en : ((n : Int)).toNat = n := by omega
    rw [en]
    refine rows_new hD (by omega) (fun _ => rfl) fun H1 as s1 r1 fr => ?_
    refine ⟨_, rfl, a, rfl, ⟨xs, SqL.of (s1 _ _ ha)⟩, for_list (K := K) (a := a) (xs := xs) (fun i σ H' => ∃ v3 v4, σ = [some (nV n), some (.ref a), some (.ref D), v3, v4, none, none] ∧ Same H H' ∧ Rows H' D as n (fun u => nsV (met u (R.take i))))
      ⟨none, none, rfl, s1, r1⟩ (fun i σ H' _ ⟨_, _, _, s, _⟩ => s.seq (SqL.of ha)) ?_ ?_⟩
    · rintro i x σ H' hx ⟨v3, v4, rfl, s2, r2⟩
      obtain ⟨⟨u, v⟩, er, t, rfl, ht⟩ := Paired.at_ px hx
      obtain ⟨h1, h2⟩ := hlt _ (List.mem_of_getElem? er)
      have h1 : u < v := h1
      have h2 : v < n := h2
      have hu : u < n := by omega
      obtain ⟨b, eb, eb2, hb⟩ := r2.get hu
      refine ⟨t, _, rfl, SqT.of (s2 _ _ ht), rfl, _, _, rfl, _, _, rfl, rfl, ?_⟩
      refine ⟨_, rfl, _, rfl, D, _, _, _, rfl, rfl, SqL.of r2.top, atI_nat eb2, .inl ⟨rfl, _, SqL.of hb⟩, _, rfl, b, _, _, rfl, rfl, hb, ?_, ?_⟩
      · rw [List.length_map]
        have := met_len u (R.take i)
        rw [List.length_take] at this
        exact Nat.lt_of_le_of_lt (by omega : _ ≤ 1000) (by decide)
      have r3 := r2.put eb (nsV (met u (R.take i)) ++ [nV v])
      have hne : v ≠ u := by omega
      obtain ⟨c, ec, ec2, hc⟩ := r3.get h2
      refine ⟨_, rfl, _, rfl, D, _, _, _, rfl, rfl, SqL.of r3.top, atI_nat ec2, .inl ⟨rfl, _, SqL.of hc⟩, _, rfl, c, _, _, rfl, rfl, hc, ?_, ?_⟩
      · rw [if_neg hne, List.length_map]
        have := met_len v (R.take i)
        rw [List.length_take] at this
        exact Nat.lt_of_le_of_lt (by omega : _ ≤ 1000) (by decide)
      have r4 := r3.put ec ((if v = u then nsV (met u (R.take i)) ++ [nV v] else nsV (met v (R.take i))) ++ [nV u])
      refine ⟨_, _, rfl, ?_, r4.congr fun j hj => ?_⟩
      · exact (s2.wr (fr b (List.mem_of_getElem? eb))).wr (fr c (List.mem_of_getElem? ec))
      · rw [met_take er j]
        unfold met1
        dsimp only
        by_cases e1 : j = v
        · subst e1
          rw [if_pos rfl, if_neg hne, if_neg (show ¬ u = j by omega), if_pos rfl]
          simp [nsV]
        · rw [if_neg e1, if_neg (show ¬ v = j by omega)]
          by_cases e2 : j = u
          · subst e2
            rw [if_pos rfl, if_pos rfl]
            simp [nsV]
          · rw [if_neg e2, if_neg (show ¬ u = j by omega)]
            simp
    · rintro σ H' ⟨v3, v4, rfl, s2, r2⟩
      have e0 : R.take xs.length = R := List.take_of_length_le (by omega)
      rw [e0] at r2
      refine ⟨_, rfl, D, rfl, ⟨_, SqL.of r2.top⟩, fun E2 hE2 => ?_⟩
      refine lcEach (R := fun x u => ∃ b, as[u]? = some b ∧ x = V.ref b) (ls := List.range n) (R2 := fun H y u => ∃ b l, y = V.ref b ∧ b ≠ E2 ∧ H b = some (.tup (nsV l)) ∧ l.Perm (met u R)) (n := (as.map V.ref).length) walk_list rfl ?_ id (fun H3 s3 => s3.seq (SqL.of r2.top)) hE2 (by rw [List.length_map, r2.len]; omega) (fun _ => rfl) ?_ ?_ ?_
      · have e1 : as.map V.ref = (List.range n).map fun u => V.ref (as.getD u 0) := by
          apply List.ext_getElem?
          intro j
          rw [List.getElem?_map, List.getElem?_map]
          by_cases hj : j < n
          · rw [List.getElem?_range hj, List.getElem?_eq_getElem (by rw [r2.len]; exact hj)]
            simp [List.getD_eq_getElem?_getD, List.getElem?_eq_getElem (show j < as.length by rw [r2.len]; exact hj)]
          · rw [List.getElem?_eq_none (by rw [r2.len]; omega), List.getElem?_eq_none (by rw [List.length_range]; omega)] <;> rfl
        rw [e1]
        have key : ∀ l : List Nat, (∀ u ∈ l, u < n) → Paired (fun x u => ∃ b, as[u]? = some b ∧ x = V.ref b) (l.map fun u => V.ref (as.getD u 0)) l := by
          intro l
          induction l with
          | nil => intro _; exact .nil
          | cons u l ih =>
            intro hl
            refine .cons ?_ (ih fun z hz => hl z (List.mem_cons_of_mem _ hz))
            have hu := hl u List.mem_cons_self
            obtain ⟨b, eb, _⟩ := r2.get hu
            exact ⟨b, eb, by show V.ref (as.getD u 0) = V.ref b; rw [List.getD_eq_getElem?_getD, eb] <;> rfl⟩
        exact key _ fun u hu => List.mem_range.mp hu
      · rintro G G' y u k ⟨b, l, e, hbE, hb, pl⟩
        exact ⟨b, l, e, hbE, k b _ hbE hb, pl⟩
      · rintro x u H3 Q' ⟨b, eb, rfl⟩ hm s3 ⟨zs, hzs⟩ k
        have hu := List.mem_range.mp hm
        have hb3 := s3 _ _ (r2.at_ u b eb)
        refine ⟨_, rfl, b, (met u R).map fun n : Nat => (n : Int), rfl, ?_, fun ns' p pm _ hp => ?_⟩
        · rw [← nsV_eq]
          exact SqL.of hb3
        obtain ⟨l', rfl, pl⟩ := perm_nat pm
        refine ⟨p, nsV l', rfl, .inl ⟨?_, fun p2 hp2 => ?_⟩⟩
        · rw [nsV_eq]
          exact SqL.of upd_same
        · exact k _ _ ((L2.Same.new hp).newr hp2) ⟨p2, l', rfl, fun z => ne_of_none (L2.Same.new hp _ _ hzs) hp2 z.symm, upd_same, pl⟩
      · intro H3 zs s3 hz pz
        rw [List.map_id] at pz
        have hc : ∀ u, u < n → ∃ l, (∃ b, zs[u]? = some (V.ref b) ∧ b ≠ E2 ∧ H3 b = some (.tup (nsV l))) ∧ l.Perm (met u R) := fun u hu => by
          obtain ⟨y, ey, b, l, rfl, h1, h2, h3⟩ := Paired.at' pz (List.getElem?_range hu)
          exact ⟨l, ⟨b, ey, h1, h2⟩, h3⟩
        obtain ⟨near, hnear⟩ := choose_fn hc
        refine ⟨E2, zs, rfl, .inl ⟨SqL.of hz, fun p hp => q p near _ ?_ ⟨zs, upd_same, ?_, fun u hu => ?_⟩ fun u hu => (hnear u hu).2⟩⟩
        · exact (s2.trans s3).newr hp
        · have := Paired.length pz
          rw [List.length_range] at this
          exact this
        · obtain ⟨⟨b, e1, _, e2⟩, _⟩ := hnear u hu
          exact ⟨b, e1, by rw [upd_ne (ne_of_none e2 hp)]; exact e2⟩
end
end K9
end

section
set_option Elab.async false
set_option linter.all false
set_option maxRecDepth 100000
set_option maxHeartbeats 1000000
namespace K9
open PySem PySem.Spec PyProof.Rows L2
/-! ways_from -/
/-- a tuple of numbers -/
def TpAt (H : Hp) (v : V) (l : List Nat) : Prop := ∃ a, v = .ref a ∧ H a = some (.tup (nsV l))
theorem TpAt.mono {H H' : Hp} (s : Tups H H') {v : V} {l : List Nat} (h : TpAt H v l) : TpAt H' v l := let ⟨a, e, h⟩ := h; ⟨a, e, s _ _ h⟩
abbrev natsD (l : List Nat) : List PyData := l.map fun n : Nat => PyData.int (n : Int)
theorem tpD_shaped (l : List Nat) : SeqAt.shaped (.tuple (natsD l)) = true :=
  shaped_of (by simp only [PyData.canLay0]; exact all_lay l (fun _ _ => by simp [PyData.canLay0])) (by
    have h : PyData.depthAll (natsD l) ≤ 0 := all_depth (D := fun n : Nat => PyData.int (n : Int)) (n := 0) (fun _ => by simp [PyData.depth]) l
    simp only [PyData.depth]
    omega)
theorem TpAt.dp {K : PySem.W.Frag} {H : Hp} {v : V} {l : List Nat} (h : TpAt H v l) : Dp K H v (.tuple (natsD l)) := by
  obtain ⟨a, rfl, h⟩ := h
  exact .tup (SqT.of h) (nsV_dp l)
theorem tpD_nil (l : List Nat) : PyData.eqv (.tuple (natsD l)) (.tuple []) = decide (l = []) := by
  cases l <;> simp [PyData.eqv, PyData.eqvAll]
theorem lsD_ne_nil (l : List Nat) : (!PyData.eqv (.list (natsD l)) (.list [])) = decide (l ≠ []) := by
  cases l <;> simp [PyData.eqv, PyData.eqvAll]
theorem ixN_nat {n j : Nat} (h : j < n) : ixN n (j : Int) = some j := by
  unfold ixN
  simp
  omega
theorem pairs_set {F : V → List Nat → Prop} {v : V} {l : List Nat} (h : F v l) : ∀ {xs : List V} {ls : List (List Nat)} (i : Nat), Paired F xs ls → Paired F (xs.set i v) (ls.set i l)
  | _, _, _, .nil => .nil
  | _, _, 0, .cons _ t => .cons h t
  | _, _, i + 1, .cons h1 t => .cons h1 (pairs_set h i t)
section
variable {P : Program} {w : World} {K : PySem.W.Frag} {mg : Str → Option Value} {base : Heap}
def spWaysFrom : Sp := fun vs H Q _ => ∃ (p : Addr) (n h : Nat) (near : Nat → List Nat), vs = [.ref p, nV h] ∧ TupsAt H p n near ∧ n ≤ 16 ∧ h < n ∧ (∀ u, u < n → ∀ x ∈ near u, x < n) ∧
  ∀ r zs fo H', Same H H' → H' r = some (.tup zs) → Paired (TpAt H') zs fo → fo.length = n → (∃ a, Wf n near h fo [] a []) → Q (.ref r) H'
theorem h_ways_from (T : Top K mg) : Has P w K mg base 1 (He.ga K "ways_from") A_ways_from spWaysFrom := by
  refine has_of T.f_ways_from sc_ways_from (fun _ _ _ _ _ _ us hl => match us, hl with | [_, _], _ => rfl) (fun vs H Q E h => ?_) (fun cdv A outer s H vs Q E hr h => ?_)
  · obtain ⟨p, n, h, near, rfl, _⟩ := h
    rfl
  · obtain ⟨p, n, h, near, rfl, ha, hn, hh, hnear, q⟩ := h
    obtain ⟨zs, hz, lz, az⟩ := ha
    refine ⟨_, pss_cons (ps_setLc (i := 2) (own := [("_", 6)]) (g := gName 6) (tt := tYes) rfl sc_ways_from.nd rfl rfl (sw_true rfl rfl rfl (by decide +kernel)) (pi_tup (pv 0)) (blkOk_by (N := N_ways_from) (sc := defScope s_ways_from) (by decide +kernel))
        (fun _ _ _ _ _ => pg_name (i := 6) sc_ways_from.nd rfl (Or.inl rfl)) (fun _ _ _ _ _ => pts_nil) (fun _ _ _ _ _ => pe_tup pa_nil))
      (pss_cons (ps_asg (pe_tup (pa_cons (pv 1) pa_nil)) (pg_sub (pv 2) (pv 1) set_list))
      (pss_cons (ps_set (i := 3) sc_ways_from.nd rfl (Or.inl rfl) (pe_lst (pa_cons (pv 1) pa_nil)))
      (pss_cons (ps_while PassesOwn.never (pt_cmpR (op_neD hr.units) (pv 3) (pe_lst pa_nil) (nomark _))
        (pss_cons (ps_set (i := 4) sc_ways_from.nd rfl (Or.inl rfl) (pe_bm0 PySem.F.plainAttrs_list PySem.F.slot_list_pop PySem.F.type_list_pop mt_pop (pv 3)))
        (pss_one (ps_for PassesOwn.never rfl (pi_tup (pe_ix ix_tup (pv 0) (pv 4) (fun _ _ => rfl))) (pg_name (i := 5) sc_ways_from.nd rfl (Or.inl rfl))
          (pss_one (ps_if (pt_cmpR (op_eqD hr.units) (pe_ix ix_list (pv 2) (pv 5) (fun _ _ => rfl)) (pe_tup pa_nil) (nomark _))
            (pss_cons (ps_asg (pe_tup (StX.pa_star (pe_ix ix_list (pv 2) (pv 4) (fun _ _ => rfl)) (pa_cons (pv 5) pa_nil))) (pg_sub (pv 2) (pv 5) set_list))
            (pss_one (ps_expr (pe_bm PySem.F.plainAttrs_list PySem.F.slot_list_append PySem.F.type_list_append mt_append (pv 3) (pa_cons (pv 5) pa_nil))))) pss_nil))))))
      (pss_one (ps_ret (pe_blty call_tuple_of T.z_tuple (pa_cons (pv 2) pa_nil))))))), ?_⟩
    refine ⟨_, rfl, p, rfl, ⟨zs, SqT.of hz⟩, fun D hD => ?_⟩
    refine lcEach (R := fun _ _ => True) (ls := List.replicate n ()) (R2 := fun H y l => ∃ b, y = V.ref b ∧ b ≠ D ∧ H b = some (.tup (nsV l))) (n := zs.length) walk_tup rfl ?_ (fun _ => ([] : List Nat)) (fun H3 s3 => SqT.of (s3 _ _ hz)) hD (by omega) (fun _ => rfl) ?_ ?_ ?_
    · have : ∀ (m : Nat) (xs : List V), xs.length = m → Paired (fun (_ : V) (_ : Unit) => True) xs (List.replicate m ()) := by
        intro m
        induction m with
        | zero => intro xs hx; cases xs with | nil => exact .nil | cons => simp at hx
        | succ m ih => intro xs hx; cases xs with | nil => simp at hx | cons x xs => exact .cons trivial (ih xs (by simpa using hx))
      exact this n zs lz
    · rintro G G' y l k ⟨b, e, hb, e2⟩
      exact ⟨b, e, hb, k b _ hb e2⟩
    · rintro x l H2 Q' _ _ s2 ⟨ws, hw⟩ k
      refine ⟨Nat.zero_le _, fun p2 hp2 => k _ _ (L2.Same.new hp2) ⟨p2, rfl, fun z => ne_of_none hw hp2 z.symm, upd_same⟩⟩
    · intro H2 ws s2 hw pw
      have lw := Paired.length pw
      rw [List.length_map, List.length_replicate] at lw
      have ew : ((List.replicate n ()).map fun _ => ([] : List Nat)) = List.replicate n [] := by rw [List.map_replicate]
      rw [ew] at pw
      refine ⟨_, rfl, (by decide : 1 ≤ sizeLine), fun p3 hp3 => ?_⟩
      have hDp : D ≠ p3 := ne_of_none hw hp3
      refine ⟨_, rfl, _, rfl, D, ws, _, h, rfl, rfl, by rw [upd_ne hDp]; exact hw, ixN_nat (by rw [lw]; exact hh), ?_⟩
      have s3 : Same H (upd (upd H2 p3 (.tup [nV h])) D (.lst (ws.set h (.ref p3)))) := (s2.newr hp3).wr hD
      have pw1 : Paired (TpAt (upd (upd H2 p3 (.tup [nV h])) D (.lst (ws.set h (.ref p3))))) (ws.set h (.ref p3)) ((List.replicate n []).set h [h]) := by
        refine pairs_set ⟨p3, rfl, by rw [upd_ne (Ne.symm hDp), upd_same] <;> rfl⟩ h (Paired.mapP pw ?_)
        rintro x l ⟨b, rfl, hb, e⟩
        exact ⟨b, rfl, by rw [upd_ne hb, upd_ne (ne_of_none e hp3)]; exact e⟩
      have hD3 : upd (upd H2 p3 (.tup [nV h])) D (.lst (ws.set h (.ref p3))) D = some (.lst (ws.set h (.ref p3))) := upd_same
      generalize upd (upd H2 p3 (.tup [nV h])) D (.lst (ws.set h (.ref p3))) = H3 at s3 pw1 hD3
      refine ⟨_, rfl, (by decide : 1 ≤ sizeLine), fun F hF => ?_⟩
      have hDF : D ≠ F := ne_of_none hD3 hF
      have hHF : H F = none := s3.free hF
      refine ⟨fun m σ H' => ∃ fo fr a v4 v5 xs, σ = [some (.ref p), some (nV h), some (.ref D), some (.ref F), v4, v5, none] ∧ m = 2 * empt fo + fr.length ∧ fr.length + empt fo ≤ n ∧ Same H H' ∧ H' D = some (.lst xs) ∧ Paired (TpAt H') xs fo ∧ H' F = some (.lst (nsV fr)) ∧ (∀ x ∈ fr, x < n) ∧ Wf n near h fo fr a [],
        ⟨_, _, _, h, _, _, _, rfl, rfl, (Wf.start (near := near) hh).sz h [h] (List.getElem?_set_self (by rw [List.length_replicate]; exact hh)), s3.newr hF, by rw [upd_ne hDF]; exact hD3, Paired.mapP pw1 fun _ _ => TpAt.mono (Tups.new hF), upd_same, fun x hx => by rw [List.mem_singleton.mp hx]; exact hh, Wf.start hh⟩, ?_⟩
      rintro m σ H4 ⟨fo, fr, a, v4, v5, xs, rfl, rfl, hsm, s4, hD4, px, hF4, hfr, wf⟩
      refine ⟨_, rfl, by decide, fun p5 hp5 => ?_⟩
      refine ⟨.list (natsD fr), .list [], .lst (SqL.of (by rw [upd_ne (ne_of_none hF4 hp5)]; exact hF4)) (nsV_dp fr), .lst (SqL.of upd_same) .nil, intDs_shaped fr, nil_shaped, _, rfl, ?_⟩
      rw [lsD_ne_nil]
      have s5 := s4.newr (o := .lst []) hp5
      have hD5 : upd H4 p5 (.lst []) D = some (.lst xs) := by rw [upd_ne (ne_of_none hD4 hp5)]; exact hD4
      have hF5 : upd H4 p5 (.lst []) F = some (.lst (nsV fr)) := by rw [upd_ne (ne_of_none hF4 hp5)]; exact hF4
      have px5 := Paired.mapP px fun _ _ => TpAt.mono (Tups.new (o := .lst []) hp5)
      generalize upd H4 p5 (.lst []) = H5 at s5 hD5 hF5 px5
      by_cases hfe : fr = []
      · subst hfe
        have lx := Paired.length px5
        refine ⟨_, rfl, D, _, rfl, .inl ⟨SqL.of hD5, fun r hr => ?_⟩⟩
        exact q r xs fo _ (s5.newr hr) upd_same (Paired.mapP px5 fun _ _ => TpAt.mono (Tups.new hr)) wf.len ⟨a, wf⟩
      · rw [decide_eq_true hfe]
        obtain ⟨fr', b, rfl⟩ : ∃ fr' b, fr = fr' ++ [b] := ⟨_, _, (List.dropLast_concat_getLast hfe).symm⟩
        have e5 : nsV (fr' ++ [b]) = nsV fr' ++ [nV b] := by simp [nsV]
        rw [e5] at hF5
        have hb : b < n := hfr b (by simp)
        obtain ⟨nb, enb, hnb⟩ := az b hb
        refine ⟨_, fun σ' H' z => z, ?_⟩
        refine ⟨_, rfl, .inl ⟨rfl, _, SqL.of hF5⟩, F, _, nV b, rfl, rfl, hF5, by simp, ?_⟩
        rw [List.dropLast_concat]
        refine ⟨_, rfl, _, rfl, p, zs, _, _, rfl, rfl, SqT.of (s5.wr hHF _ _ hz), atI_nat enb, nb, rfl, ⟨_, SqT.of (s5.wr hHF _ _ hnb)⟩, ?_⟩
        have hm0 : (fr' ++ [b]).length = fr'.length + 1 := by simp
        refine for_tup (xs := nsV (near b)) (fun i σ H' => ∃ fo' fr v5 xs, σ = [some (.ref p), some (nV h), some (.ref D), some (.ref F), some (nV b), v5, none] ∧ 2 * empt fo' + fr.length < 2 * empt fo + (fr' ++ [b]).length ∧ fr.length + empt fo' ≤ n ∧ Same H H' ∧ H' D = some (.lst xs) ∧ Paired (TpAt H') xs fo' ∧ H' F = some (.lst (nsV fr)) ∧ (∀ x ∈ fr, x < n) ∧ Wf n near h fo' fr b ((near b).drop i))
          ⟨fo, fr', _, _, rfl, by omega, by omega, s5.wr hHF, by rw [upd_ne hDF]; exact hD5, Paired.mapP px5 fun _ _ => TpAt.mono (Tups.wr hF5 (by intro _ z; cases z)), upd_same, fun x hx => hfr x (by simp [hx]), by rw [List.drop_zero]; exact wf.pop⟩
          (fun i σ H' _ ⟨_, _, _, _, _, _, _, s, _⟩ => SqT.of (s _ _ hnb)) ?_ ?_
        · rintro i x σ H6 hx ⟨fo', fr, v5, xs6, rfl, hm, hsm6, s6, hD6, px6, hF6, hfr6, wf6⟩
          obtain ⟨o, eo, rfl⟩ : ∃ o, (near b)[i]? = some o ∧ x = nV o := by
            rw [List.getElem?_map] at hx
            cases e : (near b)[i]? with
            | none => rw [e] at hx; cases hx
            | some o => rw [e] at hx; exact ⟨o, rfl, (Option.some.inj hx).symm⟩
          have ho : o < n := hnear b hb o (List.mem_of_getElem? eo)
          have edr : (near b).drop i = o :: (near b).drop (i + 1) := by
            obtain ⟨hi, e⟩ := List.getElem?_eq_some_iff.mp eo
            rw [List.drop_eq_getElem_cons hi, e]
          rw [edr] at wf6
          obtain ⟨l, el⟩ : ∃ l, fo'[o]? = some l := ⟨fo'[o]'(by rw [wf6.len]; exact ho), List.getElem?_eq_getElem _⟩
          obtain ⟨la, ela⟩ : ∃ l, fo'[b]? = some l := ⟨fo'[b]'(by rw [wf6.len]; exact hb), List.getElem?_eq_getElem _⟩
          obtain ⟨vo, evo, po, rfl, hpo⟩ := Paired.at' px6 el
          refine ⟨_, rfl, _, rfl, D, xs6, _, _, rfl, rfl, SqL.of hD6, atI_nat evo, (by decide : 0 ≤ sizeLine), fun p7 hp7 => ?_⟩
          refine ⟨.tuple (natsD l), .tuple [], .tup (SqT.of (by rw [upd_ne (ne_of_none hpo hp7)]; exact hpo)) (nsV_dp l), .tup (SqT.of upd_same) .nil, tpD_shaped l, tpD_shaped [], _, rfl, ?_⟩
          rw [tpD_nil]
          have s7 := s6.newr (o := .tup []) hp7
          have hD7 : upd H6 p7 (.tup []) D = some (.lst xs6) := by rw [upd_ne (ne_of_none hD6 hp7)]; exact hD6
          have hF7 : upd H6 p7 (.tup []) F = some (.lst (nsV fr)) := by rw [upd_ne (ne_of_none hF6 hp7)]; exact hF6
          have px7 := Paired.mapP px6 fun _ _ => TpAt.mono (Tups.new (o := .tup []) hp7)
          generalize upd H6 p7 (.tup []) = H7 at s7 hD7 hF7 px7
          by_cases hl : l = []
          · subst hl
            obtain ⟨va, eva, pa, rfl, hpa⟩ := Paired.at' px7 ela
            have hsz := wf6.sz b la ela
            obtain ⟨wf8, hm8⟩ := wf6.add el ela
            have lx := Paired.length px7
            refine ⟨_, rfl, _, rfl, D, xs6, _, _, rfl, rfl, SqL.of hD7, atI_nat eva, pa, nsV la, rfl, .inl (SqT.of hpa), _, rfl, ?_, fun p8 hp8 => ?_⟩
            · rw [List.length_append, List.length_map]
              exact Nat.le_trans (by show _ ≤ 1000; have : [nV o].length = 1 := rfl; omega) (by decide : 1000 ≤ sizeLine)
            have en : nsV la ++ [nV o] = nsV (la ++ [o]) := by simp [nsV]
            rw [en]
            have hDp : D ≠ p8 := ne_of_none hD7 hp8
            have hFp : F ≠ p8 := ne_of_none hF7 hp8
            refine ⟨_, rfl, _, rfl, D, xs6, _, o, rfl, rfl, by rw [upd_ne hDp]; exact hD7, ixN_nat (by rw [lx, wf6.len]; exact ho), ?_⟩
            refine ⟨_, rfl, .inl ⟨rfl, _, SqL.of (by rw [upd_ne (Ne.symm hDF), upd_ne hFp]; exact hF7)⟩, _, rfl, F, _, _, rfl, rfl, by rw [upd_ne (Ne.symm hDF), upd_ne hFp]; exact hF7, ?_, ?_⟩
            · rw [List.length_map]
              exact Nat.lt_of_le_of_lt (by omega : fr.length ≤ 16) (by decide)
            have hD8 : upd H7 p8 (.tup (nsV (la ++ [o]))) D = some (.lst xs6) := by rw [upd_ne hDp]; exact hD7
            have en2 : nsV fr ++ [nV o] = nsV (fr ++ [o]) := by simp [nsV]
            rw [en2]
            refine ⟨_, _, _, _, rfl, ?_, ?_, ((s7.newr hp8).wr hD).wr hHF, by rw [upd_ne hDF, upd_same], ?_, upd_same, fun x hx => ?_, wf8⟩
            · have : (fr ++ [o]).length = fr.length + 1 := by simp
              omega
            · have : (fr ++ [o]).length = fr.length + 1 := by simp
              omega
            · refine pairs_set ⟨p8, rfl, by rw [upd_ne (Ne.symm hFp), upd_ne (Ne.symm hDp), upd_same]⟩ o (Paired.mapP px7 fun _ _ => TpAt.mono ?_)
              refine (Tups.new hp8).trans ((Tups.wr hD8 (by intro _ z; cases z)).trans (Tups.wr (u := .lst (nsV fr)) (by rw [upd_ne (Ne.symm hDF), upd_ne hFp]; exact hF7) (by intro _ z; cases z)))
            · rcases List.mem_append.mp hx with z | z
              · exact hfr6 x z
              · rw [List.mem_singleton.mp z]; exact ho
          · rw [decide_eq_false hl]
            exact ⟨_, _, _, _, rfl, hm, hsm6, s7, hD7, px7, hF7, hfr6, wf6.skip el hl⟩
        · rintro σ H6 ⟨fo', fr, v5, xs6, rfl, hm, hsm6, s6, hD6, px6, hF6, hfr6, wf6⟩
          rw [List.drop_of_length_le (by simp)] at wf6
          exact ⟨_, hm, _, _, _, _, _, _, rfl, rfl, hsm6, s6, hD6, px6, hF6, hfr6, wf6⟩
end
end K9
end

section
set_option Elab.async false
set_option linter.all false
set_option maxRecDepth 100000
set_option maxHeartbeats 1000000
namespace K9
open PySem PySem.Spec PyProof.Rows L2
/-! the class Tree -/
theorem u65 {k : Nat} {A : Around} (r : Room k A) : A.units + 65 < cLine := by have := r.un; omega
theorem u70 {k : Nat} {A : Around} (r : Room k A) : A.units + 70 < cLine := by have := r.un; omega
/-- an instance of Tree -/
def TreeAt (K : PySem.W.Frag) (H : Hp) (t : Addr) (n : Nat) (R : List Ky) (near : Nat → List Nat) : Prop :=
  ∃ dx r nr wy xs, H t = some (.ins (He.ga K "Tree") dx [("houses", nV n), ("roads", .ref r), ("near", .ref nr), ("ways", .ref wy)]) ∧ H r = some (.tup xs) ∧ Paired (KyAt H) xs R ∧ TupsAt H nr n near
theorem TreeAt.mono {K : PySem.W.Frag} {H H' : Hp} {t : Addr} {n : Nat} {R : List Ky} {near : Nat → List Nat} (s : Tups H H') (h : TreeAt K H t n R near) (k : H' t = H t) : TreeAt K H' t n R near := by
  obtain ⟨dx, r, nr, wy, xs, h1, h2, h3, h4⟩ := h
  exact ⟨dx, r, nr, wy, xs, by rw [k]; exact h1, s _ _ h2, kysMono s h3, h4.mono s⟩
theorem TreeAt.same {K : PySem.W.Frag} {H H' : Hp} {t : Addr} {n : Nat} {R : List Ky} {near : Nat → List Nat} (s : Same H H') (h : TreeAt K H t n R near) : TreeAt K H' t n R near := by
  obtain ⟨dx, r, nr, wy, xs, h1, _⟩ := id h
  exact h.mono s.tups (by rw [h1, s _ _ h1])
/-- what is elsewhere than at t stays -/
def But (t : Addr) (H H' : Hp) : Prop := ∀ b o, b ≠ t → H b = some o → H' b = some o
theorem But.same {t : Addr} {H H1 H2 : Hp} (a : But t H H1) (b : Same H1 H2) : But t H H2 := fun c o hc e => b c o (a c o hc e)
theorem But.put {t : Addr} {H H1 : Hp} {o : HO} (a : But t H H1) : But t H (upd H1 t o) := fun c u hc e => by rw [upd_ne hc]; exact a c u hc e
theorem lst_ne_tup {H : Hp} {a b : Addr} {xs ys : List V} (ha : H a = some (.lst xs)) (hb : H b = some (.tup ys)) : b ≠ a := fun z => by
  rw [z, ha] at hb
  cases hb
section
variable {P : Program} {w : World} {K : PySem.W.Frag} {mg : Str → Option Value} {base : Heap}
def spTreeInit (K : PySem.W.Frag) : Sp := fun vs H Q _ => ∃ (t dx a : Addr) (xs : List V) (n : Nat) (R : List Ky), vs = [.ref t, nV n, .ref a] ∧ H t = some (.ins (He.ga K "Tree") dx []) ∧ H a = some (.lst xs) ∧ Paired (KyAt H) xs R ∧ RoadsOk n R ∧ Town n R ∧
  ∀ near H', But t H H' → TreeAt K H' t n R near → (∀ u, u < n → (near u).Perm (met u R)) → Q .non H'
theorem h_Tree_init (T : Top K mg) : Has P w K mg base 5 (He.ma K (He.ga K "Tree") "__init__") A_Tree_init (spTreeInit K) := by
  refine has_of T.f_Tree_init sc_Tree_init (fun _ _ _ _ _ _ us hl => match us, hl with | [_, _, _], _ => rfl) (fun vs H Q E h => ?_) (fun cdv A outer s H vs Q E hr h => ?_)
  · obtain ⟨t, dx, a, xs, n, R, rfl, _⟩ := h
    rfl
  · obtain ⟨t, dx, a, xs, n, R, rfl, ht, ha, px, ok, tw, q⟩ := h
    have hn1 := tw.pos
    have hn2 := ok.few
    have hlen := ok.len
    refine ⟨_, pss_cons (ps_if (PW.pt (pw_or (pt_not (pt_val (pe_use (h_is_integer T) (hr.mono (by decide)) T.g_is_integer (pa_cons (pv 1) pa_nil)))) (pw_or1 (pt_not (pt_chain op_le op_le pe_int (pv 1) (pe_gint T.c_MOST_HOUSES)))))) (pss_one ps_never) pss_nil)
      (pss_cons (ps_if (pt_not (pt_val (pe_use (h_are_roads T) hr T.g_are_roads (pa_cons (pv 2) (pa_cons (pv 1) pa_nil))))) (pss_one ps_never) pss_nil)
      (pss_cons (ps_fld (pv 0) (pv 1) rfl)
      (pss_cons (ps_fld (pv 0) (pe_blty call_tuple_of T.z_tuple (pa_cons (pv 2) pa_nil)) rfl)
      (pss_cons (ps_fld (pv 0) (pe_use (h_joined_by T) (hr.mono (by decide)) T.g_joined_by (pa_cons (pv 1) (pa_cons (pv 2) pa_nil))) rfl)
      (pss_cons (ps_fld (pv 0) (pe_blty call_tuple_of T.z_tuple (pa_cons (pe_lc (own := [("house", 3)]) (g := gName 3) (tt := tYes) rfl sc_Tree_init.nd (pi_range1 (by rfl) T.z_range (pa_cons (pv 1) pa_nil)) (blkOk_by (N := N_Tree_init) (sc := defScope s_Tree_init) (by decide +kernel))
          (fun _ _ _ _ _ => pg_name (i := 3) sc_Tree_init.nd rfl (Or.inl rfl)) (fun _ _ _ _ _ => pts_nil)
          (fun _ _ _ _ _ => pe_use (h_ways_from T) (hr.mono (by decide)) T.g_ways_from (pa_cons (pe_fld (pv 0) rfl : PE _ _ (tFld K (tVar 0) "near")) (pa_cons (pv 3) pa_nil)))) pa_nil)) rfl)
      (pss_one (ps_if (pt_cmpR (op_inTD (u65 hr)) (pe_tup pa_nil) (pe_ix ix_tup (pe_fld (pv 0) rfl) pe_int (fun _ _ => rfl)) rfl) (pss_one ps_never) pss_nil))))))), ?_⟩
    refine ⟨_, rfl, (n : Int), rfl, true, rfl, ?_⟩
    refine iteF ?_
    refine ⟨_, rfl, _, _, rfl, rfl, _, rfl, ?_⟩
    rw [decide_eq_true (show (1 : Int) ≤ (n : Int) by omega)]
    refine iteT ?_
    refine ⟨_, _, rfl, rfl, _, rfl, ?_⟩
    rw [decide_eq_true (show (n : Int) ≤ 16 by omega)]
    refine iteF ?_
    refine ⟨_, rfl, _, rfl, a, xs, R, n, rfl, ha, px, ok, fun H1 s1 => ⟨true, rfl, ?_⟩⟩
    refine iteF ?_
    have ht1 := s1 _ _ ht
    have hat : a ≠ t := fun z => by rw [z, ht] at ha; cases ha
    have ha1 := s1 _ _ ha
    refine ⟨_, rfl, _, rfl, t, _, dx, _, rfl, ht1, T.cl_Tree, T.n_Tree_houses, by simp, ?_⟩
    have b2 : But t H (upd H1 t (.ins (He.ga K "Tree") dx [("houses", nV n)])) := But.put fun c o _ e => s1 c o e
    have ht2 : upd H1 t (.ins (He.ga K "Tree") dx [("houses", nV n)]) t = some (.ins (He.ga K "Tree") dx [("houses", nV n)]) := upd_same
    show tSeq _ _ _ _ (upd H1 t (.ins (He.ga K "Tree") dx [("houses", nV n)]))
    generalize upd H1 t (.ins (He.ga K "Tree") dx [("houses", nV n)]) = H2 at b2 ht2
    have ha2 := b2 _ _ hat ha
    refine ⟨_, rfl, a, xs, rfl, .inl ⟨SqL.of ha2, fun r hr2 => ?_⟩⟩
    have htr : t ≠ r := ne_of_none ht2 hr2
    refine ⟨_, rfl, t, _, dx, _, rfl, by rw [upd_ne htr]; exact ht2, T.cl_Tree, T.n_Tree_roads, by simp, ?_⟩
    have b3 : But t H (upd (upd H2 r (.tup xs)) t (.ins (He.ga K "Tree") dx [("houses", nV n), ("roads", .ref r)])) := (b2.same (Same.new hr2)).put
    have ht3 : upd (upd H2 r (.tup xs)) t (.ins (He.ga K "Tree") dx [("houses", nV n), ("roads", .ref r)]) t = some (.ins (He.ga K "Tree") dx [("houses", nV n), ("roads", .ref r)]) := upd_same
    have hr3 : upd (upd H2 r (.tup xs)) t (.ins (He.ga K "Tree") dx [("houses", nV n), ("roads", .ref r)]) r = some (.tup xs) := by rw [upd_ne (Ne.symm htr), upd_same]
    show tSeq _ _ _ _ (upd (upd H2 r (.tup xs)) t (.ins (He.ga K "Tree") dx [("houses", nV n), ("roads", .ref r)]))
    generalize upd (upd H2 r (.tup xs)) t (.ins (He.ga K "Tree") dx [("houses", nV n), ("roads", .ref r)]) = H3 at b3 ht3 hr3
    have kt : ∀ {H' : Hp}, But t H H' → Paired (KyAt H') xs R := fun b => Paired.mapP px fun v k => by
      rintro ⟨c, e, h⟩
      exact ⟨c, e, b _ _ (fun z => by rw [z, ht] at h; cases h) h⟩
    refine ⟨_, rfl, _, rfl, a, xs, R, n, rfl, b3 _ _ hat ha, kt b3, ok.lt, by omega, by omega, fun nr near H4 s4 tn pn => ?_⟩
    have ht4 := s4 _ _ ht3
    have hr4 := s4 _ _ hr3
    have b4 := b3.same s4
    refine ⟨_, rfl, t, _, dx, _, rfl, ht4, T.cl_Tree, T.n_Tree_near, by simp, ?_⟩
    have tn5 : TupsAt (upd H4 t (.ins (He.ga K "Tree") dx [("houses", nV n), ("roads", .ref r), ("near", .ref nr)])) nr n near := tn.mono (Tups.wr ht4 (by intro _ z; cases z))
    have b5 : But t H (upd H4 t (.ins (He.ga K "Tree") dx [("houses", nV n), ("roads", .ref r), ("near", .ref nr)])) := b4.put
    have ht5 : upd H4 t (.ins (He.ga K "Tree") dx [("houses", nV n), ("roads", .ref r), ("near", .ref nr)]) t = some (.ins (He.ga K "Tree") dx [("houses", nV n), ("roads", .ref r), ("near", .ref nr)]) := upd_same
    have hr5 : upd H4 t (.ins (He.ga K "Tree") dx [("houses", nV n), ("roads", .ref r), ("near", .ref nr)]) r = some (.tup xs) := by rw [upd_ne (Ne.symm htr)]; exact hr4
    show tSeq _ _ _ _ (upd H4 t (.ins (He.ga K "Tree") dx [("houses", nV n), ("roads", .ref r), ("near", .ref nr)]))
    generalize upd H4 t (.ins (He.ga K "Tree") dx [("houses", nV n), ("roads", .ref r), ("near", .ref nr)]) = H5 at tn5 b5 ht5 hr5
    have hnear : ∀ u, u < n → ∀ x ∈ near u, x < n := fun u hu x hx => by
      have hx' := (pn u hu).mem_iff.mp hx
      rcases mem_met.mp hx' with z | z
      · exact (tw.lt _ z).2
      · have := tw.lt _ z
        exact Nat.lt_trans this.1 this.2
    refine ⟨_, rfl, (n : Int), rfl, by omega, by omega, fun D hD => ?_⟩
    have en : ((n : Int)).toNat = n := by omega
    rw [en]
    refine lcEach (R := fun x k => x = nV k) (ls := List.range n) (R2 := fun H y _ => ∃ zs fo, (∃ b, y = V.ref b ∧ b ≠ D ∧ H b = some (.tup zs)) ∧ Paired (fun v l => ∃ c, v = V.ref c ∧ c ≠ D ∧ H c = some (.tup (nsV l))) zs fo ∧ ∀ l ∈ fo, l ≠ [])
      (n := n) (walk_nats _) (by simp) (Paired.of_map (F := fun x k => x = nV k) (f := nV) (fun _ => rfl) _) id (fun _ _ => trivial) hD (by omega) (fun _ => rfl) ?_ ?_ ?_
    · rintro G G' y _ k ⟨zs, fo, ⟨b, e, hb, h1⟩, pz, hf⟩
      exact ⟨zs, fo, ⟨b, e, hb, k b _ hb h1⟩, Paired.mapP pz fun v l ⟨c, e, hc, h⟩ => ⟨c, e, hc, k c _ hc h⟩, hf⟩
    · rintro x h H6 Q' rfl hm s6 ⟨ws, hw⟩ k
      have hh := List.mem_range.mp hm
      refine ⟨_, rfl, t, _, dx, _, _, rfl, s6 _ _ ht5, T.cl_Tree, T.n_Tree_near, rfl, _, rfl, nr, n, h, near, rfl, tn5.mono s6.tups, hn2, hh, hnear, fun p zs fo H7 s7 hp pz hl wf => ?_⟩
      refine k _ H7 s7 ⟨zs, fo, ⟨p, rfl, lst_ne_tup (s7 _ _ hw) hp, hp⟩, Paired.mapP pz fun v l ⟨c, e, h⟩ => ⟨c, e, lst_ne_tup (s7 _ _ hw) h, h⟩, ?_⟩
      obtain ⟨b, wf⟩ := wf
      obtain ⟨S, ts⟩ := tw.tree
      refine wf.done ts (fun x y hxy => ?_) hh
      exact (pn x (ts.lt hxy).1).mem_iff.mpr (mem_met.mpr hxy)
    · intro H6 zs s6 hz pz
      rw [List.map_id] at pz
      obtain ⟨y, ey, ws, fo, ⟨b, rfl, hbD, hb⟩, pw, hf⟩ := Paired.at' pz (List.getElem?_range hn1)
      refine ⟨D, zs, rfl, .inl ⟨SqL.of hz, fun p hp => ?_⟩⟩
      have ht6 := s6 _ _ ht5
      have htp : t ≠ p := ne_of_none ht6 hp
      refine ⟨_, rfl, t, _, dx, _, rfl, by rw [upd_ne htp]; exact ht6, T.cl_Tree, T.n_Tree_ways, by simp, ?_⟩
      have b7 : But t H (upd (upd H6 p (.tup zs)) t (.ins (He.ga K "Tree") dx [("houses", nV n), ("roads", .ref r), ("near", .ref nr), ("ways", .ref p)])) := ((b5.same s6).same (Same.new hp)).put
      have ht7 : upd (upd H6 p (.tup zs)) t (.ins (He.ga K "Tree") dx [("houses", nV n), ("roads", .ref r), ("near", .ref nr), ("ways", .ref p)]) t = some (.ins (He.ga K "Tree") dx [("houses", nV n), ("roads", .ref r), ("near", .ref nr), ("ways", .ref p)]) := upd_same
      have tp7 : Tups H6 (upd (upd H6 p (.tup zs)) t (.ins (He.ga K "Tree") dx [("houses", nV n), ("roads", .ref r), ("near", .ref nr), ("ways", .ref p)])) := (Tups.new hp).trans (Tups.wr (u := .ins (He.ga K "Tree") dx [("houses", nV n), ("roads", .ref r), ("near", .ref nr)]) (by rw [upd_ne htp]; exact ht6) (by intro _ z; cases z))
      have hp7 : upd (upd H6 p (.tup zs)) t (.ins (He.ga K "Tree") dx [("houses", nV n), ("roads", .ref r), ("near", .ref nr), ("ways", .ref p)]) p = some (.tup zs) := by rw [upd_ne (Ne.symm htp), upd_same]
      show Ends.nx _ _ (upd (upd H6 p (.tup zs)) t (.ins (He.ga K "Tree") dx [("houses", nV n), ("roads", .ref r), ("near", .ref nr), ("ways", .ref p)]))
      generalize upd (upd H6 p (.tup zs)) t (.ins (He.ga K "Tree") dx [("houses", nV n), ("roads", .ref r), ("near", .ref nr), ("ways", .ref p)]) = H7 at b7 ht7 tp7 hp7
      refine ⟨(by decide : 0 ≤ sizeLine), fun e he => ?_⟩
      have t8 := tp7.trans (Tups.new (o := .tup []) he)
      refine ⟨_, rfl, t, _, dx, _, _, rfl, by rw [upd_ne (ne_of_none ht7 he)]; exact ht7, T.cl_Tree, T.n_Tree_ways, rfl, p, zs, _, _, rfl, rfl, SqT.of (Tups.new he _ _ hp7), at_of (j := 0) (by omega) ey, ?_⟩
      refine ⟨.tuple [], _, .tup (SqT.of upd_same) .nil, .tup (SqT.of (t8 _ _ hb)) (dpAll_of (D := fun l => PyData.tuple (natsD l)) (F := TpAt (upd H7 e (.tup []))) (fun v l h => h.dp) (Paired.mapP pw fun v l ⟨c, e', _, h⟩ => ⟨c, e', t8 _ _ h⟩)), tpD_shaped [], ?_, false, ?_, ?_⟩
      · refine shaped_of (by simp only [PyData.canLay0]; exact all_lay fo (fun l _ => by simp only [PyData.canLay0]; exact all_lay l (fun _ _ => by simp [PyData.canLay0]))) ?_
        have h0 : ∀ l : List Nat, (PyData.tuple (natsD l)).depth ≤ 1 := fun l => by
          have h : PyData.depthAll (natsD l) ≤ 0 := all_depth (D := fun n : Nat => PyData.int (n : Int)) (n := 0) (fun _ => by simp [PyData.depth]) l
          simp only [PyData.depth]
          omega
        have h1 := all_depth (n := 1) (D := fun l : List Nat => PyData.tuple (natsD l)) h0 fo
        simp only [PyData.depth]
        omega
      · refine congrArg V.bl (List.any_eq_false.mpr fun z hz2 => ?_)
        obtain ⟨l, hl, rfl⟩ := List.mem_map.mp hz2
        rw [tpD_nil, decide_eq_false (hf l hl)]
        exact Bool.false_ne_true
      refine iteF ?_
      exact q near _ (b7.same (Same.new he)) ⟨dx, r, nr, p, xs, by rw [upd_ne (ne_of_none ht7 he)]; exact ht7, t8 _ _ (s6 _ _ hr5), kt (b7.same (Same.new he)), (tn5.mono s6.tups).mono t8⟩ pn
end
end K9
end

section
set_option Elab.async false
set_option linter.all false
set_option maxRecDepth 100000
set_option maxHeartbeats 1000000
namespace K9
open PySem PySem.Spec PyProof.Rows L2
/-! Tree's other methods, the checks -/
section
variable {P : Program} {w : World} {K : PySem.W.Frag} {mg : Str → Option Value} {base : Heap}
def spTreeContains (K : PySem.W.Frag) : Sp := fun vs H Q _ => ∃ (t : Addr) (i : Int) (n : Nat) (R : List Ky) (near : Nat → List Nat), vs = [.ref t, .int i] ∧ TreeAt K H t n R near ∧ Q (.bl (decide (0 ≤ i ∧ i < (n : Int)))) H
theorem h_Tree_contains (T : Top K mg) : Has P w K mg base 3 (He.ma K (He.ga K "Tree") "__contains__") A_Tree_contains (spTreeContains K) := by
  refine has_of T.f_Tree_contains sc_Tree_contains (fun _ _ _ _ _ _ us hl => match us, hl with | [_, _], _ => rfl) (fun vs H Q E h => ?_) (fun cdv A outer s H vs Q E hr h => ?_)
  · obtain ⟨t, i, n, R, near, rfl, _⟩ := h
    rfl
  · obtain ⟨t, i, n, R, near, rfl, ⟨dx, r, nr, wy, xs, ht, _⟩, q⟩ := h
    refine ⟨_, pss_one (ps_ret (pe_use (h_is_index T) hr T.g_is_index (pa_cons (pv 1) (pa_cons (pe_fld (pv 0) rfl) pa_nil)))), ?_⟩
    exact ⟨_, rfl, _, rfl, t, _, dx, _, _, rfl, ht, T.cl_Tree, T.n_Tree_houses, rfl, i, (n : Int), rfl, q⟩
def spCheckHouse (K : PySem.W.Frag) : Sp := fun vs H Q _ => ∃ (t : Addr) (h n : Nat) (R : List Ky) (near : Nat → List Nat), vs = [.ref t, nV h] ∧ TreeAt K H t n R near ∧ h < n ∧ Q .non H
theorem h_check_house (T : Top K mg) : Has P w K mg base 4 (He.ga K "check_house") A_check_house (spCheckHouse K) := by
  refine has_of T.f_check_house sc_check_house (fun _ _ _ _ _ _ us hl => match us, hl with | [_, _], _ => rfl) (fun vs H Q E h => ?_) (fun cdv A outer s H vs Q E hr h => ?_)
  · obtain ⟨t, h, n, R, near, rfl, _⟩ := h
    rfl
  · obtain ⟨t, h, n, R, near, rfl, ht, hh, q⟩ := h
    obtain ⟨fd, F, b, kp⟩ := h_Tree_contains (P := P) (w := w) (base := base) T
    refine ⟨_, pss_one (ps_if (pt_cmpR (op_notInOwn F hr T.m_Tree_contains b pass0) (pv 1) (pv 0) rfl) (pss_one ps_never) pss_nil), ?_⟩
    obtain ⟨dx, r, nr, wy, xs, hi, _⟩ := id ht
    refine ⟨_, rfl, _, rfl, t, dx, _, rfl, hi, t, h, n, R, near, rfl, ht, _, rfl, ?_⟩
    rw [decide_eq_true (show (0 : Int) ≤ (h : Int) ∧ (h : Int) < (n : Int) by omega)]
    exact ⟨_, rfl, iteF q⟩
def spCheckRoad (K : PySem.W.Frag) : Sp := fun vs H Q _ => ∃ (t : Addr) (u v n : Nat) (R : List Ky) (near : Nat → List Nat), vs = [.ref t, nV u, nV v] ∧ TreeAt K H t n R near ∧ u < n ∧ v < n ∧ v ∈ near u ∧ Q .non H
theorem h_check_road (T : Top K mg) : Has P w K mg base 5 (He.ga K "check_road") A_check_road (spCheckRoad K) := by
  refine has_of T.f_check_road sc_check_road (fun _ _ _ _ _ _ us hl => match us, hl with | [_, _, _], _ => rfl) (fun vs H Q E h => ?_) (fun cdv A outer s H vs Q E hr h => ?_)
  · obtain ⟨t, u, v, n, R, near, rfl, _⟩ := h
    rfl
  · obtain ⟨t, u, v, n, R, near, rfl, ht, hu, hv, hm, q⟩ := h
    refine ⟨_, pss_cons (ps_expr (pe_use (h_check_house T) hr T.g_check_house (pa_cons (pv 0) (pa_cons (pv 1) pa_nil))))
      (pss_cons (ps_expr (pe_use (h_check_house T) hr T.g_check_house (pa_cons (pv 0) (pa_cons (pv 2) pa_nil))))
      (pss_one (ps_if (pt_cmpR op_notIn_seq (pv 2) (pe_ix ix_tup (pe_fld (pv 0) rfl) (pv 1) (fun _ _ => rfl)) rfl) (pss_one ps_never) pss_nil))), ?_⟩
    refine ⟨_, rfl, _, rfl, t, u, n, R, near, rfl, ht, hu, ?_⟩
    refine ⟨_, rfl, _, rfl, t, v, n, R, near, rfl, ht, hv, ?_⟩
    obtain ⟨dx, r, nr, wy, xs, hi, _, _, zs, hz, lz, az⟩ := id ht
    obtain ⟨b, eb, hb⟩ := az u hu
    refine ⟨_, rfl, _, rfl, t, _, dx, _, _, rfl, hi, T.cl_Tree, T.n_Tree_near, rfl, _, rfl, nr, zs, _, _, rfl, rfl, SqT.of hz, atI_nat eb, b, _, rfl, .inr (SqT.of hb), rfl, nsV_flat _, ?_⟩
    rw [inV_nat, decide_eq_true hm]
    exact ⟨_, rfl, iteF q⟩
/-- two trees that are alike -/
def TrEq (K : PySem.W.Frag) (a b : Addr) (H : Hp) : Prop := ∃ n R n1 n2, TreeAt K H a n R n1 ∧ TreeAt K H b n R n2
theorem tr_ty (T : Top K mg) {H : Hp} {a : Addr} {dx : Addr} {fs : List (Str × V)} (h : H a = some (.ins (He.ga K "Tree") dx fs)) : TyX K H (.ref a) (.ref (He.ga K "Tree")) := by
  have hm := T.more
  simp only [moreB, Bool.and_eq_true, decide_eq_true_eq] at hm
  exact .base (.ins h T.cl_Tree hm.1 hm.2.1 hm.2.2.1 hm.2.2.2.1)
theorem tr_kit (T : Top K mg) : PySem.W.kitOne K (.ref (He.ga K "Tree")) (.ref (He.ga K "Tree")) = some true := by
  have hm := T.more
  simp only [moreB, Bool.and_eq_true, decide_eq_true_eq] at hm
  exact hm.2.2.2.2
theorem kyDt_shaped (l : List Ky) : SeqAt.shaped (.tuple (l.map kyD)) = true :=
  shaped_of (by simp only [PyData.canLay0]; exact all_lay l (fun _ _ => kyD_lay _)) (by
    have h := all_depth (n := 1) (D := kyD) kyD_depth l
    simp only [PyData.depth]
    omega)
theorem h_Tree_eq (T : Top K mg) : Has P w K mg base 1 (He.ma K (He.ga K "Tree") "__eq__") A_Tree_eq (spEq (TrEq K)) := by
  refine has_of T.f_Tree_eq sc_Tree_eq (fun _ _ _ _ _ _ us hl => match us, hl with | [_, _], _ => rfl) (fun vs H Q E h => ?_) (fun cdv A outer s H vs Q E hr h => ?_)
  · obtain ⟨a, b, rfl, _⟩ := h
    rfl
  · obtain ⟨a, b, rfl, ⟨n, R, n1, n2, ⟨dx, r, nr, wy, xs, h1, h2, h3, h4⟩, ⟨dy, r', nr', wy', ys, g1, g2, g3, g4⟩⟩, q⟩ := h
    refine ⟨_, pss_one (ps_ret (pe_and (pe_blt call_isi T.z_isinstance (pa_cons (pv 1) (pa_cons (pe_glob (v := .ref (He.ga K "Tree")) rfl T.g_Tree rfl) pa_nil)))
      (pe_and (pe_cmpR op_eq (pe_fld (pv 0) rfl) (pe_fld (pv 1) rfl) (nomark _)) (pe_one (pe_cmpR (op_eqD hr.units) (pe_fld (pv 0) rfl) (pe_fld (pv 1) rfl) (nomark _)))))), ?_⟩
    refine ⟨_, rfl, _, _, _, _, true, rfl, .own _, tr_ty T g1, tr_kit T, true, rfl, ?_⟩
    refine iteT ?_
    refine ⟨_, rfl, a, _, dx, _, _, rfl, h1, T.cl_Tree, T.n_Tree_houses, rfl, _, rfl, b, _, dy, _, _, rfl, g1, T.cl_Tree, T.n_Tree_houses, rfl, rfl, _, rfl, ?_⟩
    rw [decide_eq_true rfl]
    refine iteT ?_
    refine ⟨_, rfl, a, _, dx, _, _, rfl, h1, T.cl_Tree, T.n_Tree_roads, rfl, _, rfl, b, _, dy, _, _, rfl, g1, T.cl_Tree, T.n_Tree_roads, rfl, ?_⟩
    refine ⟨_, _, .tup (SqT.of h2) (dpAll_of (fun v y h => KyAt.dp h) h3), .tup (SqT.of g2) (dpAll_of (fun v y h => KyAt.dp h) g3), kyDt_shaped R, kyDt_shaped R, ?_⟩
    have e : PyData.eqv (.tuple (R.map kyD)) (.tuple (R.map kyD)) = true := by
      have := eqvAll_eq kyD_eqv R R
      simp only [PyData.eqv]
      rw [this, decide_eq_true rfl]
    rw [e]
    exact q H Ext.rfl'
end
end K9
end

section
set_option Elab.async false
set_option linter.all false
set_option maxRecDepth 100000
set_option maxHeartbeats 1000000
namespace K9
open PySem PySem.Spec PyProof.Rows L2
/-! the class Plain: its instance in the heap -/
abbrev Ro : Type := Addr → Nat × Nat × Nat
abbrev kk (u v : Nat) : List Key := [.inl (u : Int), .inl (v : Int)]
theorem ne_ro {ro : Ro} {a b : Addr} (h : ro a ≠ ro b) : a ≠ b := fun z => h (by rw [z])
theorem ne_ro1 {ro : Ro} {a b : Addr} (h : (ro a).1 ≠ (ro b).1) : a ≠ b := fun z => h (by rw [z])
/-- what the plain's methods leave -/
structure Chg (ro : Ro) (H H' : Hp) : Prop where
  tups : Tups H H'
  keep : ∀ b o, ((ro b).1 = 0 ∨ 5 ≤ (ro b).1) → H b = some o → H' b = some o
  free : ∀ b, H' b = none → H b = none
theorem Chg.refl (ro : Ro) (H : Hp) : Chg ro H H := ⟨Tups.refl H, fun _ _ _ e => e, fun _ e => e⟩
theorem Chg.trans {ro : Ro} {H H1 H2 : Hp} (a : Chg ro H H1) (b : Chg ro H1 H2) : Chg ro H H2 :=
  ⟨a.tups.trans b.tups, fun c o h e => b.keep c o h (a.keep c o h e), fun c e => a.free c (b.free c e)⟩
theorem Chg.same {ro : Ro} {H H' : Hp} (s : Same H H') : Chg ro H H' := ⟨s.tups, fun b o _ e => s b o e, fun b e => s.free e⟩
theorem Chg.wr {ro : Ro} {H : Hp} {c : Addr} {xs ys : List V} (h : H c = some (.lst xs)) (h1 : 0 < (ro c).1) (h2 : (ro c).1 < 5) : Chg ro H (upd H c (.lst ys)) :=
  ⟨Tups.wr h (by intro _ z; cases z), fun b o hb e => by
    rw [upd_ne (fun z => by rw [z] at hb; omega)]
    exact e, fun b e => by
    by_cases z : b = c
    · rw [z, upd_same] at e; cases e
    · rw [upd_ne z] at e; exact e⟩
structure PA where
  t : Addr
  dx : Addr
  bk : Addr
  md : Addr
  wd : Addr
  de : Addr
  bas : List Addr
  kvs : List (List Key × V)
  qa : Nat → Nat → Addr
structure PlainAt (K : PySem.W.Frag) (ro : Ro) (H : Hp) (p : Addr) (a : PA) (n : Nat) (R : List Ky) (near : Nat → List Nat) (B : Nat → List Line) (q : Nat → Nat → List Line) (M : Nat → Nat) (nd : Nat) : Prop where
  ins : H p = some (.ins (He.ga K "Plain") a.dx [("tree", .ref a.t), ("_books", .ref a.bk), ("_made", .ref a.md), ("_ways", .ref a.wd), ("_deeds", .ref a.de)])
  tree : TreeAt K H a.t n R near
  books : ∃ fB, Rows H a.bk a.bas n fB ∧ ∀ u, u < n → Paired (LnAt H) (fB u) (B u)
  made : H a.md = some (.lst (nsV ((List.range n).map M)))
  ways : H a.wd = some (.dT a.kvs)
  way : ∀ u v, u < n → v ∈ near u → valV a.kvs (kk u v) = some (.ref (a.qa u v)) ∧ ro (a.qa u v) = (4, u, v) ∧ ∃ xs, H (a.qa u v) = some (.lst xs) ∧ Paired (LnAt H) xs (q u v)
  deeds : ∃ ds, H a.de = some (.lst ds) ∧ ds.length = nd
  rp : (ro p).1 = 0
  rt : (ro a.t).1 = 0
  rb : (ro a.bk).1 = 0
  rw : (ro a.wd).1 = 0
  rm : ro a.md = (1, 0, 0)
  rd : ro a.de = (2, 0, 0)
  rbs : ∀ (u : Nat) (b : Addr), a.bas[u]? = some b → ro b = (3, u, 0)
  nb : ∀ u, u < n → (near u).Nodup ∧ ∀ v ∈ near u, v < n ∧ v ≠ u
section
variable {K : PySem.W.Frag} {ro : Ro} {H H' : Hp} {p : Addr} {a : PA} {n : Nat} {R : List Ky} {near : Nat → List Nat} {B B' : Nat → List Line} {q q' : Nat → Nat → List Line} {M : Nat → Nat} {nd : Nat}
theorem PlainAt.keep (h : PlainAt K ro H p a n R near B q M nd) (t : Tups H H') (k : ∀ b o, (ro b).1 < 5 → H b = some o → H' b = some o) : PlainAt K ro H' p a n R near B q M nd := by
  obtain ⟨fB, r, pB⟩ := h.books
  obtain ⟨ds, hd, ld⟩ := h.deeds
  refine ⟨k _ _ (by rw [h.rp]; omega) h.ins, ?_, ⟨fB, r.keep fun b o hb e => k b o ?_ e, fun u hu => lnsMono t (pB u hu)⟩, k _ _ (by rw [h.rm]; decide) h.made, k _ _ (by rw [h.rw]; omega) h.ways, fun u v hu hv => ?_, ⟨ds, k _ _ (by rw [h.rd]; decide) hd, ld⟩, h.rp, h.rt, h.rb, h.rw, h.rm, h.rd, h.rbs, h.nb⟩
  · obtain ⟨dx, _, _, _, _, ht, _⟩ := id h.tree
    exact h.tree.mono t (by rw [ht, k _ _ (by rw [h.rt]; omega) ht])
  · rcases hb with rfl | hb
    · rw [h.rb]; omega
    · obtain ⟨j, hj, e'⟩ := List.getElem_of_mem hb
      rw [h.rbs j b (by rw [List.getElem?_eq_getElem hj, e'])]
      exact (by decide : 3 < 5)
  · obtain ⟨h1, h2, xs, h3, h4⟩ := h.way u v hu hv
    exact ⟨h1, h2, xs, k _ _ (by rw [h2]; exact (by decide : 4 < 5)) h3, lnsMono t h4⟩
theorem PlainAt.same (h : PlainAt K ro H p a n R near B q M nd) (s : Same H H') : PlainAt K ro H' p a n R near B q M nd := h.keep s.tups fun b o _ e => s b o e
theorem PlainAt.congr (h : PlainAt K ro H p a n R near B q M nd) (hB : ∀ u, u < n → B u = B' u) (hq : ∀ u v, u < n → v ∈ near u → q u v = q' u v) : PlainAt K ro H p a n R near B' q' M nd := by
  obtain ⟨fB, r, pB⟩ := h.books
  refine { h with books := ⟨fB, r, fun u hu => by rw [← hB u hu]; exact pB u hu⟩, way := fun u v hu hv => ?_ }
  rw [← hq u v hu hv]
  exact h.way u v hu hv
/-- a book is changed -/
theorem PlainAt.putB (h : PlainAt K ro H p a n R near B q M nd) {u : Nat} {b : Addr} (e : a.bas[u]? = some b) {xs ys : List V} (hb : H b = some (.lst xs)) {ls : List Line} (py : Paired (LnAt H) ys ls) :
    PlainAt K ro (upd H b (.lst ys)) p a n R near (upB B u ls) q M nd := by
  have t : Tups H (upd H b (.lst ys)) := Tups.wr hb (by intro _ z; cases z)
  have hr := h.rbs u b e
  obtain ⟨fB, r, pB⟩ := h.books
  obtain ⟨ds, hd, ld⟩ := h.deeds
  have off : ∀ {c : Addr} {o : HO}, ro c ≠ (3, u, 0) → H c = some o → upd H b (.lst ys) c = some o := fun {c o} hc ec => by
    rw [upd_ne (ne_ro (ro := ro) (by rw [hr]; exact hc))]; exact ec
  have z1 : ∀ {x : Nat × Nat × Nat}, x.1 = 0 → x ≠ (3, u, 0) := fun hx z => by rw [z] at hx; cases hx
  refine ⟨off (z1 h.rp) h.ins, ?_, ⟨_, r.put e ys, fun w hw => ?_⟩, off (by rw [h.rm]; intro z; cases z) h.made, off (z1 h.rw) h.ways, fun x y hx hy => ?_, ⟨ds, off (by rw [h.rd]; intro z; cases z) hd, ld⟩, h.rp, h.rt, h.rb, h.rw, h.rm, h.rd, h.rbs, h.nb⟩
  · obtain ⟨dx, _, _, _, _, ht, _⟩ := id h.tree
    exact h.tree.mono t (by rw [ht, off (z1 h.rt) ht])
  · by_cases z : w = u
    · subst z
      try dsimp only
      rw [if_pos rfl, upB_same]
      exact lnsMono t py
    · try dsimp only
      rw [if_neg z, upB_ne z]
      exact lnsMono t (pB w hw)
  · obtain ⟨h1, h2, xs, h3, h4⟩ := h.way x y hx hy
    exact ⟨h1, h2, xs, off (by rw [h2]; intro z; cases z) h3, lnsMono t h4⟩
/-- the lines under way are changed on one road -/
theorem PlainAt.putQ (h : PlainAt K ro H p a n R near B q M nd) {u v : Nat} (hu : u < n) (hv : v ∈ near u) {xs ys : List V} (hb : H (a.qa u v) = some (.lst xs)) {ls : List Line} (py : Paired (LnAt H) ys ls) :
    PlainAt K ro (upd H (a.qa u v) (.lst ys)) p a n R near B (fun x y => if x = u ∧ y = v then ls else q x y) M nd := by
  have t : Tups H (upd H (a.qa u v) (.lst ys)) := Tups.wr hb (by intro _ z; cases z)
  have hr := (h.way u v hu hv).2.1
  obtain ⟨fB, r, pB⟩ := h.books
  obtain ⟨ds, hd, ld⟩ := h.deeds
  have off : ∀ {c : Addr} {o : HO}, ro c ≠ (4, u, v) → H c = some o → upd H (a.qa u v) (.lst ys) c = some o := fun {c o} hc ec => by
    rw [upd_ne (ne_ro (ro := ro) (by rw [hr]; exact hc))]; exact ec
  have z1 : ∀ {x : Nat × Nat × Nat}, x.1 = 0 → x ≠ (4, u, v) := fun hx z => by rw [z] at hx; cases hx
  refine ⟨off (z1 h.rp) h.ins, ?_, ⟨fB, r.keep fun b o hb e => off ?_ e, fun w hw => lnsMono t (pB w hw)⟩, off (by rw [h.rm]; intro z; cases z) h.made, off (z1 h.rw) h.ways, fun x y hx hy => ?_, ⟨ds, off (by rw [h.rd]; intro z; cases z) hd, ld⟩, h.rp, h.rt, h.rb, h.rw, h.rm, h.rd, h.rbs, h.nb⟩
  · obtain ⟨dx, _, _, _, _, ht, _⟩ := id h.tree
    exact h.tree.mono t (by rw [ht, off (z1 h.rt) ht])
  · rcases hb with rfl | hb
    · exact z1 h.rb
    · obtain ⟨j, hj, e'⟩ := List.getElem_of_mem hb
      rw [h.rbs j b (by rw [List.getElem?_eq_getElem hj, e'])]
      intro z; cases z
  · obtain ⟨h1, h2, zs, h3, h4⟩ := h.way x y hx hy
    refine ⟨h1, h2, ?_⟩
    by_cases z : x = u ∧ y = v
    · obtain ⟨rfl, rfl⟩ := z
      try dsimp only
      rw [if_pos ⟨rfl, rfl⟩]
      exact ⟨ys, upd_same, lnsMono t py⟩
    · try dsimp only
      rw [if_neg z]
      exact ⟨zs, off (by rw [h2]; intro w; injection w with _ w; injection w with w1 w2; exact z ⟨w1, w2⟩) h3, lnsMono t h4⟩
theorem PlainAt.putM (h : PlainAt K ro H p a n R near B q M nd) {M' : Nat → Nat} : PlainAt K ro (upd H a.md (.lst (nsV ((List.range n).map M')))) p a n R near B q M' nd := by
  have t : Tups H (upd H a.md (.lst (nsV ((List.range n).map M')))) := Tups.wr h.made (by intro _ z; cases z)
  obtain ⟨fB, r, pB⟩ := h.books
  obtain ⟨ds, hd, ld⟩ := h.deeds
  have off : ∀ {c : Addr} {o : HO}, ro c ≠ (1, 0, 0) → H c = some o → upd H a.md (.lst (nsV ((List.range n).map M'))) c = some o := fun {c o} hc ec => by
    rw [upd_ne (ne_ro (ro := ro) (by rw [h.rm]; exact hc))]; exact ec
  have z1 : ∀ {x : Nat × Nat × Nat}, x.1 = 0 → x ≠ (1, 0, 0) := fun hx z => by rw [z] at hx; cases hx
  refine ⟨off (z1 h.rp) h.ins, ?_, ⟨fB, r.keep fun b o hb e => off ?_ e, fun w hw => lnsMono t (pB w hw)⟩, upd_same, off (z1 h.rw) h.ways, fun x y hx hy => ?_, ⟨ds, off (by rw [h.rd]; intro z; cases z) hd, ld⟩, h.rp, h.rt, h.rb, h.rw, h.rm, h.rd, h.rbs, h.nb⟩
  · obtain ⟨dx, _, _, _, _, ht, _⟩ := id h.tree
    exact h.tree.mono t (by rw [ht, off (z1 h.rt) ht])
  · rcases hb with rfl | hb
    · exact z1 h.rb
    · obtain ⟨j, hj, e'⟩ := List.getElem_of_mem hb
      rw [h.rbs j b (by rw [List.getElem?_eq_getElem hj, e'])]
      intro z; cases z
  · obtain ⟨h1, h2, xs, h3, h4⟩ := h.way x y hx hy
    exact ⟨h1, h2, xs, off (by rw [h2]; intro z; cases z) h3, lnsMono t h4⟩
theorem PlainAt.putD (h : PlainAt K ro H p a n R near B q M nd) {ds : List V} {nd' : Nat} (hn : ds.length = nd') : PlainAt K ro (upd H a.de (.lst ds)) p a n R near B q M nd' := by
  obtain ⟨ds0, hd, ld⟩ := h.deeds
  have t : Tups H (upd H a.de (.lst ds)) := Tups.wr hd (by intro _ z; cases z)
  obtain ⟨fB, r, pB⟩ := h.books
  have off : ∀ {c : Addr} {o : HO}, ro c ≠ (2, 0, 0) → H c = some o → upd H a.de (.lst ds) c = some o := fun {c o} hc ec => by
    rw [upd_ne (ne_ro (ro := ro) (by rw [h.rd]; exact hc))]; exact ec
  have z1 : ∀ {x : Nat × Nat × Nat}, x.1 = 0 → x ≠ (2, 0, 0) := fun hx z => by rw [z] at hx; cases hx
  refine ⟨off (z1 h.rp) h.ins, ?_, ⟨fB, r.keep fun b o hb e => off ?_ e, fun w hw => lnsMono t (pB w hw)⟩, off (by rw [h.rm]; intro z; cases z) h.made, off (z1 h.rw) h.ways, fun x y hx hy => ?_, ⟨ds, upd_same, hn⟩, h.rp, h.rt, h.rb, h.rw, h.rm, h.rd, h.rbs, h.nb⟩
  · obtain ⟨dx, _, _, _, _, ht, _⟩ := id h.tree
    exact h.tree.mono t (by rw [ht, off (z1 h.rt) ht])
  · rcases hb with rfl | hb
    · exact z1 h.rb
    · obtain ⟨j, hj, e'⟩ := List.getElem_of_mem hb
      rw [h.rbs j b (by rw [List.getElem?_eq_getElem hj, e'])]
      intro z; cases z
  · obtain ⟨h1, h2, xs, h3, h4⟩ := h.way x y hx hy
    exact ⟨h1, h2, xs, off (by rw [h2]; intro z; cases z) h3, lnsMono t h4⟩
theorem PlainAt.bookAt (h : PlainAt K ro H p a n R near B q M nd) {u : Nat} (hu : u < n) : ∃ b xs, a.bas[u]? = some b ∧ (a.bas.map V.ref)[u]? = some (.ref b) ∧ H b = some (.lst xs) ∧ Paired (LnAt H) xs (B u) ∧ H a.bk = some (.lst (a.bas.map V.ref)) := by
  obtain ⟨fB, r, pB⟩ := h.books
  obtain ⟨b, e1, e2, e3⟩ := r.get hu
  exact ⟨b, _, e1, e2, e3, pB u hu, r.top⟩
end
end K9
end

section
set_option Elab.async false
set_option linter.all false
set_option maxRecDepth 100000
set_option maxHeartbeats 1000000
namespace K9
open PySem PySem.Spec PyProof.Rows L2
/-! the plain's methods -/
def comeQ (q : Nat → Nat → List Line) (h : Nat) (og : Option Nat) (l : Line) : Nat → Nat → List Line := fun x y => if x = h ∧ some y ≠ og then q x y ++ [l] else q x y
def ogV : Option Nat → V
  | none => .non
  | some u => nV u
theorem ne_og (x : Nat) : ∀ og : Option Nat, (!decide (nV x = ogV og)) = decide (some x ≠ og)
  | none => by
    rw [decide_eq_false (show ¬ nV x = ogV none by intro z; cases z)]
    simp
  | some u => by
    show (!decide (nV x = nV u)) = _
    rw [dec_nV]
    by_cases h : x = u
    · subst h; simp
    · simp [h]
theorem scal_og (x : Nat) : ∀ og : Option Nat, scal (nV x) (ogV og) = true
  | none => rfl
  | some _ => rfl
section
variable {P : Program} {w : World} {K : PySem.W.Frag} {mg : Str → Option Value} {base : Heap}
def spCome (K : PySem.W.Frag) : Sp := fun vs H Q _ => ∃ (ro : Ro) (p : Addr) (a : PA) (n : Nat) (R : List Ky) (near : Nat → List Nat) (B : Nat → List Line) (q : Nat → Nat → List Line) (M : Nat → Nat) (nd : Nat) (h : Nat) (la : Addr) (l : Line) (og : Option Nat),
  vs = [.ref p, nV h, .ref la, ogV og] ∧ PlainAt K ro H p a n R near B q M nd ∧ h < n ∧ H la = some (.tup (lineV l)) ∧ (B h).length ≤ 1000 ∧ (∀ v ∈ near h, (q h v).length ≤ 1000) ∧
  ∀ H', Chg ro H H' → PlainAt K ro H' p a n R near (upB B h (B h ++ [l])) (comeQ q h og l) M nd → Q .non H'
theorem h_Plain_come (T : Top K mg) : Has P w K mg base 1 (He.ma K (He.ga K "Plain") "_come") A_Plain_come (spCome K) := by
  refine has_of T.f_Plain_come sc_Plain_come (fun _ _ _ _ _ _ us hl => match us, hl with | [_, _, _, _], _ => rfl) (fun vs H Q E h => ?_) (fun cdv A outer s H vs Q E hr h => ?_)
  · obtain ⟨ro, p, a, n, R, near, B, q, M, nd, h, la, l, og, rfl, _⟩ := h
    rfl
  · obtain ⟨ro, p, a, n, R, near, B, q, M, nd, h, la, l, og, rfl, pl, hh, hla, lB, lq, k⟩ := h
    refine ⟨_, pss_cons (ps_expr (pe_bm PySem.F.plainAttrs_list PySem.F.slot_list_append PySem.F.type_list_append mt_append (pe_ix ix_list (pe_fld (pv 0) rfl) (pv 1) (fun _ _ => rfl)) (pa_cons (pv 2) pa_nil)))
      (pss_one (ps_for PassesOwn.never rfl (pi_tup (pe_ix ix_tup (pe_fld (pe_fld (pv 0) rfl) rfl) (pv 1) (fun _ _ => rfl))) (pg_name (i := 4) sc_Plain_come.nd rfl (Or.inl rfl))
        (pss_one (ps_if (pt_cmpR op_ne (pv 4) (pv 3) (nomark _))
          (pss_one (ps_expr (pe_bm PySem.F.plainAttrs_list PySem.F.slot_list_append PySem.F.type_list_append mt_append (pe_dget (hu_of hr) (pe_fld (pv 0) rfl) (pe_tup (pa_cons (pv 1) (pa_cons (pv 4) pa_nil))) (fun _ _ => rfl)) (pa_cons (pv 2) pa_nil)))) pss_nil)))), ?_⟩
    obtain ⟨b, xs, eb, eb2, hb, px, hbk⟩ := pl.bookAt hh
    have lx := Paired.length px
    refine ⟨_, rfl, p, _, _, _, _, rfl, pl.ins, T.cl_Plain, T.n_Plain_books, rfl, _, rfl, a.bk, _, _, _, rfl, rfl, SqL.of hbk, atI_nat eb2, .inl ⟨rfl, _, SqL.of hb⟩, _, rfl, b, xs, _, rfl, rfl, hb, Nat.lt_of_le_of_lt (by omega : xs.length ≤ 1000) (by decide), ?_⟩
    have hrb := pl.rbs h b eb
    have c1 : Chg ro H (upd H b (.lst (xs ++ [.ref la]))) := Chg.wr hb (by rw [hrb]; exact (by decide : 0 < 3)) (by rw [hrb]; exact (by decide : 3 < 5))
    have pl1 := pl.putB eb hb (ys := xs ++ [.ref la]) (ls := B h ++ [l]) (Paired.snoc px ⟨la, rfl, hla⟩)
    generalize upd H b (.lst (xs ++ [.ref la])) = H1 at c1 pl1
    obtain ⟨dx, r, nr, wy, rs, ht, _, _, zs, hz, lz, az⟩ := id pl1.tree
    obtain ⟨nb, enb, hnb⟩ := az h hh
    refine ⟨_, rfl, p, _, _, _, _, rfl, pl1.ins, T.cl_Plain, T.n_Plain_tree, rfl, a.t, _, dx, _, _, rfl, ht, T.cl_Tree, T.n_Tree_near, rfl, _, rfl, nr, zs, _, _, rfl, rfl, SqT.of hz, atI_nat enb, nb, rfl, ⟨_, SqT.of hnb⟩, ?_⟩
    obtain ⟨nnd, nlt⟩ := pl.nb h hh
    refine for_tup (xs := nsV (near h)) (fun i σ H' => ∃ v4, σ = [some (.ref p), some (nV h), some (.ref la), some (ogV og), v4] ∧ Chg ro H H' ∧ Tups H1 H' ∧ PlainAt K ro H' p a n R near (upB B h (B h ++ [l])) (fun x y => if x = h ∧ y ∈ (near h).take i ∧ some y ≠ og then q x y ++ [l] else q x y) M nd)
      ⟨none, rfl, c1, Tups.refl _, pl1.congr (fun _ _ => rfl) fun u v hu hv => by simp⟩ (fun i σ H' _ ⟨_, _, _, t, _⟩ => SqT.of (t _ _ hnb)) ?_ ?_
    · rintro i x σ H2 hx ⟨v4, rfl, c2, t2, pl2⟩
      obtain ⟨o, eo, rfl⟩ : ∃ o, (near h)[i]? = some o ∧ x = nV o := by
        rw [List.getElem?_map] at hx
        cases e : (near h)[i]? with
        | none => rw [e] at hx; cases hx
        | some o => rw [e] at hx; exact ⟨o, rfl, (Option.some.inj hx).symm⟩
      have ho : o ∈ near h := List.mem_of_getElem? eo
      have tk : (near h).take (i + 1) = (near h).take i ++ [o] := by rw [List.take_add_one, eo] <;> rfl
      have nin : o ∉ (near h).take i := fun hm => by
        obtain ⟨j, hj, e⟩ := List.getElem_of_mem hm
        have hj2 : j < i := by rw [List.length_take] at hj; omega
        have e2 : (near h)[j]? = some o := by
          rw [List.getElem_take] at e
          rw [← e]
          exact List.getElem?_eq_getElem _
        have := nd_ix nnd e2 eo
        omega
      refine ⟨_, rfl, _, rfl, scal_og o og, _, rfl, ?_⟩
      rw [ne_og]
      by_cases hog : some o ≠ og
      · rw [decide_eq_true hog]
        refine iteT ?_
        refine ⟨_, rfl, p, _, _, _, _, rfl, pl2.ins, T.cl_Plain, T.n_Plain_ways, rfl, _, rfl, _, rfl, (by decide : 2 ≤ sizeLine), fun e he => ?_⟩
        have pl3 := pl2.same (Same.new (o := .tup [nV h, nV o]) he)
        have c3 := c2.trans (Chg.same (ro := ro) (Same.new (o := .tup [nV h, nV o]) he))
        have t3 := t2.trans (Tups.new (o := .tup [nV h, nV o]) he)
        have he3 : upd H2 e (.tup [nV h, nV o]) e = some (.tup [nV h, nV o]) := upd_same
        show ∃ a_1 v, _ ∧ DGet (upd H2 e (.tup [nV h, nV o])) _ _ _ ∧ _
        generalize upd H2 e (.tup [nV h, nV o]) = H3 at pl3 c3 t3 he3
        obtain ⟨w1, w2, ys, w3, w4⟩ := pl3.way h o hh ho
        rw [if_neg (fun z => nin z.2.1)] at w4
        have ly := Paired.length w4
        have lqo := lq o ho
        refine ⟨a.wd, _, rfl, .inr ⟨a.kvs, kk h o, e, .inl pl3.ways, rfl, he3, w1.symm⟩, .inl ⟨rfl, _, SqL.of w3⟩, _, rfl, a.qa h o, ys, _, rfl, rfl, w3, Nat.lt_of_le_of_lt (by omega : ys.length ≤ 1000) (by decide), ?_⟩
        have hla3 := t3 _ _ (c1.tups _ _ hla)
        refine ⟨_, rfl, c3.trans (Chg.wr w3 (by rw [w2]; exact (by decide : 0 < 4)) (by rw [w2]; exact (by decide : 4 < 5))), t3.trans (Tups.wr w3 (by intro _ z; cases z)), (pl3.putQ hh ho w3 (Paired.snoc w4 ⟨la, rfl, hla3⟩)).congr (fun _ _ => rfl) fun x y hx hy => ?_⟩
        rw [tk]
        by_cases z : x = h ∧ y = o
        · obtain ⟨rfl, rfl⟩ := z
          rw [if_pos ⟨rfl, rfl⟩, if_pos ⟨rfl, by simp, hog⟩]
        · rw [if_neg z]
          have : (x = h ∧ y ∈ (near h).take i ∧ some y ≠ og) ↔ (x = h ∧ y ∈ (near h).take i ++ [o] ∧ some y ≠ og) := by
            rw [List.mem_append, List.mem_singleton]
            refine ⟨fun ⟨a, b, c⟩ => ⟨a, .inl b, c⟩, fun ⟨a, b, c⟩ => ⟨a, b.elim id fun e => (z ⟨a, e⟩).elim, c⟩⟩
          simp only [this]
      · rw [decide_eq_false hog]
        refine iteF ?_
        refine ⟨_, rfl, c2, t2, pl2.congr (fun _ _ => rfl) fun x y hx hy => ?_⟩
        rw [tk]
        have : (x = h ∧ y ∈ (near h).take i ∧ some y ≠ og) ↔ (x = h ∧ y ∈ (near h).take i ++ [o] ∧ some y ≠ og) := by
          rw [List.mem_append, List.mem_singleton]
          refine ⟨fun ⟨a, b, c⟩ => ⟨a, .inl b, c⟩, fun ⟨a, b, c⟩ => ⟨a, b.elim id fun e => (hog (by rw [← e]; exact c)).elim, c⟩⟩
        simp only [this]
    · rintro σ H2 ⟨v4, rfl, c2, t2, pl2⟩
      refine k H2 c2 (pl2.congr (fun _ _ => rfl) fun x y hx hy => ?_)
      rw [List.take_of_length_le (by simp)]
      unfold comeQ
      by_cases z : x = h
      · subst z
        simp only [true_and, hy]
      · rw [if_neg (fun w => z w.1), if_neg (fun w => z w.1)]
end
end K9
end

section
set_option Elab.async false
set_option linter.all false
set_option maxRecDepth 100000
set_option maxHeartbeats 1000000
namespace K9
open PySem PySem.Spec PyProof.Rows L2
/-! the plain's methods: row, under_way, make, hand -/
section
variable {P : Program} {w : World} {K : PySem.W.Frag} {mg : Str → Option Value} {base : Heap}
def spRow (K : PySem.W.Frag) : Sp := fun vs H Q _ => ∃ (ro : Ro) (p : Addr) (a : PA) (n : Nat) (R : List Ky) (near : Nat → List Nat) (B : Nat → List Line) (q : Nat → Nat → List Line) (M : Nat → Nat) (nd : Nat) (h : Nat),
  vs = [.ref p, nV h] ∧ PlainAt K ro H p a n R near B q M nd ∧ h < n ∧ ∀ r xs H', Same H H' → H' r = some (.tup xs) → Paired (LnAt H') xs (B h) → Q (.ref r) H'
theorem h_Plain_row (T : Top K mg) : Has P w K mg base 5 (He.ma K (He.ga K "Plain") "row") A_Plain_row (spRow K) := by
  refine has_of T.f_Plain_row sc_Plain_row (fun _ _ _ _ _ _ us hl => match us, hl with | [_, _], _ => rfl) (fun vs H Q E h => ?_) (fun cdv A outer s H vs Q E hr h => ?_)
  · obtain ⟨ro, p, a, n, R, near, B, q, M, nd, h, rfl, _⟩ := h
    rfl
  · obtain ⟨ro, p, a, n, R, near, B, q, M, nd, h, rfl, pl, hh, k⟩ := h
    refine ⟨_, pss_cons (ps_expr (pe_use (h_check_house T) hr T.g_check_house (pa_cons (pe_fld (pv 0) rfl) (pa_cons (pv 1) pa_nil))))
      (pss_one (ps_ret (pe_blty call_tuple_of T.z_tuple (pa_cons (pe_ix ix_list (pe_fld (pv 0) rfl) (pv 1) (fun _ _ => rfl)) pa_nil)))), ?_⟩
    obtain ⟨b, xs, eb, eb2, hb, px, hbk⟩ := pl.bookAt hh
    refine ⟨_, rfl, p, _, _, _, _, rfl, pl.ins, T.cl_Plain, T.n_Plain_tree, rfl, _, rfl, a.t, h, n, R, near, rfl, pl.tree, hh, ?_⟩
    refine ⟨_, rfl, p, _, _, _, _, rfl, pl.ins, T.cl_Plain, T.n_Plain_books, rfl, _, rfl, a.bk, _, _, _, rfl, rfl, SqL.of hbk, atI_nat eb2, b, xs, rfl, .inl ⟨SqL.of hb, fun r hr2 => ?_⟩⟩
    exact k r xs _ (Same.new hr2) upd_same (lnsMono (Tups.new hr2) px)
def spUnder (K : PySem.W.Frag) : Sp := fun vs H Q _ => ∃ (ro : Ro) (p : Addr) (a : PA) (n : Nat) (R : List Ky) (near : Nat → List Nat) (B : Nat → List Line) (q : Nat → Nat → List Line) (M : Nat → Nat) (nd : Nat) (u v : Nat),
  vs = [.ref p, nV u, nV v] ∧ PlainAt K ro H p a n R near B q M nd ∧ u < n ∧ v ∈ near u ∧ ∀ r xs H', Same H H' → H' r = some (.tup xs) → Paired (LnAt H') xs (q u v) → Q (.ref r) H'
theorem h_Plain_under_way (T : Top K mg) : Has P w K mg base 6 (He.ma K (He.ga K "Plain") "under_way") A_Plain_under_way (spUnder K) := by
  refine has_of T.f_Plain_under_way sc_Plain_under_way (fun _ _ _ _ _ _ us hl => match us, hl with | [_, _, _], _ => rfl) (fun vs H Q E h => ?_) (fun cdv A outer s H vs Q E hr h => ?_)
  · obtain ⟨ro, p, a, n, R, near, B, q, M, nd, u, v, rfl, _⟩ := h
    rfl
  · obtain ⟨ro, p, a, n, R, near, B, q, M, nd, u, v, rfl, pl, hu, hv, k⟩ := h
    refine ⟨_, pss_cons (ps_expr (pe_use (h_check_road T) hr T.g_check_road (pa_cons (pe_fld (pv 0) rfl) (pa_cons (pv 1) (pa_cons (pv 2) pa_nil)))))
      (pss_one (ps_ret (pe_blty call_tuple_of T.z_tuple (pa_cons (pe_dget (hu_of hr) (pe_fld (pv 0) rfl) (pe_tup (pa_cons (pv 1) (pa_cons (pv 2) pa_nil))) (fun _ _ => rfl)) pa_nil)))), ?_⟩
    refine ⟨_, rfl, p, _, _, _, _, rfl, pl.ins, T.cl_Plain, T.n_Plain_tree, rfl, _, rfl, _, rfl, a.t, u, v, n, R, near, rfl, pl.tree, hu, ((pl.nb u hu).2 v hv).1, hv, ?_⟩
    refine ⟨_, rfl, p, _, _, _, _, rfl, pl.ins, T.cl_Plain, T.n_Plain_ways, rfl, _, rfl, _, rfl, (by decide : 2 ≤ sizeLine), fun e he => ?_⟩
    have pl1 := pl.same (Same.new (o := .tup [nV u, nV v]) he)
    obtain ⟨w1, w2, xs, w3, w4⟩ := pl1.way u v hu hv
    refine ⟨a.wd, _, rfl, .inr ⟨a.kvs, kk u v, e, .inl pl1.ways, rfl, upd_same, w1.symm⟩, a.qa u v, xs, rfl, .inl ⟨SqL.of w3, fun r hr2 => ?_⟩⟩
    exact k r xs _ ((Same.new he).newr hr2) upd_same (lnsMono (Tups.new hr2) w4)
def madeM (M : Nat → Nat) (h : Nat) : Nat → Nat := fun x => if x = h then M h + 1 else M x
def spMake (K : PySem.W.Frag) : Sp := fun vs H Q _ => ∃ (ro : Ro) (p : Addr) (a : PA) (n : Nat) (R : List Ky) (near : Nat → List Nat) (B : Nat → List Line) (q : Nat → Nat → List Line) (M : Nat → Nat) (nd : Nat) (h : Nat) (c t : Str),
  vs = [.ref p, nV h, .str c, .str t] ∧ PlainAt K ro H p a n R near B q M nd ∧ h < n ∧ c ∈ cells4 ∧ t ∈ texts4 ∧ (B h).length ≤ 1000 ∧ (∀ v ∈ near h, (q h v).length ≤ 1000) ∧ nd ≤ 1000 ∧
  ∀ la H', Chg ro H H' → H' la = some (.tup (lineV ⟨h, M h, c, t⟩)) → PlainAt K ro H' p a n R near (upB B h (B h ++ [⟨h, M h, c, t⟩])) (comeQ q h none ⟨h, M h, c, t⟩) (madeM M h) (nd + 1) → Q (.ref la) H'
theorem h_Plain_make (T : Top K mg) : Has P w K mg base 5 (He.ma K (He.ga K "Plain") "make") A_Plain_make (spMake K) := by
  refine has_of T.f_Plain_make sc_Plain_make (fun _ _ _ _ _ _ us hl => match us, hl with | [_, _, _, _], _ => rfl) (fun vs H Q E h => ?_) (fun cdv A outer s H vs Q E hr h => ?_)
  · obtain ⟨ro, p, a, n, R, near, B, q, M, nd, h, c, t, rfl, _⟩ := h
    rfl
  · obtain ⟨ro, p, a, n, R, near, B, q, M, nd, h, c, t, rfl, pl, hh, hc, ht, lB, lq, ln, k⟩ := h
    refine ⟨_, pss_cons (ps_expr (pe_use (h_check_house T) hr T.g_check_house (pa_cons (pe_fld (pv 0) rfl) (pa_cons (pv 1) pa_nil))))
      (pss_cons (ps_if (pt_not (pt_val (pe_use (h_is_cell T) (hr.mono (by decide)) T.g_is_cell (pa_cons (pv 2) pa_nil)))) (pss_one ps_never) pss_nil)
      (pss_cons (ps_if (pt_not (pt_val (pe_use (h_is_text T) (hr.mono (by decide)) T.g_is_text (pa_cons (pv 3) pa_nil)))) (pss_one ps_never) pss_nil)
      (pss_cons (ps_set (i := 4) sc_Plain_make.nd rfl (Or.inl rfl) (pe_tup (pa_cons (pv 1) (pa_cons (pe_ix ix_list (pe_fld (pv 0) rfl) (pv 1) (fun _ _ => rfl)) (pa_cons (pv 2) (pa_cons (pv 3) pa_nil))))))
      (pss_cons (ps_augS (pe_fld (pv 0) rfl) (pv 1) get_list pe_int ip_add set_list)
      (pss_cons (ps_expr (pe_useM (pv 0) T.cl_Plain T.m_Plain_come (h_Plain_come T) (hr.mono (by decide)) (pa_cons (pv 1) (pa_cons (pv 4) (pa_cons pe_non pa_nil)))))
      (pss_cons (ps_expr (pe_bm PySem.F.plainAttrs_list PySem.F.slot_list_append PySem.F.type_list_append mt_append (pe_fld (pv 0) rfl) (pa_cons (pe_tup (pa_cons pe_str (pa_cons (pv 1) (pa_cons (pv 2) (pa_cons (pv 3) pa_nil))))) pa_nil)))
      (pss_one (ps_ret (pv 4))))))))), ?_⟩
    refine ⟨_, rfl, p, _, _, _, _, rfl, pl.ins, T.cl_Plain, T.n_Plain_tree, rfl, _, rfl, a.t, h, n, R, near, rfl, pl.tree, hh, ?_⟩
    refine ⟨_, rfl, c, rfl, hc, fun H1 s1 => ⟨true, rfl, ?_⟩⟩
    refine iteF ?_
    refine ⟨_, rfl, t, rfl, ht, fun H2 s2 => ⟨true, rfl, ?_⟩⟩
    refine iteF ?_
    have s12 := L2.Same.trans s1 s2
    have pl2 := pl.same s12
    have eM : (nsV ((List.range n).map M))[h]? = some (nV (M h)) := by
      rw [List.getElem?_map, List.getElem?_map, List.getElem?_range hh] <;> rfl
    refine ⟨_, rfl, _, rfl, p, _, _, _, _, rfl, pl2.ins, T.cl_Plain, T.n_Plain_made, rfl, _, rfl, a.md, _, _, _, rfl, rfl, SqL.of pl2.made, atI_nat eM, _, rfl, _, rfl, (by decide : 4 ≤ sizeLine), fun la hla => ?_⟩
    have c3 : Chg ro H (upd H2 la (.tup (lineV ⟨h, M h, c, t⟩))) := Chg.same (s12.newr hla)
    have pl3 := pl2.same (Same.new (o := .tup (lineV ⟨h, M h, c, t⟩)) hla)
    have hla3 : upd H2 la (.tup (lineV ⟨h, M h, c, t⟩)) la = some (.tup (lineV ⟨h, M h, c, t⟩)) := upd_same
    show tSeq _ _ _ _ (upd H2 la (.tup (lineV ⟨h, M h, c, t⟩)))
    generalize upd H2 la (.tup (lineV ⟨h, M h, c, t⟩)) = H3 at c3 pl3 hla3
    refine ⟨_, rfl, p, _, _, _, _, rfl, pl3.ins, T.cl_Plain, T.n_Plain_made, rfl, _, rfl, a.md, _, _, _, rfl, rfl, SqL.of pl3.made, atI_nat eM, _, _, rfl, rfl, a.md, _, _, h, rfl, rfl, pl3.made, ixN_nat (by simpa using hh), ?_⟩
    have eS : (nsV ((List.range n).map M)).set h (.int ((M h : Nat) + 1 : Int)) = nsV ((List.range n).map (madeM M h)) := by
      apply List.ext_getElem?
      intro j
      by_cases hj : h = j
      · subst hj
        rw [List.getElem?_set_self (by simpa using hh), List.getElem?_map, List.getElem?_map, List.getElem?_range hh]
        show some (V.int _) = some (nV (madeM M h h))
        unfold madeM
        rw [if_pos rfl]
        congr 2
      · rw [List.getElem?_set_ne hj, List.getElem?_map, List.getElem?_map, List.getElem?_map, List.getElem?_map]
        by_cases hjn : j < n
        · rw [List.getElem?_range hjn]
          show some (nV (M j)) = some (nV (madeM M h j))
          unfold madeM
          rw [if_neg (fun z => hj z.symm)]
        · rw [List.getElem?_eq_none (by rw [List.length_range]; omega)] <;> rfl
    rw [eS]
    have c4 := c3.trans (Chg.wr (ro := ro) (ys := nsV ((List.range n).map (madeM M h))) pl3.made (by rw [pl3.rm]; decide) (by rw [pl3.rm]; decide))
    have pl4 := pl3.putM (M' := madeM M h)
    have hla4 : upd H3 a.md (.lst (nsV ((List.range n).map (madeM M h)))) la = some (.tup (lineV ⟨h, M h, c, t⟩)) := Tups.wr pl3.made (by intro _ z; cases z) _ _ hla3
    show tSeq _ _ _ _ (upd H3 a.md (.lst (nsV ((List.range n).map (madeM M h)))))
    generalize upd H3 a.md (.lst (nsV ((List.range n).map (madeM M h)))) = H4 at c4 pl4 hla4
    refine ⟨_, rfl, p, _, _, rfl, pl4.ins, rfl, _, rfl, _, rfl, ro, p, a, n, R, near, B, q, _, nd, h, la, _, none, rfl, pl4, hh, hla4, lB, lq, fun H5 c5 pl5 => ?_⟩
    refine ⟨_, rfl, p, _, _, _, _, rfl, pl5.ins, T.cl_Plain, T.n_Plain_deeds, rfl, ?_⟩
    obtain ⟨ds, hds, lds⟩ := pl5.deeds
    refine ⟨.inl ⟨rfl, _, SqL.of hds⟩, _, rfl, _, rfl, _, rfl, (by decide : 4 ≤ sizeLine), fun e he => ?_⟩
    have pl6 := pl5.same (Same.new (o := .tup [.str "make", nV h, .str c, .str t]) he)
    have c6 := (c4.trans c5).trans (Chg.same (Same.new (o := .tup [.str "make", nV h, .str c, .str t]) he))
    obtain ⟨ds', hds', lds'⟩ := pl6.deeds
    refine ⟨a.de, ds', _, rfl, rfl, hds', Nat.lt_of_le_of_lt (by omega : ds'.length ≤ 1000) (by decide), ?_⟩
    refine ⟨_, rfl, k la _ (c6.trans (Chg.wr hds' (by rw [pl6.rd]; decide) (by rw [pl6.rd]; decide))) ?_ (pl6.putD (by rw [List.length_append, lds'] <;> rfl))⟩
    exact Tups.wr hds' (by intro _ z; cases z) _ _ (Tups.new he _ _ (c5.tups _ _ hla4))
end
end K9
end

section
set_option Elab.async false
set_option linter.all false
set_option maxRecDepth 100000
set_option maxHeartbeats 1000000
namespace K9
open PySem PySem.Spec PyProof.Rows L2
/-! the plain's hand -/
theorem lnDt_shaped {l : List Line} (h : ∀ x ∈ l, Wd x) : SeqAt.shaped (.tuple (l.map lnD)) = true :=
  shaped_of (by simp only [PyData.canLay0]; exact all_lay l (fun y hy => lnD_lay (h y hy))) (by
    have h := all_depth (n := 1) (D := lnD) lnD_depth l
    simp only [PyData.depth]
    omega)
section
variable {P : Program} {w : World} {K : PySem.W.Frag} {mg : Str → Option Value} {base : Heap}
def spHand (K : PySem.W.Frag) : Sp := fun vs H Q _ => ∃ (ro : Ro) (p : Addr) (a : PA) (n : Nat) (R : List Ky) (near : Nat → List Nat) (B : Nat → List Line) (q : Nat → Nat → List Line) (M : Nat → Nat) (nd : Nat) (u v : Nat) (l : Line) (rest : List Line),
  vs = [.ref p, nV u, nV v] ∧ PlainAt K ro H p a n R near B q M nd ∧ u < n ∧ v ∈ near u ∧ q u v = l :: rest ∧ (∀ x ∈ q u v, Wd x) ∧ (B v).length ≤ 1000 ∧ (∀ w ∈ near v, (q v w).length ≤ 1000) ∧ nd ≤ 1000 ∧
  ∀ la H', Chg ro H H' → H' la = some (.tup (lineV l)) → PlainAt K ro H' p a n R near (upB B v (B v ++ [l])) (handQ q u v l rest) M (nd + 1) → Q (.ref la) H'
theorem h_Plain_hand (T : Top K mg) : Has P w K mg base 7 (He.ma K (He.ga K "Plain") "hand") A_Plain_hand (spHand K) := by
  refine has_of T.f_Plain_hand sc_Plain_hand (fun _ _ _ _ _ _ us hl => match us, hl with | [_, _, _], _ => rfl) (fun vs H Q E h => ?_) (fun cdv A outer s H vs Q E hr h => ?_)
  · obtain ⟨ro, p, a, n, R, near, B, q, M, nd, u, v, l, rest, rfl, _⟩ := h
    rfl
  · obtain ⟨ro, p, a, n, R, near, B, q, M, nd, u, v, l, rest, rfl, pl, hu, hv, eq, wd, lB, lq, ln, k⟩ := h
    refine ⟨_, pss_cons (ps_if (pt_cmpR (op_eqD hr.units) (pe_useM (pv 0) T.cl_Plain T.m_Plain_under_way (h_Plain_under_way T) hr (pa_cons (pv 1) (pa_cons (pv 2) pa_nil))) (pe_tup pa_nil) (nomark _)) (pss_one ps_never) pss_nil)
      (pss_cons (ps_set (i := 3) sc_Plain_hand.nd rfl (Or.inl rfl) (pe_bm PySem.F.plainAttrs_list PySem.F.slot_list_pop PySem.F.type_list_pop mt_popAt (pe_dget (hu_of hr) (pe_fld (pv 0) rfl) (pe_tup (pa_cons (pv 1) (pa_cons (pv 2) pa_nil))) (fun _ _ => rfl)) (pa_cons pe_int pa_nil)))
      (pss_cons (ps_expr (pe_useM (pv 0) T.cl_Plain T.m_Plain_come (h_Plain_come T) (hr.mono (by decide)) (pa_cons (pv 2) (pa_cons (pv 3) (pa_cons (pv 1) pa_nil)))))
      (pss_cons (ps_expr (pe_bm PySem.F.plainAttrs_list PySem.F.slot_list_append PySem.F.type_list_append mt_append (pe_fld (pv 0) rfl) (pa_cons (pe_tup (pa_cons pe_str (pa_cons (pv 1) (pa_cons (pv 2) pa_nil)))) pa_nil)))
      (pss_one (ps_ret (pv 3)))))), ?_⟩
    have hvn := ((pl.nb u hu).2 v hv)
    refine ⟨_, rfl, p, _, _, rfl, pl.ins, rfl, _, rfl, _, rfl, ro, p, a, n, R, near, B, q, M, nd, u, v, rfl, pl, hu, hv, fun r xs H1 s1 hr1 px => ?_⟩
    refine ⟨(by decide : 0 ≤ sizeLine), fun e he => ?_⟩
    refine ⟨_, .tuple [], .tup (SqT.of (Tups.new he _ _ hr1)) (dpAll_of (fun v y h => LnAt.dp h) (lnsMono (Tups.new he) px)), .tup (SqT.of upd_same) .nil, lnDt_shaped wd, tpD_shaped [], false, ?_, ?_⟩
    · rw [eq]
      simp [PyData.eqv, PyData.eqvAll]
    refine iteF ?_
    have s2 := L2.Same.newr (o := .tup []) s1 he
    have pl2 := pl.same s2
    show tSeq _ _ _ _ (upd H1 e (.tup []))
    generalize upd H1 e (.tup []) = H2 at s2 pl2
    refine ⟨_, rfl, p, _, _, _, _, rfl, pl2.ins, T.cl_Plain, T.n_Plain_ways, rfl, _, rfl, _, rfl, (by decide : 2 ≤ sizeLine), fun e3 he3 => ?_⟩
    have s3 := L2.Same.newr (o := .tup [nV u, nV v]) s2 he3
    have pl3 := pl2.same (Same.new (o := .tup [nV u, nV v]) he3)
    have hk3 : upd H2 e3 (.tup [nV u, nV v]) e3 = some (.tup [nV u, nV v]) := upd_same
    show ∃ a_1 v_1, _ ∧ DGet (upd H2 e3 (.tup [nV u, nV v])) _ _ _ ∧ _
    generalize upd H2 e3 (.tup [nV u, nV v]) = H3 at s3 pl3 hk3
    obtain ⟨w1, w2, ys, w3, w4⟩ := pl3.way u v hu hv
    rw [eq] at w4
    obtain ⟨y, ys', rfl⟩ : ∃ y ys', ys = y :: ys' := by cases w4; exact ⟨_, _, rfl⟩
    obtain ⟨⟨la, rfl, hla⟩, w5⟩ : LnAt H3 y l ∧ Paired (LnAt H3) ys' rest := by cases w4 with | cons h t => exact ⟨h, t⟩
    refine ⟨a.wd, _, rfl, .inr ⟨a.kvs, kk u v, e3, .inl pl3.ways, rfl, hk3, w1.symm⟩, .inl ⟨rfl, _, SqL.of w3⟩, a.qa u v, _, 0, 0, .ref la, rfl, rfl, w3, by decide, by decide, by rw [List.length_cons]; exact seqIndex_of (by decide) (by omega), rfl, ?_⟩
    have c4 : Chg ro H (upd H3 (a.qa u v) (.lst ys')) := (Chg.same s3).trans (Chg.wr w3 (by rw [w2]; exact (by decide : 0 < 4)) (by rw [w2]; exact (by decide : 4 < 5)))
    have pl4 := pl3.putQ hu hv w3 w5
    have hla4 : upd H3 (a.qa u v) (.lst ys') la = some (.tup (lineV l)) := Tups.wr w3 (by intro _ z; cases z) _ _ hla
    show tSeq _ _ _ _ (upd H3 (a.qa u v) (.lst ys'))
    generalize upd H3 (a.qa u v) (.lst ys') = H4 at c4 pl4 hla4
    refine ⟨_, rfl, p, _, _, rfl, pl4.ins, rfl, _, rfl, _, rfl, _, rfl, ro, p, a, n, R, near, B, _, _, nd, v, la, _, some u, rfl, pl4, hvn.1, hla4, lB, fun w hw => ?_, fun H5 c5 pl5 => ?_⟩
    · rw [if_neg (fun z => hvn.2 z.1)]
      exact lq w hw
    refine ⟨_, rfl, p, _, _, _, _, rfl, pl5.ins, T.cl_Plain, T.n_Plain_deeds, rfl, ?_⟩
    obtain ⟨ds, hds, lds⟩ := pl5.deeds
    refine ⟨.inl ⟨rfl, _, SqL.of hds⟩, _, rfl, _, rfl, (by decide : 3 ≤ sizeLine), fun e6 he6 => ?_⟩
    have pl6 := pl5.same (Same.new (o := .tup [.str "hand", nV u, nV v]) he6)
    have c6 := (c4.trans c5).trans (Chg.same (Same.new (o := .tup [.str "hand", nV u, nV v]) he6))
    obtain ⟨ds', hds', lds'⟩ := pl6.deeds
    refine ⟨a.de, ds', _, rfl, rfl, hds', Nat.lt_of_le_of_lt (by omega : ds'.length ≤ 1000) (by decide), ?_⟩
    refine ⟨_, rfl, k la _ (c6.trans (Chg.wr hds' (by rw [pl6.rd]; decide) (by rw [pl6.rd]; decide))) ?_ ((pl6.putD (by rw [List.length_append, lds'] <;> rfl)).congr (fun _ _ => rfl) fun x y hx hy => ?_)⟩
    · exact Tups.wr hds' (by intro _ z; cases z) _ _ (Tups.new he6 _ _ (c5.tups _ _ hla4))
    · unfold comeQ handQ
      by_cases z1 : x = u ∧ y = v
      · rw [if_neg (fun z => hvn.2 (z.1.symm.trans z1.1)), if_pos z1]
        simp only [if_pos z1]
      · simp only [if_neg z1]
        by_cases z2 : x = v ∧ y ≠ u
        · rw [if_pos z2, if_pos ⟨z2.1, by simpa using z2.2⟩]
        · rw [if_neg z2, if_neg (fun z => z2 ⟨z.1, by simpa using z.2⟩)]
end
end K9
end

section
set_option Elab.async false
set_option linter.all false
set_option maxRecDepth 100000
set_option maxHeartbeats 1000000
namespace K9
open PySem PySem.Spec PyProof.Rows L2
/-! Plain.__init__: a range that is held, the roles of the new lists -/
section
variable {X : Cx} {tg e : Expr} {te : TE}
theorem cr_range1 : CallR X (.type "range") (fun vs H Q => ∃ j, vs = [V.int j] ∧ ∀ p, H p = none → Q (.ref p) (upd H p (.rng 0 j))) := by
  intro pins s σ H vs us Q I r h
  obtain ⟨j, rfl, q⟩ := h
  obtain ⟨u, rfl, ru⟩ := vals1 r
  obtain ⟨t, rfl⟩ := ru
  refine call_range_1 ⟨.ref s.heap.objs.size, upd H s.heap.objs.size (.rng 0 j), I.laid (t' := s.toks + 1 + 1) (fun b o z => Heap.get?_push_of_some _ z) (Nat.le_refl _) ⟨s.toks, t, s.toks + 1, Heap.get?_push_size _ rfl⟩, rfl, ?_⟩
  exact q _ (I.hok.fresh (Nat.le_refl _))
/-- over a range object that is held -/
def iRngV (te : TE) : TI := fun σ H R => te σ H fun x H1 => ∃ a hi, x = .ref a ∧ H1 a = some (.rng 0 hi) ∧ (-(2 ^ 62) ≤ hi ∧ hi < 2 ^ 62) ∧ R (Itr 0 hi.toNat) H1
theorem pi_rng (he : PE X e te) : PI X tg e (iRngV te) := by
  refine ⟨fun pins s σ H R I h => thn (he.run pins s σ H _ I h) fun v s1 hv => ?_⟩
  obtain ⟨x, H1, I1, r1, a, hi, rfl, ha, ⟨h1, h2⟩, q⟩ := hv
  obtain rfl : v = Value.ref a := r1
  obtain ⟨t, u, w, ho⟩ := I1.hok a _ ha
  refine wpAny_pyIter_range (show IsRange s1.heap a 0 hi 1 t u w from ho) (small_one (by decide) (by decide) h1 h2) ?_
  have sz : Builtin.Range.rangeSize 0 hi 1 = (hi.toNat : Int) := by
    rw [rangeSize_one]
    split <;> omega
  refine ⟨s1.heap.objs.size, [s1.heap.objs.size], _, _, H1, rfl, I1.kept (t' := s1.toks) fun b o z => Heap.get?_push_of_some _ z, turn_range _ 0 hi.toNat, ?_, ?_, q⟩
  · show IsRangeIter _ _ (0 + ((0 : Nat) : Int) * 1) ((hi.toNat : Int) - ((0 : Nat) : Int)) 1
    have z1 : (0 : Int) + ((0 : Nat) : Int) * 1 = 0 := by simp
    have z2 : (hi.toNat : Int) - ((0 : Nat) : Int) = Builtin.Range.rangeSize 0 hi 1 := by rw [sz]; simp
    rw [z1, z2]
    exact Heap.get?_push_size _ rfl
  · intro b hb
    rw [List.mem_singleton] at hb
    rw [hb]
    exact I1.fpOk (Nat.le_refl _) (I1.hok.fresh (Nat.le_refl _))
end
/-- a walk by turns, whatever the body asks -/
theorem by_turns {J : It} {n : Nat} {G : Hp → Prop} {Y : Nat → Hp → V → Hp → Prop} (w : Walk J n G Y) {Hs : Hp} {Qd : Hp → Prop} (Bd : (Hp → Prop) → V → Hp → Prop) (Pv : Nat → Hp → Prop) (h0 : Pv 0 Hs) (hG : ∀ i H, i ≤ n → Pv i H → G H)
    (hs : ∀ i x H H', i < n → Pv i H → Y i H x H' → Bd (Pv (i + 1)) x H') (hd : ∀ H, Pv n H → Qd H) :
    ∃ W : Nat → Nat → Hp → Prop, (∃ m, W 0 m Hs) ∧ ∀ i m H, W i m H → (J.stop i H ∧ Qd H) ∨ (J.go i H ∧ ∃ Nx : Hp → Prop, (∀ H', Nx H' → ∃ m', m' < m ∧ W (i + 1) m' H') ∧ ∀ x H', J.yld i H x H' → Bd Nx x H') := by
  refine ⟨fun i m H => m + i = n ∧ Pv i H, ⟨n, rfl, h0⟩, ?_⟩
  rintro i m H ⟨hm, p⟩
  have g := hG i H (by omega) p
  by_cases hlt : i < n
  · refine .inr ⟨w.goes i H hlt g, Pv (i + 1), fun H' p' => ⟨m - 1, by omega, by omega, p'⟩, fun x H' y => hs i x H H' hlt p (w.yields i H x H' hlt g y)⟩
  · obtain rfl : i = n := by omega
    exact .inl ⟨w.stops H g, hd H p⟩
/-! roles -/
def setR (ro : Ro) (p : Addr) (r : Nat × Nat × Nat) : Ro := fun x => if x = p then r else ro x
/-- what is not there has no role -/
def Lv (ro : Ro) (H : Hp) : Prop := ∀ b, H b = none → (ro b).1 = 0
/-- the roles of what H has stay -/
def ExtR (H : Hp) (ro ro' : Ro) : Prop := ∀ b o, H b = some o → ro' b = ro b
theorem ExtR.refl (H : Hp) (ro : Ro) : ExtR H ro ro := fun _ _ _ => rfl
theorem ExtR.trans {H H1 : Hp} {ro ro1 ro2 : Ro} (s : Same H H1) (a : ExtR H ro ro1) (b : ExtR H1 ro1 ro2) : ExtR H ro ro2 := fun c o e => (b c o (s c o e)).trans (a c o e)
theorem ExtR.set {H : Hp} {ro : Ro} {p : Addr} {r : Nat × Nat × Nat} (h : H p = none) : ExtR H ro (setR ro p r) := fun b o e => if_neg (ne_of_none e h)
theorem Lv.same {ro : Ro} {H H' : Hp} (l : Lv ro H) (s : Same H H') : Lv ro H' := fun b e => l b (s.free e)
theorem Lv.upd {ro : Ro} {H : Hp} {p : Addr} {o : HO} (l : Lv ro H) : Lv ro (upd H p o) := fun b e => by
  by_cases z : b = p
  · rw [z, upd_same] at e; cases e
  · rw [upd_ne z] at e; exact l b e
theorem Lv.set {ro : Ro} {H : Hp} {p : Addr} {o : HO} {r : Nat × Nat × Nat} (l : Lv ro H) : Lv (setR ro p r) (L2.upd H p o) := fun b e => by
  by_cases z : b = p
  · rw [z, upd_same] at e; cases e
  · rw [upd_ne z] at e
    unfold setR
    rw [if_neg z]
    exact l b e
/-- the roles of a list of lists -/
def listR (ro : Ro) (k : Nat) (as : List Addr) : Ro := fun x => if x ∈ as then (k, as.idxOf x, 0) else ro x
theorem listR_at {ro : Ro} {k : Nat} {as : List Addr} (nd : as.Nodup) {u : Nat} {b : Addr} (e : as[u]? = some b) : listR ro k as b = (k, u, 0) := by
  have hm := List.mem_of_getElem? e
  unfold listR
  rw [if_pos hm]
  have h1 : as.idxOf b < as.length := List.idxOf_lt_length_iff.mpr hm
  have h2 : as[as.idxOf b]? = some b := by rw [List.getElem?_eq_getElem h1, List.getElem_idxOf h1]
  rw [nd_ix nd h2 e]
theorem ExtR.list {H : Hp} {ro : Ro} {k : Nat} {as : List Addr} (h : ∀ b ∈ as, H b = none) : ExtR H ro (listR ro k as) := fun b o e => if_neg fun hm => by
  rw [h b hm] at e
  cases e
theorem Lv.list {ro : Ro} {H : Hp} {k : Nat} {as : List Addr} (l : Lv ro H) (h : ∀ b ∈ as, ∃ o, H b = some o) : Lv (listR ro k as) H := fun b e => by
  unfold listR
  rw [if_neg fun hm => by
    obtain ⟨o, z⟩ := h b hm
    rw [z] at e
    cases e]
  exact l b e
theorem PlainAt.reRo {K : PySem.W.Frag} {ro ro' : Ro} {H : Hp} {p : Addr} {a : PA} {n : Nat} {R : List Ky} {near : Nat → List Nat} {B : Nat → List Line} {q : Nat → Nat → List Line} {M : Nat → Nat} {nd : Nat}
    (h : PlainAt K ro H p a n R near B q M nd) (e : ExtR H ro ro') : PlainAt K ro' H p a n R near B q M nd := by
  obtain ⟨fB, r, pB⟩ := id h.books
  obtain ⟨ds, hd, ld⟩ := id h.deeds
  obtain ⟨dx, _, _, _, _, ht, _⟩ := id h.tree
  refine ⟨h.ins, h.tree, h.books, h.made, h.ways, fun u v hu hv => ?_, h.deeds, by rw [e _ _ h.ins]; exact h.rp, by rw [e _ _ ht]; exact h.rt, by rw [e _ _ r.top]; exact h.rb, by rw [e _ _ h.ways]; exact h.rw, by rw [e _ _ h.made]; exact h.rm, by rw [e _ _ hd]; exact h.rd, fun u b eb => ?_, h.nb⟩
  · obtain ⟨h1, h2, xs, h3, h4⟩ := h.way u v hu hv
    exact ⟨h1, by rw [e _ _ h3]; exact h2, xs, h3, h4⟩
  · rw [e _ _ (r.at_ u b eb)]
    exact h.rbs u b eb
theorem kk_inj {u v x y : Nat} (h : kk u v = kk x y) : u = x ∧ v = y := by
  injection h with h1 h2
  injection h2 with h2 _
  injection h1 with h1
  injection h2 with h2
  omega
end K9
end

section
set_option Elab.async false
set_option linter.all false
set_option maxRecDepth 100000
set_option maxHeartbeats 1000000
namespace K9
open PySem PySem.Spec PyProof.Rows L2
/-! Plain.__init__ -/
def Al (H H1 : Hp) : Prop := ∀ b, H1 b = none → H b = none
theorem Al.refl (H : Hp) : Al H H := fun _ e => e
theorem Al.trans {H H1 H2 : Hp} (a : Al H H1) (b : Al H1 H2) : Al H H2 := fun c e => a c (b c e)
theorem _root_.L2.Same.al {H H1 : Hp} (s : Same H H1) : Al H H1 := fun _ e => s.free e
theorem Al.up (H : Hp) (p : Addr) (o : HO) : Al H (upd H p o) := fun b e => by
  by_cases z : b = p
  · rw [z, upd_same] at e; cases e
  · rw [upd_ne z] at e; exact e
theorem Al.some {H H1 : Hp} (a : Al H H1) {b : Addr} {o : HO} (e : H b = some o) : ∃ o', H1 b = some o' := by
  cases h : H1 b with
  | none => rw [a b h] at e; cases e
  | some o' => exact ⟨o', rfl⟩
theorem Lv.al {ro : Ro} {H H1 : Hp} (l : Lv ro H) (a : Al H H1) : Lv ro H1 := fun b e => l b (a b e)
theorem ExtR.tr {H H1 : Hp} {ro ro1 ro2 : Ro} (s : Al H H1) (a : ExtR H ro ro1) (b : ExtR H1 ro1 ro2) : ExtR H ro ro2 := fun c o e => by
  obtain ⟨o', e'⟩ := s.some e
  exact (b c o' e').trans (a c o e)
theorem ExtR.mono {H H1 : Hp} {ro ro1 : Ro} (s : Al H H1) (b : ExtR H1 ro ro1) : ExtR H ro ro1 := fun c o e => by
  obtain ⟨o', e'⟩ := s.some e
  exact b c o' e'
theorem But.trans {t : Addr} {H H1 H2 : Hp} (a : But t H H1) (b : But t H1 H2) : But t H H2 := fun c o hc e => b c o hc (a c o hc e)
theorem But.of {t : Addr} {H H1 : Hp} (s : Same H H1) : But t H H1 := fun b o _ e => s b o e
theorem But.put1 {t : Addr} {H : Hp} {o : HO} : But t H (upd H t o) := (But.of (L2.Same.refl H)).put
theorem But.tups {t : Addr} {H H1 : Hp} (a : But t H H1) (h : ∀ xs, H t ≠ some (.tup xs)) : Tups H H1 := fun b xs e => a b _ (fun z => h xs (by rw [← z]; exact e)) e
/-- the dict while it is made: S is what has been laid -/
def DcI (H6 : Hp) (D : Addr) (ro2 : Ro) (S : Nat → Nat → Prop) (m : Nat) (H : Hp) : Prop := ∃ (ro : Ro) (kvs : List (List Key × V)) (qa : Nat → Nat → Addr), Same H6 H ∧ H D = some (.dT kvs) ∧ kvs.length ≤ m ∧ Lv ro H ∧ ExtR H6 ro2 ro ∧ (ro D).1 = 0 ∧
  ∀ x y, S x y → valV kvs (kk x y) = some (.ref (qa x y)) ∧ ro (qa x y) = (4, x, y) ∧ H (qa x y) = some (.lst [])
theorem DcI.mono {H6 : Hp} {D : Addr} {ro2 : Ro} {S S' : Nat → Nat → Prop} {m m' : Nat} {H : Hp} (d : DcI H6 D ro2 S m H) (h : ∀ x y, S' x y → S x y) (hm : m ≤ m') : DcI H6 D ro2 S' m' H := by
  obtain ⟨ro, kvs, qa, h1, h2, h3, h4, h5, h6, h7⟩ := d
  exact ⟨ro, kvs, qa, h1, h2, by omega, h4, h5, h6, fun x y q => h7 x y (h x y q)⟩
section
variable {P : Program} {w : World} {K : PySem.W.Frag} {mg : Str → Option Value} {base : Heap}
def spPlainInit (K : PySem.W.Frag) : Sp := fun vs H Q _ => ∃ (ro0 : Ro) (p dx t : Addr) (n : Nat) (R : List Ky) (near : Nat → List Nat), vs = [.ref p, .ref t] ∧ H p = some (.ins (He.ga K "Plain") dx []) ∧ TreeAt K H t n R near ∧ n ≤ 16 ∧
  (∀ u, u < n → (near u).Nodup ∧ ∀ v ∈ near u, v < n ∧ v ≠ u) ∧ Lv ro0 H ∧ (ro0 p).1 = 0 ∧ (ro0 t).1 = 0 ∧
  ∀ ro a H', But p H H' → Al H H' → ExtR H ro0 ro → Lv ro H' → PlainAt K ro H' p a n R near (fun _ => []) (fun _ _ => []) (fun _ => 0) 0 → Q .non H'
theorem h_Plain_init (T : Top K mg) : Has P w K mg base 1 (He.ma K (He.ga K "Plain") "__init__") A_Plain_init (spPlainInit K) := by
  refine has_of T.f_Plain_init sc_Plain_init (fun _ _ _ _ _ _ us hl => match us, hl with | [_, _], _ => rfl) (fun vs H Q E h => ?_) (fun cdv A outer s H vs Q E hr h => ?_)
  · obtain ⟨ro0, p, dx, t, n, R, near, rfl, _⟩ := h
    rfl
  · obtain ⟨ro0, p, dx, t, n, R, near, rfl, hp, tr, hn, nb, lv, rp, rt, k⟩ := h
    refine ⟨_, pss_cons (ps_set (i := 2) sc_Plain_init.nd rfl (Or.inl rfl) (pe_blty cr_range1 T.z_range (pa_cons (pe_fld (pv 1) rfl) pa_nil)))
      (pss_cons (ps_fld (pv 0) (pv 1) rfl)
      (pss_cons (ps_fld (pv 0) (pe_lc (own := [("_", 3)]) (g := gName 3) (tt := tYes) rfl sc_Plain_init.nd (pi_rng (pv 2)) (blkOk_by (N := N_Plain_init) (sc := defScope s_Plain_init) (by decide +kernel))
          (fun _ _ _ _ _ => pg_name (i := 3) sc_Plain_init.nd rfl (Or.inl rfl)) (fun _ _ _ _ _ => pts_nil) (fun _ _ _ _ _ => pe_lst pa_nil)) rfl)
      (pss_cons (ps_fld (pv 0) (pe_op op_rep (pe_lst (pa_cons pe_int pa_nil)) (pe_fld (pv 1) rfl)) rfl)
      (pss_cons (ps_fld (pv 0) (pe_dc2 (own := [("u", 4), ("v", 5)]) (vs1 := [5]) (g := gName 4) (g1 := gName 5) (hu_of hr) rfl sc_Plain_init.nd (pi_rng (pv 2)) (blkOk_by (N := N_Plain_init) (sc := defScope s_Plain_init) (by decide +kernel)) (by decide)
          (fun _ _ _ _ _ => pg_name (i := 4) sc_Plain_init.nd rfl (Or.inl rfl))
          (fun _ _ _ _ _ => (pi_tup (pe_ix (r := rIxT K) ix_tup (pe_fld (pv 1) rfl : PE _ _ (tFld K (tVar 1) "near")) (pv 4) (fun _ _ => rfl)) : PI _ _ _ (iTup K _)))
          (fun _ _ _ _ _ => pg_name (i := 5) sc_Plain_init.nd rfl (Or.inl rfl))
          (fun _ _ _ _ _ => pe_tup (pa_cons (pv 4) (pa_cons (pv 5) pa_nil))) (fun _ _ _ _ _ => pe_lst pa_nil)) rfl)
      (pss_one (ps_fld (pv 0) (pe_lst pa_nil) rfl)))))), ?_⟩
    obtain ⟨tx, r, nr, wy, xs, ht, hr, px, tn⟩ := id tr
    have htp : t ≠ p := fun z => by rw [z, hp] at ht; injection ht with ht; injection ht with _ _ ht; cases ht
    refine ⟨_, rfl, t, _, tx, _, _, rfl, ht, T.cl_Tree, T.n_Tree_houses, rfl, (n : Int), rfl, fun rg hrg => ?_⟩
    have s1 : Same H (upd H rg (.rng 0 n)) := Same.new hrg
    have hrg1 : upd H rg (.rng 0 n) rg = some (.rng 0 n) := upd_same
    show tSeq _ _ _ _ (upd H rg (.rng 0 n))
    generalize upd H rg (.rng 0 n) = H1 at s1 hrg1
    have hrgp : rg ≠ p := fun z => by rw [z, hp] at hrg; cases hrg
    refine ⟨_, rfl, _, rfl, p, _, dx, _, rfl, s1 _ _ hp, T.cl_Plain, T.n_Plain_tree, by simp, ?_⟩
    have b2 : But p H (upd H1 p (.ins (He.ga K "Plain") dx [("tree", .ref t)])) := (But.of s1).put
    have a2 : Al H (upd H1 p (.ins (He.ga K "Plain") dx [("tree", .ref t)])) := s1.al.trans (Al.up _ _ _)
    have hrg2 : upd H1 p (.ins (He.ga K "Plain") dx [("tree", .ref t)]) rg = some (.rng 0 n) := by rw [upd_ne hrgp]; exact hrg1
    have hp2 : upd H1 p (.ins (He.ga K "Plain") dx [("tree", .ref t)]) p = some (.ins (He.ga K "Plain") dx [("tree", .ref t)]) := upd_same
    show tSeq _ _ _ _ (upd H1 p (.ins (He.ga K "Plain") dx [("tree", .ref t)]))
    generalize upd H1 p (.ins (He.ga K "Plain") dx [("tree", .ref t)]) = H2 at b2 a2 hrg2 hp2
    refine ⟨_, rfl, rg, (n : Int), rfl, hrg2, ⟨by omega, by omega⟩, fun bk hbk => ?_⟩
    have en : ((n : Int)).toNat = n := by omega
    rw [en]
    refine rows_new hbk (by omega) (fun _ => rfl) fun H3 as s3 r3 fr => ?_
    have hp3 := s3 _ _ hp2
    have hbkp : bk ≠ p := fun z => by rw [z, hp2] at hbk; cases hbk
    have hasp : ∀ b ∈ as, b ≠ p := fun b hb z => by rw [← z, fr b hb] at hp2; cases hp2
    refine ⟨_, rfl, p, _, dx, _, rfl, hp3, T.cl_Plain, T.n_Plain_books, by simp, ?_⟩
    have b4 : But p H (upd H3 p (.ins (He.ga K "Plain") dx [("tree", .ref t), ("_books", .ref bk)])) := (b2.same s3).put
    have lv3 : Lv (listR ro0 3 as) H3 := ((lv.al a2).same s3).list fun b hb => by
      obtain ⟨j, hj, e⟩ := List.getElem_of_mem hb
      exact ⟨_, r3.at_ j b (by rw [List.getElem?_eq_getElem hj, e])⟩
    have ex3 : ExtR H ro0 (listR ro0 3 as) := (ExtR.list fr).mono a2
    have rbk3 : (listR ro0 3 as bk).1 = 0 := by
      unfold listR
      rw [if_neg r3.ne]
      exact (lv.al a2) bk hbk
    have ras3 : ∀ (u : Nat) (b : Addr), as[u]? = some b → listR ro0 3 as b = (3, u, 0) := fun u b e => listR_at r3.nd e
    have a4 : Al H (upd H3 p (.ins (He.ga K "Plain") dx [("tree", .ref t), ("_books", .ref bk)])) := (a2.trans s3.al).trans (Al.up _ _ _)
    have hrg4 : upd H3 p (.ins (He.ga K "Plain") dx [("tree", .ref t), ("_books", .ref bk)]) rg = some (.rng 0 n) := by rw [upd_ne hrgp]; exact s3 _ _ hrg2
    have hp4 : upd H3 p (.ins (He.ga K "Plain") dx [("tree", .ref t), ("_books", .ref bk)]) p = some (.ins (He.ga K "Plain") dx [("tree", .ref t), ("_books", .ref bk)]) := upd_same
    have r4 : Rows (upd H3 p (.ins (He.ga K "Plain") dx [("tree", .ref t), ("_books", .ref bk)])) bk as n (fun _ => []) := r3.keep fun b o hb e => by
      rw [upd_ne (by rcases hb with rfl | hb; exact hbkp; exact hasp b hb)]; exact e
    have lv4 : Lv (listR ro0 3 as) (upd H3 p (.ins (He.ga K "Plain") dx [("tree", .ref t), ("_books", .ref bk)])) := lv3.upd
    show tSeq _ _ _ _ (upd H3 p (.ins (He.ga K "Plain") dx [("tree", .ref t), ("_books", .ref bk)]))
    generalize upd H3 p (.ins (He.ga K "Plain") dx [("tree", .ref t), ("_books", .ref bk)]) = H4 at b4 a4 hrg4 hp4 r4 lv4
    generalize listR ro0 3 as = ro1 at lv4 ex3 rbk3 ras3
    clear lv3 r3 hp3 s3 fr
    refine ⟨(by decide : 1 ≤ sizeLine), fun z hz => ?_⟩
    have htz := b4 _ _ htp ht
    refine ⟨_, rfl, t, _, tx, _, _, rfl, Same.new hz _ _ htz, T.cl_Tree, T.n_Tree_houses, rfl, z, (n : Int), [.int 0], rfl, rfl, upd_same, by omega, by omega, by rw [en]; exact Nat.le_trans (by show 1 * n ≤ 16; omega) (by decide), fun md hmd => ?_⟩
    have s5 := (Same.new (o := .lst [.int 0]) hz).newr (o := .lst (List.replicate (n : Int).toNat [V.int 0]).flatten) hmd
    have e0 : (List.replicate (n : Int).toNat [V.int 0]).flatten = nsV ((List.range n).map fun _ => 0) := by
      rw [en]
      have : ∀ m : Nat, (List.replicate m [V.int 0]).flatten = nsV ((List.range m).map fun _ => 0) := fun m => by
        rw [List.map_const', List.length_range]
        induction m with
        | zero => rfl
        | succ m ih => rw [List.replicate_succ, List.flatten_cons, ih, List.replicate_succ] <;> rfl
      exact this n
    rw [e0] at s5 ⊢
    have hmd5 : upd (upd H4 z (.lst [.int 0])) md (.lst (nsV ((List.range n).map fun _ => 0))) md = some (.lst (nsV ((List.range n).map fun _ => 0))) := upd_same
    have hmd4 : H4 md = none := (Same.new (o := .lst [.int 0]) hz).free hmd
    have lv5 : Lv (setR ro1 md (1, 0, 0)) (upd (upd H4 z (.lst [.int 0])) md (.lst (nsV ((List.range n).map fun _ => 0)))) := Lv.set (lv4.upd)
    have ex5 : ExtR H4 ro1 (setR ro1 md (1, 0, 0)) := ExtR.set hmd4
    have rmd : setR ro1 md (1, 0, 0) md = (1, 0, 0) := if_pos rfl
    show ∃ x, _ ∧ ∃ a_1 C dx fs, _ ∧ (upd (upd H4 z (.lst [.int 0])) md (.lst (nsV ((List.range n).map fun _ => 0)))) _ = _ ∧ _
    generalize upd (upd H4 z (.lst [.int 0])) md (.lst (nsV ((List.range n).map fun _ => 0))) = H5 at s5 hmd5 lv5
    generalize setR ro1 md (1, 0, 0) = ro2 at lv5 ex5 rmd
    have hp5 := s5 _ _ hp4
    have hmdp : md ≠ p := fun z => by rw [z, hp4] at hmd4; cases hmd4
    refine ⟨_, rfl, p, _, dx, _, rfl, hp5, T.cl_Plain, T.n_Plain_made, by simp, ?_⟩
    have b6 : But p H (upd H5 p (.ins (He.ga K "Plain") dx [("tree", .ref t), ("_books", .ref bk), ("_made", .ref md)])) := (b4.same s5).put
    have a6 : Al H (upd H5 p (.ins (He.ga K "Plain") dx [("tree", .ref t), ("_books", .ref bk), ("_made", .ref md)])) := (a4.trans s5.al).trans (Al.up _ _ _)
    have a46 : Al H4 (upd H5 p (.ins (He.ga K "Plain") dx [("tree", .ref t), ("_books", .ref bk), ("_made", .ref md)])) := s5.al.trans (Al.up _ _ _)
    have b46 : But p H4 (upd H5 p (.ins (He.ga K "Plain") dx [("tree", .ref t), ("_books", .ref bk), ("_made", .ref md)])) := (But.of s5).put
    have hmd6 : upd H5 p (.ins (He.ga K "Plain") dx [("tree", .ref t), ("_books", .ref bk), ("_made", .ref md)]) md = some (.lst (nsV ((List.range n).map fun _ => 0))) := by rw [upd_ne hmdp]; exact hmd5
    have hp6 : upd H5 p (.ins (He.ga K "Plain") dx [("tree", .ref t), ("_books", .ref bk), ("_made", .ref md)]) p = some (.ins (He.ga K "Plain") dx [("tree", .ref t), ("_books", .ref bk), ("_made", .ref md)]) := upd_same
    have lv6 : Lv ro2 (upd H5 p (.ins (He.ga K "Plain") dx [("tree", .ref t), ("_books", .ref bk), ("_made", .ref md)])) := lv5.upd
    show tSeq _ _ _ _ (upd H5 p (.ins (He.ga K "Plain") dx [("tree", .ref t), ("_books", .ref bk), ("_made", .ref md)]))
    generalize upd H5 p (.ins (He.ga K "Plain") dx [("tree", .ref t), ("_books", .ref bk), ("_made", .ref md)]) = H6 at b6 a6 a46 b46 hmd6 hp6 lv6
    refine ⟨_, rfl, rg, (n : Int), rfl, b46 _ _ hrgp hrg4, ⟨by omega, by omega⟩, fun D hD => ?_⟩
    rw [en]
    obtain ⟨zs, hz6, lz, az⟩ := tn
    have hnrp : nr ≠ p := fun z => by rw [z, hp] at hz6; cases hz6
    have lnear : ∀ u, u < n → (near u).length ≤ 16 := fun u hu => Nat.le_trans (nodup_len (nb u hu).1 fun x hx => ((nb u hu).2 x hx).1) hn
    refine by_turns (walk_nats n) (fun Nx x H' => gName 4 x _ H' fun σ2 H2 => _ = _ ∧ iTup K _ σ2 H2 _) (fun i H' => DcI H6 D ro2 (fun x y => x < i ∧ y ∈ near x) (16 * i) H') ?_ (fun _ _ _ _ => trivial) ?_ ?_
    · exact ⟨ro2, [], fun _ _ => 0, Same.new hD, upd_same, Nat.zero_le _, lv6.upd, ExtR.refl _ _, lv6 D hD, fun x y q => absurd q.1 (Nat.not_lt_zero x)⟩
    · rintro i x H7 H7' hi d7 ⟨rfl, ex⟩
      have ei : x = nV i := by
        rw [List.getElem?_map, List.getElem?_range hi] at ex
        exact (Option.some.inj ex).symm
      subst ei
      refine ⟨rfl, ?_⟩
      obtain ⟨nb1, enb, hnb⟩ := az i hi
      have s67 : Same H6 H7' := by obtain ⟨_, _, _, q, _⟩ := d7; exact q
      have hnbp : nb1 ≠ p := fun z => by rw [z, hp] at hnb; cases hnb
      refine ⟨_, rfl, t, _, tx, _, _, rfl, s67 _ _ (b6 _ _ htp ht), T.cl_Tree, T.n_Tree_near, rfl, _, rfl, nr, zs, _, _, rfl, rfl, SqT.of (s67 _ _ (b6 _ _ hnrp hz6)), atI_nat enb, nb1, rfl, ⟨_, SqT.of (s67 _ _ (b6 _ _ hnbp hnb))⟩, ?_⟩
      have wt : Walk (Itt K nb1) (nsV (near i)).length (fun H => SqT K H nb1 (nsV (near i))) (YAt (nsV (near i))) := walk_tup
      refine by_turns wt (fun Nx x H' => gName 5 x _ H' fun σ3 H4 => _ = _ ∧ _) (fun j H' => DcI H6 D ro2 (fun x y => (x < i ∧ y ∈ near x) ∨ (x = i ∧ y ∈ (near i).take j)) (16 * i + j) H') (d7.mono (fun x y q => q.elim id fun z => by simp at z) (by omega)) (fun j H' _ ⟨_, _, _, q, _⟩ => SqT.of (q _ _ (b6 _ _ hnbp hnb))) ?_ ?_
      · rintro j x H8 H8' hj d8 ⟨rfl, ex⟩
        obtain ⟨o, eo, rfl⟩ : ∃ o, (near i)[j]? = some o ∧ x = nV o := by
          rw [List.getElem?_map] at ex
          cases e : (near i)[j]? with
          | none => rw [e] at ex; cases ex
          | some o => rw [e] at ex; exact ⟨o, rfl, (Option.some.inj ex).symm⟩
        have lni := lnear i hi
        have hj' : j < (near i).length := (List.getElem?_eq_some_iff.mp eo).1
        refine ⟨rfl, _, rfl, _, rfl, (by decide : 2 ≤ sizeLine), fun e he => ⟨(by decide : 0 ≤ sizeLine), fun q hq => ?_⟩⟩
        obtain ⟨ro, kvs, qa, g1, g2, g3, g4, g5, g6, g7⟩ := d8
        have he8 : upd H8' e (.tup [nV i, nV o]) e = some (.tup [nV i, nV o]) := upd_same
        have g1' := g1.newr (o := .tup [nV i, nV o]) he
        have s8 : Same H8' (upd H8' e (.tup [nV i, nV o])) := Same.new he
        have g4' : Lv ro (upd H8' e (.tup [nV i, nV o])) := g4.upd
        have hD8 := s8 _ _ g2
        have hDq : D ≠ q := ne_of_none hD8 hq
        refine ⟨kvs, kk i o, e, rfl, Same.new hq _ _ he8, Same.new hq _ _ hD8, Nat.lt_of_le_of_lt (by omega : kvs.length ≤ 1000) (by decide), ?_⟩
        refine ⟨setR ro q (4, i, o), putK kvs (kk i o) (.ref q), fun x y => if x = i ∧ y = o then q else qa x y, (g1'.newr hq).wr hD, upd_same, ?_, (Lv.set g4').upd, ExtR.tr g1'.al g5 (ExtR.set hq), ?_, fun x y sxy => ?_⟩
        · have := length_putK kvs (kk i o) (.ref q)
          omega
        · unfold setR
          rw [if_neg hDq]
          exact g6
        · rw [valV_put]
          dsimp only
          by_cases z : x = i ∧ y = o
          · obtain ⟨rfl, rfl⟩ := z
            refine ⟨by rw [if_pos rfl, if_pos ⟨rfl, rfl⟩], by rw [if_pos ⟨rfl, rfl⟩]; exact if_pos rfl, ?_⟩
            rw [if_pos ⟨rfl, rfl⟩, upd_ne (Ne.symm hDq), upd_same]
          · rw [if_neg z]
            have sx : (x < i ∧ y ∈ near x) ∨ (x = i ∧ y ∈ (near i).take j) := by
              rcases sxy with w | ⟨w1, w2⟩
              · exact .inl w
              · rw [List.take_add_one, eo, List.mem_append] at w2
                rcases w2 with w2 | w2
                · exact .inr ⟨w1, w2⟩
                · simp at w2
                  exact (z ⟨w1, w2⟩).elim
            obtain ⟨m1, m2, m3⟩ := g7 x y sx
            have m4 := s8 _ _ m3
            have hqq : qa x y ≠ q := ne_of_none m4 hq
            have hqD : qa x y ≠ D := fun w => by rw [w, g2] at m3; cases m3
            refine ⟨by rw [if_neg (fun w => z (kk_inj w))]; exact m1, ?_, ?_⟩
            · unfold setR
              rw [if_neg hqq]
              exact m2
            · rw [upd_ne hqD, upd_ne hqq]
              exact m4
      · intro H8 d8
        refine d8.mono (fun x y q => ?_) (by have := lnear i hi; rw [List.length_map]; omega)
        rw [List.length_map, List.take_length]
        rcases Nat.lt_succ_iff_lt_or_eq.mp q.1 with w | w
        · exact .inl ⟨w, q.2⟩
        · subst w
          exact .inr ⟨rfl, q.2⟩
    · rintro H7 ⟨ro3, kvs, qa, g1, g2, g3, g4, g5, g6, g7⟩
      have hp7 := g1 _ _ hp6
      have hDp : D ≠ p := fun z => by rw [z, hp7] at g2; cases g2
      refine ⟨_, rfl, p, _, dx, _, rfl, hp7, T.cl_Plain, T.n_Plain_ways, by simp, ?_⟩
      have b68 : But p H6 (upd H7 p (.ins (He.ga K "Plain") dx [("tree", .ref t), ("_books", .ref bk), ("_made", .ref md), ("_ways", .ref D)])) := (But.of g1).put
      have a78 : Al H7 (upd H7 p (.ins (He.ga K "Plain") dx [("tree", .ref t), ("_books", .ref bk), ("_made", .ref md), ("_ways", .ref D)])) := Al.up _ _ _
      have b78 : But p H7 (upd H7 p (.ins (He.ga K "Plain") dx [("tree", .ref t), ("_books", .ref bk), ("_made", .ref md), ("_ways", .ref D)])) := But.put1
      have hp8 : upd H7 p (.ins (He.ga K "Plain") dx [("tree", .ref t), ("_books", .ref bk), ("_made", .ref md), ("_ways", .ref D)]) p = some (.ins (He.ga K "Plain") dx [("tree", .ref t), ("_books", .ref bk), ("_made", .ref md), ("_ways", .ref D)]) := upd_same
      have lv8 : Lv ro3 (upd H7 p (.ins (He.ga K "Plain") dx [("tree", .ref t), ("_books", .ref bk), ("_made", .ref md), ("_ways", .ref D)])) := g4.upd
      show Ends.nx _ _ (upd H7 p (.ins (He.ga K "Plain") dx [("tree", .ref t), ("_books", .ref bk), ("_made", .ref md), ("_ways", .ref D)]))
      generalize upd H7 p (.ins (He.ga K "Plain") dx [("tree", .ref t), ("_books", .ref bk), ("_made", .ref md), ("_ways", .ref D)]) = H8 at b68 a78 b78 hp8 lv8
      refine ⟨(by decide : 0 ≤ sizeLine), fun de hde => ?_⟩
      have hdep : de ≠ p := fun z => by rw [z, hp8] at hde; cases hde
      have s9 : Same H8 (upd H8 de (.lst [])) := Same.new hde
      refine ⟨_, rfl, p, _, dx, _, rfl, s9 _ _ hp8, T.cl_Plain, T.n_Plain_deeds, by simp, ?_⟩
      have b10 : But p H (upd (upd H8 de (.lst [])) p (.ins (He.ga K "Plain") dx [("tree", .ref t), ("_books", .ref bk), ("_made", .ref md), ("_ways", .ref D), ("_deeds", .ref de)])) := ((b6.trans b68).same s9).put
      have b4a : But p H4 (upd (upd H8 de (.lst [])) p (.ins (He.ga K "Plain") dx [("tree", .ref t), ("_books", .ref bk), ("_made", .ref md), ("_ways", .ref D), ("_deeds", .ref de)])) := ((b46.trans b68).same s9).put
      have b6a : But p H6 (upd (upd H8 de (.lst [])) p (.ins (He.ga K "Plain") dx [("tree", .ref t), ("_books", .ref bk), ("_made", .ref md), ("_ways", .ref D), ("_deeds", .ref de)])) := (b68.same s9).put
      have b7a : But p H7 (upd (upd H8 de (.lst [])) p (.ins (He.ga K "Plain") dx [("tree", .ref t), ("_books", .ref bk), ("_made", .ref md), ("_ways", .ref D), ("_deeds", .ref de)])) := (b78.same s9).put
      have hdea : upd (upd H8 de (.lst [])) p (.ins (He.ga K "Plain") dx [("tree", .ref t), ("_books", .ref bk), ("_made", .ref md), ("_ways", .ref D), ("_deeds", .ref de)]) de = some (.lst []) := by rw [upd_ne hdep, upd_same]
      have hpa : upd (upd H8 de (.lst [])) p (.ins (He.ga K "Plain") dx [("tree", .ref t), ("_books", .ref bk), ("_made", .ref md), ("_ways", .ref D), ("_deeds", .ref de)]) p = some (.ins (He.ga K "Plain") dx [("tree", .ref t), ("_books", .ref bk), ("_made", .ref md), ("_ways", .ref D), ("_deeds", .ref de)]) := upd_same
      have ex8 : ExtR H8 ro3 (setR ro3 de (2, 0, 0)) := ExtR.set hde
      have a68 : Al H6 H8 := g1.al.trans a78
      have ex6 : ExtR H6 ro2 (setR ro3 de (2, 0, 0)) := ExtR.tr a68 g5 ex8
      have ex4 : ExtR H4 ro1 (setR ro3 de (2, 0, 0)) := ExtR.tr a46 ex5 ex6
      have exF : ExtR H ro0 (setR ro3 de (2, 0, 0)) := ExtR.tr a4 ex3 ex4
      have hqp : ∀ x y, x < n → y ∈ near x → qa x y ≠ p := fun x y hx hy z => by
        have := (g7 x y ⟨hx, hy⟩).2.2
        rw [z, hp7] at this
        cases this
      have hbkas : ∀ b, b = bk ∨ b ∈ as → b ≠ p := fun b hb => hb.elim (fun e => by rw [e]; exact hbkp) fun e => hasp b e
      refine k (setR ro3 de (2, 0, 0)) ⟨t, dx, bk, md, D, de, as, kvs, qa⟩ _ b10 (((a6.trans a68).trans s9.al).trans (Al.up _ _ _)) exF ((Lv.set lv8).upd) ⟨hpa, tr.mono (b10.tups (by intro ys; rw [hp]; intro z; cases z)) ((b10 _ _ htp ht).trans ht.symm), ⟨fun _ => [], r4.keep fun b o hb e => b4a b o (hbkas b hb) e, fun u hu => .nil⟩,
        b6a _ _ hmdp hmd6, b7a _ _ hDp g2, fun x y hx hy => ?_, ⟨[], hdea, rfl⟩, by rw [exF _ _ hp]; exact rp, by rw [exF _ _ ht]; exact rt, by rw [ex4 _ _ r4.top]; exact rbk3, ?_, by rw [ex6 _ _ hmd6]; exact rmd, if_pos rfl, fun u b e => by rw [ex4 _ _ (r4.at_ u b e)]; exact ras3 u b e, nb⟩
      · obtain ⟨m1, m2, m3⟩ := g7 x y ⟨hx, hy⟩
        have m4 := b78 _ _ (hqp x y hx hy) m3
        exact ⟨m1, by rw [ex8 _ _ m4]; exact m2, [], b7a _ _ (hqp x y hx hy) m3, .nil⟩
      · have hD8 := b78 _ _ hDp g2
        show (setR ro3 de (2, 0, 0) D).1 = 0
        rw [ex8 _ _ hD8]
        exact g6
end
end K9
end

section
set_option Elab.async false
set_option linter.all false
set_option maxRecDepth 100000
set_option maxHeartbeats 1000000
namespace K9
open PySem PySem.Spec PyProof.Rows L2
/-! the law's box and its draws -/
theorem cutV_take (xs : List V) (k : Nat) : cutV xs none (some (k : Int)) = xs.take k := by
  unfold cutV
  rw [HT.sIx_none, HT.sIx_nat, List.drop_zero, Nat.sub_zero]
  by_cases h : k ≤ xs.length
  · rw [Nat.min_eq_left h]
  · rw [Nat.min_eq_right (by omega), List.take_length, List.take_of_length_le (by omega)]
/-- the box: a number, its size, the count of draws -/
def BoxAt (H : Hp) (b : Addr) (c : Nat) : Prop := ∃ (g m cc : Int) (k : Bool), H b = some (.lst [.int g, .bl k, .int m, .int cc]) ∧ 0 ≤ g ∧ 0 ≤ m ∧ m < 2147483629 ∧ 0 ≤ cc ∧ cc ≤ c
theorem BoxAt.up {H : Hp} {b : Addr} {c c' : Nat} (h : BoxAt H b c) (hc : c ≤ c') : BoxAt H b c' := by
  obtain ⟨g, m, cc, k, h1, h2, h3, h4, h5, h6⟩ := h
  exact ⟨g, m, cc, k, h1, h2, h3, h4, h5, by omega⟩
theorem BoxAt.same {H H' : Hp} {b : Addr} {c : Nat} (h : BoxAt H b c) (s : Same H H') : BoxAt H' b c := by
  obtain ⟨g, m, cc, k, h1, h2⟩ := h
  exact ⟨g, m, cc, k, s _ _ h1, h2⟩
theorem BoxAt.of {H H' : Hp} {b : Addr} {c : Nat} (h : BoxAt H b c) (s : H' b = H b) : BoxAt H' b c := by
  obtain ⟨g, m, cc, k, h1, h2⟩ := h
  exact ⟨g, m, cc, k, by rw [s]; exact h1, h2⟩
section
variable {P : Program} {w : World} {K : PySem.W.Frag} {mg : Str → Option Value} {base : Heap}
def spLcell (K : PySem.W.Frag) : Sp := fun vs H Q _ => ∃ (a : Addr) (ns : List Int) (k : Nat), vs = [.ref a, nV k] ∧ SqL K H a (ns.map V.int) ∧ k ≤ 1000 ∧ ∀ g H', Same H H' → Q (.int g) H'
theorem h_l_cell (T : Top K mg) : Has P w K mg base 1 (He.ga K "_law_cell") A_l_cell (spLcell K) := by
  refine has_of T.f_l_cell sc_l_cell (fun _ _ _ _ _ _ us hl => match us, hl with | [_, _], _ => rfl) (fun vs H Q E h => ?_) (fun cdv A outer s H vs Q E hr h => ?_)
  · obtain ⟨a, ns, k, rfl, _⟩ := h
    rfl
  · obtain ⟨a, ns, k, rfl, ha, hk, q⟩ := h
    refine ⟨_, pss_one (ps_ret (pe_ifExp (pt_cmpR op_lt (pv 1) (pe_blt call_len_seq T.z_len (pa_cons (pv 0) pa_nil)) (nomark _)) (pe_ix ix_list (pv 0) (pv 1) (fun _ _ => rfl))
      (pe_op op_add (pe_op op_mul pe_int (pv 1)) (pe_op op_mod (pe_blt (cr_sum rfl) T.z_sum (pa_cons (pe_slice sl_list (pv 0) po_none (po_some pe_int)) pa_nil)) pe_int)))), ?_⟩
    refine ⟨_, rfl, _, rfl, a, _, rfl, .inl ha, _, _, rfl, rfl, _, rfl, ?_⟩
    rw [List.length_map]
    by_cases hj : k < ns.length
    · rw [decide_eq_true (show ((k : Nat) : Int) < ((ns.length : Nat) : Int) by omega)]
      refine iteT ?_
      exact ⟨_, rfl, _, rfl, a, _, _, _, rfl, rfl, ha, atI_nat (show (ns.map V.int)[k]? = some (V.int (ns[k]'hj)) by rw [List.getElem?_map, List.getElem?_eq_getElem hj] <;> rfl), q _ H (L2.Same.refl _)⟩
    · rw [decide_eq_false (show ¬ ((k : Nat) : Int) < ((ns.length : Nat) : Int) by omega)]
      refine iteF ?_
      refine ⟨_, rfl, _, _, rfl, rfl, .inl (by decide), ?_⟩
      refine ⟨_, rfl, _, rfl, a, _, rfl, ha, fun p hp => ?_⟩
      refine ⟨p, ns.take 1, rfl, ?_, ?_⟩
      · rw [show (1 : Int) = ((1 : Nat) : Int) from rfl, cutV_take, ← List.map_take]
        exact SqL.of upd_same
      · exact ⟨_, _, rfl, rfl, (by decide : (0 : Int) < 1000033), _, _, rfl, rfl, q _ _ (Same.new hp)⟩
def spLbox : Sp := fun vs H Q _ => ∃ (g : Int), vs = [.int g] ∧ ∀ b, H b = none → ∀ H', H' b ≠ none → Same H H' → BoxAt H' b 0 → Q (.ref b) H'
theorem h_l_box (T : Top K mg) : Has P w K mg base 1 (He.ga K "_law_box") A_l_box spLbox := by
  refine has_of T.f_l_box sc_l_box (fun _ _ _ _ _ _ us hl => match us, hl with | [_], _ => rfl) (fun vs H Q E h => ?_) (fun cdv A outer s H vs Q E hr h => ?_)
  · obtain ⟨g, rfl, _⟩ := h
    rfl
  · obtain ⟨g, rfl, q⟩ := h
    refine ⟨_, pss_one (ps_ret (pe_lst (pa_cons (pe_blt call_abs T.z_abs (pa_cons (pv 0) pa_nil)) (pa_cons (pe_cmpR op_ge (pe_blt call_abs T.z_abs (pa_cons (pv 0) pa_nil)) (pe_op op_pow pe_int pe_int) (nomark _))
      (pa_cons (pe_op op_mod (pe_blty call_int1 T.z_int (pa_cons (pe_blt call_abs T.z_abs (pa_cons (pv 0) pa_nil)) pa_nil)) pe_int) (pa_cons pe_int pa_nil)))))), ?_⟩
    refine ⟨_, rfl, _, rfl, ?_⟩
    refine ⟨_, rfl, _, rfl, _, _, rfl, rfl, ⟨by decide, by decide, by decide⟩, _, _, rfl, rfl, ?_⟩
    refine ⟨_, rfl, _, rfl, .inl ⟨_, rfl, _, _, rfl, rfl, (by decide : (0 : Int) < 2147483629), ?_⟩⟩
    refine ⟨(by decide : 4 ≤ sizeLine), fun p hp => ?_⟩
    refine q p hp _ (by rw [upd_same]; simp) (Same.new hp) ⟨_, _, _, _, upd_same, ?_, ?_, ?_, by decide, by decide⟩
    · split <;> omega
    · exact Int.emod_nonneg _ (by decide)
    · exact Int.emod_lt_of_pos _ (by decide)
def spLtake : Sp := fun vs H Q _ => ∃ (b : Addr) (m c : Nat), vs = [.ref b, nV m] ∧ BoxAt H b c ∧ c ≤ 1000000 ∧ 0 < m ∧ m < 1000000 ∧ ∀ d H', d < m → But b H H' → Al H H' → BoxAt H' b (c + 1) → Q (nV d) H'
theorem h_l_take (T : Top K mg) : Has P w K mg base 1 (He.ga K "_law_take") A_l_take spLtake := by
  refine has_of T.f_l_take sc_l_take (fun _ _ _ _ _ _ us hl => match us, hl with | [_, _], _ => rfl) (fun vs H Q E h => ?_) (fun cdv A outer s H vs Q E hr h => ?_)
  · obtain ⟨b, m, c, rfl, _⟩ := h
    rfl
  · obtain ⟨b, m, c, rfl, ⟨g, mm, cc, k, hb, g0, m0, m1, c0, c1⟩, hc, hm0, hm1, q⟩ := h
    refine ⟨_, pss_cons (ps_if (PW.pt (pw_and (pt_val (pe_ix ix_list (pv 0) pe_int (fun _ _ => rfl))) (pw_and1 (pt_cmpR op_gt (pe_ix ix_list (pv 0) pe_int (fun _ _ => rfl)) pe_int (nomark _)))))
        (pss_cons (ps_set (i := 2) sc_l_take.nd rfl (Or.inl rfl) (pe_op op_mod (pe_blty call_int1 T.z_int (pa_cons (pe_ix ix_list (pv 0) pe_int (fun _ _ => rfl)) pa_nil)) (pv 1)))
        (pss_cons (ps_asg (pe_op op_fdiv (pe_ix ix_list (pv 0) pe_int (fun _ _ => rfl)) (pv 1)) (pg_sub (pv 0) pe_int set_list))
        (pss_one (ps_ret (pv 2))))) pss_nil)
      (pss_cons (ps_asg (pe_op op_add (pe_ix ix_list (pv 0) pe_int (fun _ _ => rfl)) pe_int) (pg_sub (pv 0) pe_int set_list))
      (pss_cons (ps_set (i := 3) sc_l_take.nd rfl (Or.inl rfl) (pe_op op_mod (pe_blty call_int1 T.z_int (pa_cons (pe_op op_pow (pe_op op_add (pe_op op_add (pe_ix ix_list (pv 0) pe_int (fun _ _ => rfl)) (pe_op op_mul pe_int (pe_ix ix_list (pv 0) pe_int (fun _ _ => rfl)))) pe_int) pe_int) pa_nil)) pe_int))
      (pss_one (ps_ret (pe_op op_mod (pe_op op_fdiv (pe_op op_mod (pe_blty call_int1 T.z_int (pa_cons (pe_op op_pow (pe_op op_add (pe_op op_mul (pv 3) pe_int) (pe_op op_mul pe_int (pe_ix ix_list (pv 0) pe_int (fun _ _ => rfl)))) pe_int) pa_nil)) pe_int) pe_int) (pv 1)))))), ?_⟩
    have x0 : ∀ (g1 m1 c1 : Int) (k1 : Bool), atI [V.int g1, V.bl k1, V.int m1, V.int c1] 0 = some (.int g1) := fun _ _ _ _ => rfl
    have x1 : ∀ (g1 m1 c1 : Int) (k1 : Bool), atI [V.int g1, V.bl k1, V.int m1, V.int c1] 1 = some (.bl k1) := fun _ _ _ _ => rfl
    have x2 : ∀ (g1 m1 c1 : Int) (k1 : Bool), atI [V.int g1, V.bl k1, V.int m1, V.int c1] 2 = some (.int m1) := fun _ _ _ _ => rfl
    have x3 : ∀ (g1 m1 c1 : Int) (k1 : Bool), atI [V.int g1, V.bl k1, V.int m1, V.int c1] 3 = some (.int c1) := fun _ _ _ _ => rfl
    have fin : ∀ x : Int, ∃ d : Nat, d < m ∧ V.int (x % (m : Int)) = nV d := fun x => by
      have h1 : 0 ≤ x % (m : Int) := Int.emod_nonneg x (by omega)
      have h2 : x % (m : Int) < (m : Int) := Int.emod_lt_of_pos x (by omega)
      exact ⟨(x % (m : Int)).toNat, by omega, congrArg V.int (by omega)⟩
    refine ⟨_, rfl, b, _, _, _, rfl, rfl, SqL.of hb, x1 _ _ _ _, k, rfl, ?_⟩
    have rest : ∀ σ : L2.St, σ = L2.start N_l_take [.ref b, nV m] → tSeq (tAsg (tOp (rI0 fun i j => .int (i + j)) (tOp (rIxL K) (tVar 0) (tC (.int 3))) (tC (.int 1))) (gSub (tVar 0) (tC (.int 3)) rSetL)) (tSeq (tAsg (tOp (rI (fun _ j => 0 < j) fun i j => .int (i % j)) (tCB (fun xs H Q => (∃ i, xs = [V.int i] ∧ Q (.int i) H) ∨ ∃ k, xs = [V.bl k] ∧ Q (.int (if k then 1 else 0)) H) (tCons (tOp (rI CPow fun i j => .int (i ^ j.toNat)) (tOp (rI0 fun i j => .int (i + j)) (tOp (rI0 fun i j => .int (i + j)) (tOp (rIxL K) (tVar 0) (tC (.int 2))) (tOp (rI CMul fun i j => .int (i * j)) (tC (.int 15485959)) (tOp (rIxL K) (tVar 0) (tC (.int 3))))) (tC (.int 179424787))) (tC (.int 5))) tNil)) (tC (.int 2147483647))) (gName 3))
        (tRet (tOp (rI (fun _ j => 0 < j) fun i j => .int (i % j)) (tOp (rI CDiv fun i j => .int (i / j)) (tOp (rI (fun _ j => 0 < j) fun i j => .int (i % j)) (tCB (fun xs H Q => (∃ i, xs = [V.int i] ∧ Q (.int i) H) ∨ ∃ k, xs = [V.bl k] ∧ Q (.int (if k then 1 else 0)) H) (tCons (tOp (rI CPow fun i j => .int (i ^ j.toNat)) (tOp (rI0 fun i j => .int (i + j)) (tOp (rI CMul fun i j => .int (i * j)) (tVar 3) (tC (.int 48271))) (tOp (rI CMul fun i j => .int (i * j)) (tC (.int 104789)) (tOp (rIxL K) (tVar 0) (tC (.int 3))))) (tC (.int 3))) tNil)) (tC (.int 2147483587))) (tC (.int 64))) (tVar 1)))) (endOf Q) σ H := by
      rintro σ rfl
      refine ⟨_, rfl, b, _, _, _, rfl, rfl, SqL.of hb, x3 _ _ _ _, _, _, rfl, rfl, _, rfl, b, _, _, 3, rfl, rfl, hb, rfl, ?_⟩
      have h1 : upd H b (.lst [.int g, .bl k, .int mm, .int (cc + 1)]) b = some (.lst [.int g, .bl k, .int mm, .int (cc + 1)]) := upd_same
      have bt : But b H (upd H b (.lst [.int g, .bl k, .int mm, .int (cc + 1)])) := But.put1
      have al : Al H (upd H b (.lst [.int g, .bl k, .int mm, .int (cc + 1)])) := Al.up _ _ _
      show tSeq _ _ _ _ (upd H b (.lst [.int g, .bl k, .int mm, .int (cc + 1)]))
      generalize upd H b (.lst [.int g, .bl k, .int mm, .int (cc + 1)]) = H1 at h1 bt al
      refine ⟨_, rfl, b, _, _, _, rfl, rfl, SqL.of h1, x2 _ _ _ _, _, rfl, b, _, _, _, rfl, rfl, SqL.of h1, x3 _ _ _ _, _, _, rfl, rfl, .inl (by decide), _, _, rfl, rfl, _, _, rfl, rfl, _, _, rfl, rfl, ⟨by decide, by decide, by omega⟩, .inl ⟨_, rfl, _, _, rfl, rfl, (by decide : (0 : Int) < 2147483647), ?_⟩⟩
      have v0 := Int.emod_nonneg ((mm + 15485959 * (cc + 1) + 179424787) ^ (5 : Int).toNat) (by decide : (2147483647 : Int) ≠ 0)
      have v1 := Int.emod_lt_of_pos ((mm + 15485959 * (cc + 1) + 179424787) ^ (5 : Int).toNat) (by decide : (0 : Int) < 2147483647)
      show Ends.nx _ ((L2.start N_l_take [.ref b, nV m]).set 3 (some (.int ((mm + 15485959 * (cc + 1) + 179424787) ^ (5 : Int).toNat % 2147483647)))) H1
      generalize (mm + 15485959 * (cc + 1) + 179424787) ^ (5 : Int).toNat % 2147483647 = vv at v0 v1
      refine ⟨_, rfl, _, _, rfl, rfl, .inr (by decide), _, rfl, b, _, _, _, rfl, rfl, SqL.of h1, x3 _ _ _ _, _, _, rfl, rfl, .inl (by decide), _, _, rfl, rfl, _, _, rfl, rfl, ⟨by decide, by decide, by omega⟩, .inl ⟨_, rfl, _, _, rfl, rfl, (by decide : (0 : Int) < 2147483587), _, _, rfl, rfl, ⟨by decide, by decide⟩, _, rfl, _, _, rfl, rfl, (by omega : (0 : Int) < (m : Int)), ?_⟩⟩
      obtain ⟨d, hd, e⟩ := fin ((vv * 48271 + 104789 * (cc + 1)) ^ (3 : Int).toNat % 2147483587 / 64)
      show Q (V.int _) _
      rw [e]
      exact q d _ hd bt al ⟨_, _, _, _, h1, g0, m0, m1, by omega, by omega⟩
    cases k with
    | true =>
      refine iteT ?_
      refine ⟨_, rfl, b, _, _, _, rfl, rfl, SqL.of hb, x0 _ _ _ _, _, _, rfl, rfl, _, rfl, ?_⟩
      by_cases hg : 0 < g
      · rw [decide_eq_true hg]
        refine iteT ?_
        refine ⟨_, rfl, b, _, _, _, rfl, rfl, SqL.of hb, x0 _ _ _ _, .inl ⟨_, rfl, _, rfl, _, _, rfl, rfl, (by omega : (0 : Int) < (m : Int)), ?_⟩⟩
        refine ⟨_, rfl, b, _, _, _, rfl, rfl, SqL.of hb, x0 _ _ _ _, _, rfl, _, _, rfl, rfl, ⟨by omega, by omega⟩, ?_⟩
        refine ⟨_, rfl, b, _, _, 0, rfl, rfl, hb, rfl, ?_⟩
        obtain ⟨d, hd, e⟩ := fin g
        refine ⟨_, rfl, ?_⟩
        show Q (V.int (g % (m : Int))) _
        rw [e]
        exact q d _ hd But.put1 (Al.up _ _ _) ⟨_, _, _, _, upd_same, Int.ediv_nonneg g0 (by omega), m0, m1, c0, by omega⟩
      · rw [decide_eq_false hg]
        refine iteF ?_
        exact rest _ rfl
    | false =>
      refine iteF ?_
      exact rest _ rfl
end
end K9
end

section
set_option Elab.async false
set_option linter.all false
set_option maxRecDepth 100000
set_option maxHeartbeats 1000000
namespace K9
open PySem PySem.Spec PyProof.Rows L2
/-! the law's mixed; sorted pairs -/
theorem erase_perm {α : Type} : ∀ {l : List α} {i : Nat} {y : α}, l[i]? = some y → l.Perm (y :: l.eraseIdx i)
  | [], _, _, e => by simp at e
  | x :: l, 0, y, e => by
    simp at e
    subst e
    exact List.Perm.refl _
  | x :: l, i + 1, y, e => by
    have ih := erase_perm (l := l) (i := i) (y := y) (by simpa using e)
    exact ((List.Perm.cons x ih).trans (List.Perm.swap y x _))
theorem erase_map {α β : Type} (f : α → β) : ∀ (l : List α) (i : Nat), (l.map f).eraseIdx i = (l.eraseIdx i).map f
  | [], _ => rfl
  | x :: l, 0 => rfl
  | x :: l, i + 1 => by
    show f x :: (l.map f).eraseIdx i = f x :: (l.eraseIdx i).map f
    rw [erase_map f l i]
theorem seq_nat {d n : Nat} (h : d < n) : seqIndex? (d : Int) n = some d := by
  rw [seqIndex_of (by omega) (by omega)]
  simp
section
variable {P : Program} {w : World} {K : PySem.W.Frag} {mg : Str → Option Value} {base : Heap}
def spLmixed : Sp := fun vs H Q _ => ∃ (b a : Addr) (l : List Nat) (c : Nat), vs = [.ref b, .ref a] ∧ BoxAt H b c ∧ H a = some (.lst (nsV l)) ∧ l.length ≤ 16 ∧ c + 16 ≤ 1000000 ∧
  ∀ f l' H', H f = none → But b H H' → Al H H' → BoxAt H' b (c + 16) → H' f = some (.lst (nsV l')) → l'.Perm l → Q (.ref f) H'
theorem h_l_mixed (T : Top K mg) : Has P w K mg base 2 (He.ga K "_law_mixed") A_l_mixed spLmixed := by
  refine has_of T.f_l_mixed sc_l_mixed (fun _ _ _ _ _ _ us hl => match us, hl with | [_, _], _ => rfl) (fun vs H Q E h => ?_) (fun cdv A outer s H vs Q E hr h => ?_)
  · obtain ⟨b, a, l, c, rfl, _⟩ := h
    rfl
  · obtain ⟨b, a, l, c, rfl, hb, ha, hl, hc, q⟩ := h
    refine ⟨_, pss_cons (ps_par (i := 2) (j := 3) rfl sc_l_mixed.nd rfl rfl (by decide) rfl rfl (pa_cons (pe_blty call_list_of T.z_list (pa_cons (pv 1) pa_nil)) (pa_cons (pe_lst pa_nil) pa_nil)) rfl)
      (pss_cons (ps_while PassesOwn.never (pt_cmpR (op_neD hr.units) (pv 2) (pe_lst pa_nil) (nomark _))
        (pss_one (ps_expr (pe_bm PySem.F.plainAttrs_list PySem.F.slot_list_append PySem.F.type_list_append mt_append (pv 3)
          (pa_cons (pe_bm PySem.F.plainAttrs_list PySem.F.slot_list_pop PySem.F.type_list_pop mt_popAt (pv 2) (pa_cons (pe_use (h_l_take T) hr T.g_l_take (pa_cons (pv 0) (pa_cons (pe_blt call_len_seq T.z_len (pa_cons (pv 2) pa_nil)) pa_nil))) pa_nil)) pa_nil)))))
      (pss_one (ps_ret (pv 3)))), ?_⟩
    obtain ⟨bg, bm, bc, bk, hb0, hbr⟩ := id hb
    refine ⟨_, rfl, a, _, rfl, .inl (SqL.of ha), fun L hL => ?_⟩
    refine ⟨(by decide : 0 ≤ sizeLine), fun F hF => ?_⟩
    have hLF : L ≠ F := ne_of_none (upd_same (H := H) (a := L)) hF
    have s1 : Same H (upd (upd H L (.lst (nsV l))) F (.lst [])) := (Same.new hL).newr hF
    have hL1 : upd (upd H L (.lst (nsV l))) F (.lst []) L = some (.lst (nsV l)) := by rw [upd_ne hLF, upd_same]
    have hF1 : upd (upd H L (.lst (nsV l))) F (.lst []) F = some (.lst (nsV [])) := upd_same
    have hbL : b ≠ L := ne_of_none hb0 hL
    have hbF : b ≠ F := fun z => by
      have := (Same.new (o := .lst (nsV l)) hL) _ _ hb0
      rw [z, hF] at this
      cases this
    have hHF : H F = none := (Same.new (o := .lst (nsV l)) hL).free hF
    refine ⟨_, _, rfl, ?_⟩
    show tSeq _ _ _ _ (upd (upd H L (.lst (nsV l))) F (.lst []))
    generalize upd (upd H L (.lst (nsV l))) F (.lst []) = H1 at s1 hL1 hF1
    refine ⟨fun m σ H' => ∃ l1 l2, σ = [some (.ref b), some (.ref a), some (.ref L), some (.ref F)] ∧ m = l1.length ∧ But b H H' ∧ Al H H' ∧ BoxAt H' b (c + l2.length) ∧ H' L = some (.lst (nsV l1)) ∧ H' F = some (.lst (nsV l2)) ∧ (l2 ++ l1).Perm l,
      ⟨_, l, [], rfl, rfl, But.of s1, s1.al, hb.same s1, hL1, hF1, List.Perm.refl _⟩, ?_⟩
    rintro m σ H2 ⟨l1, l2, rfl, rfl, bt, al, hb2, hL2, hF2, pm⟩
    have len := pm.length_eq
    rw [List.length_append] at len
    refine ⟨_, rfl, (by decide : 0 ≤ sizeLine), fun e he => ?_⟩
    refine ⟨.list (natsD l1), .list [], .lst (SqL.of (by rw [upd_ne (ne_of_none hL2 he)]; exact hL2)) (nsV_dp l1), .lst (SqL.of upd_same) .nil, intDs_shaped l1, nil_shaped, _, rfl, ?_⟩
    rw [lsD_ne_nil]
    have s3 : Same H2 (upd H2 e (.lst [])) := Same.new he
    have bt3 := bt.same s3
    have al3 := al.trans s3.al
    have hb3 := hb2.same s3
    have hL3 := s3 _ _ hL2
    have hF3 := s3 _ _ hF2
    generalize upd H2 e (.lst []) = H3 at bt3 al3 hb3 hL3 hF3
    by_cases hne : l1 = []
    · subst hne
      rw [List.append_nil] at pm
      exact ⟨_, rfl, q F l2 _ hHF bt3 al3 (hb3.up (by simp at len; omega)) hF3 pm⟩
    · rw [decide_eq_true hne]
      have hpos : 0 < l1.length := List.length_pos_iff.mpr hne
      refine ⟨_, fun σ' H' z => z, ?_⟩
      refine ⟨_, rfl, .inl ⟨rfl, _, SqL.of hF3⟩, _, rfl, .inl ⟨rfl, _, SqL.of hL3⟩, _, rfl, _, rfl, L, _, rfl, .inl (SqL.of hL3), ?_⟩
      refine ⟨b, l1.length, c + l2.length, by rw [List.length_map], hb3, by omega, hpos, by omega, fun d H4 hd b4 a4 hb4 => ?_⟩
      have hL4 := b4 _ _ (Ne.symm hbL) hL3
      have hF4 := b4 _ _ (Ne.symm hbF) hF3
      obtain ⟨y, ey⟩ : ∃ y, l1[d]? = some y := ⟨l1[d], List.getElem?_eq_getElem hd⟩
      refine ⟨L, _, _, d, nV y, rfl, rfl, hL4, by omega, by omega, by rw [List.length_map]; exact seq_nat hd, by rw [List.getElem?_map, ey] <;> rfl, ?_⟩
      rw [erase_map]
      refine ⟨F, nsV l2, nV y, rfl, rfl, by rw [upd_ne (Ne.symm hLF)]; exact hF4, ?_, ?_⟩
      · rw [List.length_map]
        exact Nat.lt_of_le_of_lt (by omega : l2.length ≤ 1000) (by decide)
      have ep := erase_perm ey
      have el := ep.length_eq
      rw [List.length_cons] at el
      have e2 : nsV l2 ++ [nV y] = nsV (l2 ++ [y]) := by simp [nsV]
      rw [e2]
      refine ⟨(l1.eraseIdx d).length, by omega, l1.eraseIdx d, l2 ++ [y], rfl, rfl, ?_, ((al3.trans a4).trans (Al.up _ _ _)).trans (Al.up _ _ _), ?_, by rw [upd_ne hLF, upd_same], upd_same, ?_⟩
      · intro x o hx ex
        rw [upd_ne (ne_of_none ex hHF), upd_ne (ne_of_none ex hL)]
        exact b4 x o hx (bt3 x o hx ex)
      · refine (hb4.of (H' := upd (upd H4 L (.lst (nsV (l1.eraseIdx d)))) F (.lst (nsV (l2 ++ [y])))) (by rw [upd_ne hbF, upd_ne hbL])).up ?_
        rw [List.length_append, List.length_singleton]
        omega
      · refine List.Perm.trans ?_ pm
        rw [List.append_assoc]
        exact List.Perm.append_left _ ep.symm
end
end K9
end

section
set_option Elab.async false
set_option linter.all false
set_option maxRecDepth 100000
set_option maxHeartbeats 1000000
namespace K9
open PySem PySem.Spec PyProof.Rows L2
/-! the law's world -/
/-- [e for .. in xs], any target -/
theorem lcEachG {J : It} {n : Nat} {G : Hp → Prop} {xs : List V} {β γ : Type} {R : V → β → Prop} {ls : List β} {H1 : Hp} {D : Addr} {Qd : Hp → Prop} {g : TG} {tt : TT} {te : TE} {vs : List Nat} {σ : L2.St}
    (w : Walk J n G (YAt xs)) (hn : xs.length = n) (pr : Paired R xs ls) {R2 : Hp → V → γ → Prop} (f : β → γ) (hG : ∀ H, Same H1 H → G H) (hD : H1 D = none) (hlen : n ≤ 1000)
    (mono : ∀ H H' y c, (∀ b o, b ≠ D → H b = some o → H' b = some o) → R2 H y c → R2 H' y c)
    (he : ∀ x l H2 (Q : VK) (N : Hp → Prop), R x l → l ∈ ls → Same H1 H2 → (∃ zs, H2 D = some (.lst zs)) → (∀ y H3, Same H2 H3 → R2 H3 y (f l) → Q y H3) →
      g x (wipe σ vs) H2 fun σ2 H4 => wipe σ2 vs = wipe σ vs ∧ tt σ2 H4 fun b H3 => if b = true then te σ2 H3 Q else N H3)
    (hd : ∀ H zs, Same H1 H → H D = some (.lst zs) → Paired (R2 H) zs (ls.map f) → Qd H) :
    ∃ Wv : Nat → Nat → Hp → Prop, (∃ m, Wv 0 m (upd H1 D (.lst []))) ∧ ∀ k m H, Wv k m H →
      (J.stop k H ∧ Qd H) ∨ (J.go k H ∧ ∃ Nx : Hp → Prop, (∀ H', Nx H' → ∃ m', m' < m ∧ Wv (k + 1) m' H') ∧ ∀ x H', J.yld k H x H' → g x (wipe σ vs) H' fun σ2 H2 => wipe σ2 vs = wipe σ vs ∧ tt σ2 H2 fun b H3 =>
        if b = true then te σ2 H3 fun y H4 => ∃ acc, H4 D = some (.lst acc) ∧ acc.length < sizeLine ∧ Nx (upd H4 D (.lst (acc ++ [y]))) else Nx H3) := by
  refine lc_it w (fun k H => Same H1 H ∧ ∃ zs, H D = some (.lst zs) ∧ Paired (R2 H) zs ((ls.take k).map f)) ⟨Same.new hD, [], upd_same, .nil⟩ (fun k H _ q => hG H q.1) ?_ ?_
  · rintro k x H H' hk ⟨s1, zs, hz, pz⟩ ⟨rfl, ex⟩
    obtain ⟨l, el, rl⟩ := Paired.at_ pr ex
    refine he x l _ _ _ rl (List.mem_of_getElem? el) s1 ⟨zs, hz⟩ fun y H3 s3 q => ?_
    have h1 := Paired.length pz
    rw [List.length_map, List.length_take] at h1
    refine ⟨zs, s3 _ _ hz, Nat.lt_of_le_of_lt (by omega : zs.length ≤ 1000) (by decide), (s1.trans s3).wr hD, _, upd_same, ?_⟩
    have e1 : (ls.take (k + 1)).map f = (ls.take k).map f ++ [f l] := by
      rw [List.take_add_one, el, List.map_append] <;> rfl
    rw [e1]
    have k1 : ∀ b o, b ≠ D → H3 b = some o → upd H3 D (.lst (zs ++ [y])) b = some o := fun b o hb e => by rw [upd_ne hb]; exact e
    exact Paired.snoc (Paired.mapP pz fun a b q => mono _ _ a b (fun c o hc e => k1 c o hc (s3 c o e)) q) (mono _ _ y _ k1 q)
  · rintro H ⟨s1, zs, hz, pz⟩
    refine hd H zs s1 hz ?_
    have : ls.length = n := by rw [← Paired.length pr]; exact hn
    rwa [List.take_of_length_le (by omega)] at pz
/-- the pair that stands at v -/
def pairAt (H : Hp) : V → Int × Int
  | .ref a => match H a with
    | some (.tup [.int i, .int j]) => (i, j)
    | _ => (0, 0)
  | _ => (0, 0)
theorem pairAt_of {H : Hp} {v : V} {r : Ky} (h : KyAt H v r) : pairAt H v = ((r.1 : Int), (r.2 : Int)) := by
  obtain ⟨a, rfl, h⟩ := h
  unfold pairAt
  dsimp only
  rw [h]
def toKy (p : Int × Int) : Ky := (p.1.toNat, p.2.toNat)
theorem toKy_of {H : Hp} {v : V} {r : Ky} (h : KyAt H v r) : toKy (pairAt H v) = r := by
  rw [pairAt_of h]
  unfold toKy
  simp
theorem kys_map {H : Hp} : ∀ {xs : List V} {R : List Ky}, Paired (KyAt H) xs R → R = xs.map fun v => toKy (pairAt H v)
  | _, _, .nil => rfl
  | _, _, .cons h t => by rw [List.map_cons, toKy_of h, ← kys_map t]
theorem kys_mem {H : Hp} {xs : List V} {R : List Ky} (px : Paired (KyAt H) xs R) : ∀ v ∈ xs, KyAt H v (toKy (pairAt H v)) := fun v hv => by
  obtain ⟨j, hj, e⟩ := List.getElem_of_mem hv
  obtain ⟨r, _, h⟩ := Paired.at_ px (by rw [List.getElem?_eq_getElem hj, e])
  rw [toKy_of h]
  exact h
theorem kys_of {H : Hp} : ∀ {ys : List V}, (∀ v ∈ ys, KyAt H v (toKy (pairAt H v))) → Paired (KyAt H) ys (ys.map fun v => toKy (pairAt H v))
  | [], _ => .nil
  | y :: ys, h => .cons (h y List.mem_cons_self) (kys_of fun v hv => h v (List.mem_cons_of_mem _ hv))
theorem sort_rd {H : Hp} {xs : List V} {R : List Ky} (px : Paired (KyAt H) xs R) : ∀ x ∈ xs, ∃ t, x = V.ref t ∧ H t = some (.tup [.int (pairAt H x).1, .int (pairAt H x).2]) := fun x hx => by
  have h := kys_mem px x hx
  have e := pairAt_of h
  obtain ⟨a, e1, h⟩ := h
  exact ⟨a, e1, by rw [e]; exact h⟩
theorem sort_out {H : Hp} {xs ys : List V} {R : List Ky} (px : Paired (KyAt H) xs R) (hs : SrtO.Srtd (L2.ltP (pairAt H)) ys) (hp : SrtO.Stb (L2.ltP (pairAt H)) ys xs) :
    ∃ R', Paired (KyAt H) ys R' ∧ R'.Perm R ∧ R'.Pairwise fun a b => ¬ K9.ltP b a := by
  have hm : ∀ v ∈ ys, KyAt H v (toKy (pairAt H v)) := fun v hv => kys_mem px v (hp.perm.mem_iff.mp hv)
  refine ⟨_, kys_of hm, ?_, ?_⟩
  · rw [kys_map px]
    exact hp.perm.map _
  · refine List.pairwise_map.mpr (List.Pairwise.imp_of_mem (fun {a b} ha hb h => ?_) hs)
    have e1 := pairAt_of (hm a ha)
    have e2 := pairAt_of (hm b hb)
    have := SrtO.lexB_no.mp h
    rw [e1, e2] at this
    unfold K9.ltP
    dsimp only at this ⊢
    omega
theorem asc_of {R : List Ky} (h : R.Pairwise fun a b => ¬ K9.ltP b a) (nd : R.Nodup) : ∀ (i : Nat) a b, R[i]? = some a → R[i + 1]? = some b → K9.ltP a b := fun i a b ea eb => by
  obtain ⟨hi, e1⟩ := List.getElem?_eq_some_iff.mp ea
  obtain ⟨hj, e2⟩ := List.getElem?_eq_some_iff.mp eb
  have h1 := List.pairwise_iff_getElem.mp h i (i + 1) hi hj (by omega)
  have h2 := List.pairwise_iff_getElem.mp nd i (i + 1) hi hj (by omega)
  rw [e1, e2] at h1 h2
  unfold K9.ltP at h1 ⊢
  have : ¬ (a.1 = b.1 ∧ a.2 = b.2) := fun z => h2 (Prod.ext z.1 z.2)
  omega
/-- two numbers, sorted -/
theorem two_sorted {a b : Nat} {ns : List Int} (h : ns.Perm [(a : Int), (b : Int)]) (hs : ns.Pairwise (· ≤ ·)) : ns = if a ≤ b then [(a : Int), (b : Int)] else [(b : Int), (a : Int)] := by
  have hl := h.length_eq
  obtain ⟨x, y, rfl⟩ : ∃ x y, ns = [x, y] := by
    match ns, hl with
    | [x, y], _ => exact ⟨x, y, rfl⟩
  have hle : x ≤ y := by simpa using hs
  have hx : x ∈ [(a : Int), (b : Int)] := h.mem_iff.mp (by simp)
  have hy : y ∈ [(a : Int), (b : Int)] := h.mem_iff.mp (by simp)
  have ha : (a : Int) ∈ [x, y] := h.mem_iff.mpr (by simp)
  have hb : (b : Int) ∈ [x, y] := h.mem_iff.mpr (by simp)
  simp at hx hy ha hb
  by_cases c : a ≤ b
  · rw [if_pos c]
    have : x = a ∧ y = b := by omega
    rw [this.1, this.2]
  · rw [if_neg c]
    have : x = b ∧ y = a := by omega
    rw [this.1, this.2]
theorem rgV_nat (n : Nat) : rgV 0 (n : Int) = nsV (List.range n) := by
  unfold rgV
  have e : ((n : Int) - 0).toNat = n := by omega
  rw [e]
  refine List.map_congr_left fun i _ => ?_
  simp
theorem pick {L : List Nat} {d : Nat} (h : d < L.length) : ∃ v, (nsV L)[d]? = some (nV v) ∧ v ∈ L := ⟨L[d], by rw [List.getElem?_map, List.getElem?_eq_getElem h] <;> rfl, List.getElem_mem h⟩
def roadR (names : List Nat) (r : Ky) : Ky :=
  let a := names.getD r.1 0
  let b := names.getD r.2 0
  if a ≤ b then (a, b) else (b, a)
section
variable {P : Program} {w : World} {K : PySem.W.Frag} {mg : Str → Option Value} {base : Heap}
/-- the law's world -/
def WorldAt (H : Hp) (wd : Addr) (n : Nat) (R : List Ky) (many : Nat) : Prop := ∃ rl xs, H wd = some (.lst [nV n, .ref rl, nV many]) ∧ H rl = some (.lst xs) ∧ Paired (KyAt H) xs R
def spLworld : Sp := fun vs H Q _ => ∃ (b : Addr) (c : Nat), vs = [.ref b] ∧ BoxAt H b c ∧ c + 100 ≤ 1000000 ∧
  ∀ wd n R many H', H wd = none → But b H H' → Al H H' → BoxAt H' b (c + 100) → (∃ rl xs, H rl = none ∧ H' wd = some (.lst [nV n, .ref rl, nV many]) ∧ H' rl = some (.lst xs) ∧ Paired (KyAt H') xs R) → n ≤ 6 → 1 ≤ many → many ≤ 8 → RoadsOk n R → Town n R → Q (.ref wd) H'
theorem h_l_world (T : Top K mg) : Has P w K mg base 3 (He.ga K "_law_world") A_l_world spLworld := by
  refine has_of T.f_l_world sc_l_world (fun _ _ _ _ _ _ us hl => match us, hl with | [_], _ => rfl) (fun vs H Q E h => ?_) (fun cdv A outer s H vs Q E hr h => ?_)
  · obtain ⟨b, c, rfl, _⟩ := h
    rfl
  · obtain ⟨b, c, rfl, hb, hc, q⟩ := h
    have hr1 : Room 1 _ := hr.mono (by decide)
    refine ⟨_, pss_cons (ps_par (i := 1) (j := 2) rfl sc_l_world.nd rfl rfl (by decide) rfl rfl
        (pa_cons (pe_ix ix_list (pe_lst (pa_cons pe_int (pa_cons pe_int (pa_cons pe_int (pa_cons pe_int (pa_cons pe_int (pa_cons pe_int (pa_cons pe_int (pa_cons pe_int pa_nil))))))))) (pe_use (h_l_take T) hr1 T.g_l_take (pa_cons (pv 0) (pa_cons pe_int pa_nil))) (fun _ _ => rfl))
        (pa_cons (pe_ix ix_list (pe_lst (pa_cons pe_int (pa_cons pe_int (pa_cons pe_int (pa_cons pe_int (pa_cons pe_int (pa_cons pe_int (pa_cons pe_int (pa_cons pe_int pa_nil))))))))) (pe_use (h_l_take T) hr1 T.g_l_take (pa_cons (pv 0) (pa_cons pe_int pa_nil))) (fun _ _ => rfl)) pa_nil)) rfl)
      (pss_cons (ps_set (i := 3) sc_l_world.nd rfl (Or.inr rfl) (pe_use (h_l_take T) hr1 T.g_l_take (pa_cons (pv 0) (pa_cons pe_int pa_nil))))
      (pss_cons (ps_setLc (i := 4) (own := [("_law_k", 6)]) (g := gName 6) (tt := tYes) rfl sc_l_world.nd rfl rfl (sw_true rfl rfl rfl (by decide +kernel)) (pi_range2 (by rfl) T.z_range (pa_cons pe_int (pa_cons (pv 1) pa_nil))) (blkOk_by (N := N_l_world) (sc := defScope s_l_world) (by decide +kernel))
          (fun _ _ _ _ _ => pg_name (i := 6) sc_l_world.nd rfl (Or.inl rfl)) (fun _ _ _ _ _ => pts_nil)
          (fun _ _ _ _ _ => pe_tup (pa_cons (pv 6) (pa_cons (pe_ix (r := rIxL K) ix_list (pe_lst (pa_cons (pe_op op_sub (pv 6) pe_int) (pa_cons pe_int (pa_cons (pe_use (h_l_take T) hr1 T.g_l_take (pa_cons (pv 0) (pa_cons (pv 6) pa_nil))) pa_nil)))) (pv 3) (fun _ _ => rfl)) pa_nil))))
      (pss_cons (ps_set (i := 5) sc_l_world.nd rfl (Or.inr rfl) (pe_use (h_l_mixed T) hr T.g_l_mixed (pa_cons (pv 0) (pa_cons (pe_listRg rfl rfl T.z_list (prg_1 rfl T.z_range (pv 1))) pa_nil))))
      (pss_one (ps_ret (pe_lst (pa_cons (pv 1) (pa_cons (pe_blt cr_sortedPO T.z_sorted (pa_cons
        (pe_lc (own := [("_law_a", 7), ("_law_b", 8)]) (g := gTup K 2 (gCons (gName 7) (gCons (gName 8) gNil))) (tt := tYes) rfl sc_l_world.nd (pi_list (pv 4)) (blkOk_by (N := N_l_world) (sc := defScope s_l_world) (by decide +kernel)) (fun _ _ _ _ _ => pg_tup rfl (pgs_cons (pg_name (i := 7) sc_l_world.nd rfl (Or.inl rfl)) (pgs_cons (pg_name (i := 8) sc_l_world.nd rfl (Or.inl rfl)) pgs_nil))) (fun _ _ _ _ _ => pts_nil)
          (fun _ _ _ _ _ => pe_blty (r := fun xs H Q => ∃ p ys, xs = [.ref p] ∧ ((SqL K H p ys ∧ ∀ l, H l = none → Q (.ref l) (upd H l (.tup ys))) ∨ (SqT K H p ys ∧ Q (.ref p) H))) call_tuple_of T.z_tuple (pa_cons (pe_blt (r := rSortedI K) cr_sortedI T.z_sorted (pa_cons
            (pe_lst (pa_cons (pe_ix (r := rIxL K) ix_list (pv 5) (pv 7) (fun _ _ => rfl)) (pa_cons (pe_ix (r := rIxL K) ix_list (pv 5) (pv 8) (fun _ _ => rfl)) pa_nil))) pa_nil)) pa_nil))) pa_nil)) (pa_cons (pv 2) pa_nil)))))))))  , ?_⟩
    obtain ⟨g0, g1, g2, g3, hb0, _⟩ := id hb
    refine ⟨(by decide : 8 ≤ sizeLine), fun l1 hl1 => ⟨_, rfl, b, 8, c, rfl, hb.same (Same.new hl1), by omega, by decide, by decide, fun d1 H1 hd1 bt1 al1 hb1 => ?_⟩⟩
    have hl1b : l1 ≠ b := fun z => by rw [z, hb0] at hl1; cases hl1
    obtain ⟨n, en, hn⟩ := pick (L := [3, 4, 5, 2, 6, 3, 4, 1]) hd1
    have hn' : 1 ≤ n ∧ n ≤ 6 := (by decide : ∀ x ∈ [3, 4, 5, 2, 6, 3, 4, 1], 1 ≤ x ∧ x ≤ 6) n hn
    refine ⟨l1, _, _, _, rfl, rfl, SqL.of (bt1 _ _ hl1b upd_same), atI_nat en, ?_⟩
    have b1 : But b H H1 := (But.of (Same.new hl1)).trans bt1
    have a1 : Al H H1 := (Same.new hl1).al.trans al1
    clear bt1 al1
    refine ⟨(by decide : 8 ≤ sizeLine), fun l2 hl2 => ⟨_, rfl, b, 8, c + 1, rfl, hb1.same (Same.new hl2), by omega, by decide, by decide, fun d2 H2 hd2 bt2 al2 hb2 => ?_⟩⟩
    have hl2b : l2 ≠ b := fun z => by
      obtain ⟨_, _, _, _, z2, _⟩ := hb1
      rw [z, z2] at hl2; cases hl2
    obtain ⟨many, em, hm⟩ := pick (L := [5, 6, 4, 8, 3, 5, 7, 6]) hd2
    have hm' : 1 ≤ many ∧ many ≤ 8 := (by decide : ∀ x ∈ [5, 6, 4, 8, 3, 5, 7, 6], 1 ≤ x ∧ x ≤ 8) many hm
    refine ⟨l2, _, _, _, rfl, rfl, SqL.of (bt2 _ _ hl2b upd_same), atI_nat em, ?_⟩
    have b2 : But b H H2 := (b1.same (Same.new hl2)).trans bt2
    have a2 : Al H H2 := (a1.trans (Same.new hl2).al).trans al2
    clear bt2 al2
    refine ⟨_, _, rfl, ?_⟩
    refine ⟨_, rfl, b, 3, c + 1 + 1, rfl, hb2, by omega, by decide, by decide, fun d3 H3 hd3 bt3 al3 hb3 => ?_⟩
    have b3 := b2.trans bt3
    have a3 := a2.trans al3
    clear bt3 al3 b2 a2 b1 a1 hb1 hb2
    refine ⟨_, rfl, 1, (n : Int), rfl, ⟨by decide, by decide, by omega, by omega⟩, fun D hD => ?_⟩
    have en1 : ((n : Int) - 1).toNat = n - 1 := by omega
    rw [en1]
    obtain ⟨_, _, _, _, hb30, _⟩ := id hb3
    have hDb : D ≠ b := fun z => by rw [z, hb30] at hD; cases hD
    refine lc_it walk_range (fun k H' => But b H3 H' ∧ Al H3 H' ∧ BoxAt H' b (c + 3 + k) ∧ ∃ zs ps, H' D = some (.lst zs) ∧ Paired (KyAt H') zs ps ∧ ps.length = k ∧ ∀ (i : Nat) (r : Ky), ps[i]? = some r → r.1 = i + 1 ∧ r.2 < r.1)
      ⟨But.of (Same.new hD), Al.up _ _ _, hb3.of (by rw [upd_ne (Ne.symm hDb)]), [], [], upd_same, .nil, rfl, fun i r e => by simp at e⟩ (fun _ _ _ _ => trivial) ?_ ?_
    · rintro k x H4 H4' hk ⟨bt, al, hb4, zs, ps, hz, pz, lps, hps⟩ ⟨rfl, ex⟩
      have ex' : x = nV (k + 1) := by rw [ex]; exact congrArg V.int (by omega)
      subst ex'
      refine ⟨rfl, _, rfl, _, rfl, _, _, rfl, rfl, _, rfl, _, rfl, b, k + 1, c + 3 + k, rfl, hb4, by omega, by omega, by omega, fun d H5 hd bt5 al5 hb5 => ?_⟩
      refine ⟨(by decide : 3 ≤ sizeLine), fun l5 hl5 => ?_⟩
      obtain ⟨j, ej, hj⟩ : ∃ j, ([V.int (((k + 1 : Nat) : Int) - 1), .int 0, nV d] : List V)[d3]? = some (nV j) ∧ j < k + 1 := by
        rcases (by omega : d3 = 0 ∨ d3 = 1 ∨ d3 = 2) with rfl | rfl | rfl
        · exact ⟨k, congrArg (fun z => some (V.int z)) (by omega), by omega⟩
        · exact ⟨0, rfl, by omega⟩
        · exact ⟨d, rfl, hd⟩
      refine ⟨_, rfl, l5, _, _, _, rfl, rfl, SqL.of upd_same, atI_nat ej, (by decide : 2 ≤ sizeLine), fun t6 ht6 => ?_⟩
      have hz5 := bt5 _ _ hDb hz
      have s56 := (Same.new (o := .lst [V.int (((k + 1 : Nat) : Int) - 1), .int 0, nV d]) hl5).newr (o := .tup [nV (k + 1), nV j]) ht6
      have hz6 := s56 _ _ hz5
      have pz6 : Paired (KyAt (upd (upd H5 l5 (.lst [V.int (((k + 1 : Nat) : Int) - 1), .int 0, nV d])) t6 (.tup [nV (k + 1), nV j]))) (zs ++ [.ref t6]) (ps ++ [(k + 1, j)]) :=
        Paired.snoc (kysMono ((bt5.tups (by intro ys; obtain ⟨_, _, _, _, z2, _⟩ := hb4; rw [z2]; intro z; cases z)).trans s56.tups) pz) ⟨t6, rfl, upd_same⟩
      have lz := Paired.length pz
      refine ⟨zs, hz6, Nat.lt_of_le_of_lt (by omega : zs.length ≤ 1000) (by decide), ?_⟩
      refine ⟨fun x o hx e => by rw [upd_ne (ne_of_none e hD)]; exact ((bt.trans bt5).same s56) x o hx e, ((al.trans al5).trans s56.al).trans (Al.up _ _ _), ((hb5.same s56).of (by rw [upd_ne (Ne.symm hDb)])).up (by omega), _, _, upd_same, kysMono (Tups.wr hz6 (by intro _ z; cases z)) pz6, by rw [List.length_append, lps] <;> rfl, fun i r er => ?_⟩
      · by_cases hi : i < ps.length
        · rw [List.getElem?_append_left hi] at er
          exact hps i r er
        · rw [List.getElem?_append_right (by omega)] at er
          have hi0 : i - ps.length = 0 := by
            cases h0 : i - ps.length with
            | zero => rfl
            | succ z => rw [h0] at er; simp at er
          rw [hi0] at er
          simp at er
          subst er
          exact ⟨by show k + 1 = i + 1; omega, hj⟩
    · rintro H4 ⟨bt, al, hb4, zs, ps, hz, pz, lps, hps⟩
      have b4 := b3.trans bt
      have a4 := a3.trans al
      refine ⟨_, rfl, _, rfl, (n : Int), rfl, RgOk.of_le (by decide) (by omega) (by decide) (by omega), fun l hl => ?_⟩
      have s5 : Same H4 (upd H4 l (.lst (rgV 0 n))) := Same.new hl
      have hl5 : upd H4 l (.lst (rgV 0 n)) l = some (.lst (nsV (List.range n))) := by rw [upd_same, rgV_nat]
      generalize upd H4 l (.lst (rgV 0 n)) = H5 at s5 hl5
      refine ⟨b, l, List.range n, c + 3 + (n - 1), rfl, hb4.same s5, hl5, by rw [List.length_range]; omega, by omega, fun f names H6 hf bt6 al6 hb6 hf6 pnm => ?_⟩
      have hDb4 := hz
      have s46 := (But.of s5).trans bt6
      have b6 := b4.trans s46
      have a6 := (a4.trans s5.al).trans al6
      have hz6 := s46 _ _ hDb hz
      have pz6 : Paired (KyAt H6) zs ps := kysMono (s46.tups (by intro ys; obtain ⟨_, _, _, _, z2, _⟩ := hb4; rw [z2]; intro z; cases z)) pz
      have lnm := pnm.length_eq
      rw [List.length_range] at lnm
      refine ⟨_, rfl, _, rfl, D, rfl, ⟨zs, SqL.of hz6⟩, fun D2 hD2 => ?_⟩
      have lz := Paired.length pz
      refine lcEachG (R := KyAt H6) (R2 := fun H y r => ∃ a, y = .ref a ∧ a ≠ D2 ∧ H a = some (.tup (kyV r))) (n := zs.length) walk_list rfl pz6 (roadR names) (fun H s => s.seq (SqL.of hz6)) hD2 (by omega) ?_ ?_ ?_
      · rintro G G' y r k ⟨a, e, ha, h⟩
        exact ⟨a, e, ha, k a _ ha h⟩
      · rintro x r H7 Q' N' ⟨a, rfl, ha⟩ hm s7 ⟨ws, hw⟩ k
        obtain ⟨i, hi, er⟩ := List.getElem_of_mem hm
        have hr2 := hps i r (by rw [List.getElem?_eq_getElem hi, er])
        have h1 : r.1 < names.length := by omega
        have h2 : r.2 < names.length := by omega
        have e1 : (nsV names)[r.1]? = some (nV (names.getD r.1 0)) := by rw [List.getElem?_map, List.getD_eq_getElem?_getD, List.getElem?_eq_getElem h1] <;> rfl
        have e2 : (nsV names)[r.2]? = some (nV (names.getD r.2 0)) := by rw [List.getElem?_map, List.getD_eq_getElem?_getD, List.getElem?_eq_getElem h2] <;> rfl
        refine ⟨a, _, rfl, SqT.of (s7 _ _ ha), rfl, _, _, rfl, _, _, rfl, rfl, rfl, ?_⟩
        unfold tYes
        dsimp only
        rw [if_pos rfl]
        refine ⟨_, rfl, _, rfl, f, _, _, _, rfl, rfl, SqL.of (s7 _ _ hf6), atI_nat e1, _, rfl, _, rfl, f, _, _, _, rfl, rfl, SqL.of (s7 _ _ hf6), atI_nat e2, (by decide : 2 ≤ sizeLine), fun l8 hl8 => ?_⟩
        refine ⟨l8, [((names.getD r.1 0 : Nat) : Int), ((names.getD r.2 0 : Nat) : Int)], rfl, SqL.of upd_same, fun ns' p pm hs hp => ?_⟩
        refine ⟨p, ns'.map V.int, rfl, .inl ⟨SqL.of upd_same, fun t ht => ?_⟩⟩
        refine k _ _ (((Same.new hl8).newr hp).newr ht) ⟨t, rfl, ?_, ?_⟩
        · exact fun z => ne_of_none (((Same.new hl8).newr hp) _ _ hw) ht z.symm
        · rw [upd_same, two_sorted pm hs]
          unfold roadR
          dsimp only
          split <;> rfl
      · intro H7 zs2 s7 hz2 pz2
        have pz7 : Paired (KyAt H7) zs2 (ps.map (roadR names)) := Paired.mapP pz2 fun v r ⟨a, e, _, h⟩ => ⟨a, e, h⟩
        refine ⟨D2, zs2, pairAt H7, rfl, SqL.of hz2, sort_rd pz7, fun ys p hs hp hpn => ?_⟩
        obtain ⟨R, pR, permR, pwR⟩ := sort_out pz7 hs hp
        refine ⟨_, rfl, (by decide : 3 ≤ sizeLine), fun wd hwd => ?_⟩
        have hnm : Names n names := ⟨lnm, pnm.nodup_iff.mpr List.nodup_range, fun x hx => List.mem_range.mp (pnm.mem_iff.mp hx)⟩
        have tw : Town n R := by
          refine town_of hnm (by omega) (par := fun k => (ps.getD (k - 1) (0, 0)).2) (fun k hk => ?_) ?_
          · cases e : ps[k - 1]? with
            | none =>
              rw [List.getD_eq_getElem?_getD, e]
              exact hk
            | some r =>
              have := hps _ r e
              rw [List.getD_eq_getElem?_getD, e]
              show r.2 < k
              omega
          · refine permR.trans (List.Perm.of_eq (List.ext_getElem? fun i => ?_))
            rw [List.getElem?_map, List.getElem?_map]
            by_cases hi : i < n - 1
            · rw [List.getElem?_range hi]
              obtain ⟨r, er⟩ : ∃ r, ps[i]? = some r := ⟨ps[i]'(by omega), List.getElem?_eq_getElem (by omega)⟩
              have := hps i r er
              rw [er]
              show some (roadR names r) = some (roadOf names _ (i + 1))
              unfold roadR roadOf
              dsimp only
              rw [this.1, show i + 1 - 1 = i from rfl, List.getD_eq_getElem?_getD (l := ps), er]
              rfl
            · rw [List.getElem?_eq_none (by omega), List.getElem?_eq_none (by rw [List.length_range]; omega)] <;> rfl
        have s9 : Same H6 (upd (upd H7 p (.lst ys)) wd (.lst [nV n, .ref p, nV many])) := (s7.newr hpn).newr hwd
        refine q wd n R many _ (a6 _ (((s7.newr hpn).free hwd))) (b6.same s9) (a6.trans s9.al) ((hb6.same s9).up (by omega)) ⟨p, ys, a6 _ (s7.free hpn), upd_same, by rw [upd_ne (ne_of_none (upd_same (H := H7) (a := p)) hwd), upd_same], kysMono ((Same.new hpn).newr hwd).tups pR⟩ hn'.2 hm'.1 hm'.2 ⟨tw.lt, tw.len, asc_of pwR tw.nodup, by omega⟩ tw
end
end K9
end

section
set_option Elab.async false
set_option linter.all false
set_option maxRecDepth 100000
set_option maxHeartbeats 1000000
namespace K9
open PySem PySem.Spec PyProof.Rows L2
/-! the law's way -/
/-- a list of numbers, new since H0, not L -/
def LsAt (H0 : Hp) (L : Addr) (H : Hp) (v : V) (l : List Nat) : Prop := ∃ a, v = .ref a ∧ a ≠ L ∧ H0 a = none ∧ H a = some (.lst (nsV l))
theorem LsAt.mono {H0 : Hp} {L : Addr} {H H' : Hp} (s : ∀ b o, b ≠ L → H b = some o → H' b = some o) {v : V} {l : List Nat} (h : LsAt H0 L H v l) : LsAt H0 L H' v l := let ⟨a, e, n, f, h⟩ := h; ⟨a, e, n, f, s _ _ n h⟩
theorem LsAt.dp {K : PySem.W.Frag} {H0 : Hp} {L : Addr} {H : Hp} {v : V} {l : List Nat} (h : LsAt H0 L H v l) : Dp K H v (.list (natsD l)) := by
  obtain ⟨a, rfl, _, _, h⟩ := h
  exact .lst (SqL.of h) (nsV_dp l)
theorem paired_last {α β : Type} {F : α → β → Prop} : ∀ {ys : List β} {xs : List α} {y : β}, Paired F xs (ys ++ [y]) → ∃ xs' x, xs = xs' ++ [x] ∧ Paired F xs' ys ∧ F x y
  | [], _, _, .cons h .nil => ⟨[], _, rfl, .nil, h⟩
  | _ :: ys, _, _, .cons h t => by
    obtain ⟨xs', x, rfl, h1, h2⟩ := paired_last (ys := ys) t
    exact ⟨_ :: xs', x, rfl, .cons h h1, h2⟩
/-- the search's heap -/
structure RwI (H0 : Hp) (L ar : Addr) (row : List Nat) (H : Hp) (rows : List (List Nat)) : Prop where
  same : Same H0 H
  row : H ar = some (.lst (nsV row))
  rows : ∃ zs, H L = some (.lst zs) ∧ Paired (LsAt H0 L H) zs rows
theorem RwI.add {H0 : Hp} {L ar : Addr} {row : List Nat} {H : Hp} {rows : List (List Nat)} (r : RwI H0 L ar row H rows) (hL : H0 L = none) (har : ar ≠ L) {p1 p2 : Addr} {o1 : HO} {y : Nat} (h1 : H p1 = none) (h2 : upd H p1 o1 p2 = none) {zs : List V} (hz : H L = some (.lst zs)) :
    RwI H0 L ar row (upd (upd (upd H p1 o1) p2 (.lst (nsV (row ++ [y])))) L (.lst (zs ++ [.ref p2]))) (rows ++ [row ++ [y]]) := by
  obtain ⟨zs', hz', pz⟩ := r.rows
  rw [hz] at hz'
  obtain rfl : zs = zs' := by injection hz' with z; injection z
  have s1 : Same H (upd (upd H p1 o1) p2 (.lst (nsV (row ++ [y])))) := (Same.new h1).newr h2
  have hLp : L ≠ p2 := ne_of_none ((Same.new (o := o1) h1) _ _ hz) h2
  refine ⟨(r.same.trans s1).wr hL, by rw [upd_ne har]; exact s1 _ _ r.row, _, upd_same, ?_⟩
  refine Paired.snoc (Paired.mapP pz fun a b q => LsAt.mono (fun c o hc e => by rw [upd_ne hc]; exact s1 c o e) q) ⟨p2, rfl, Ne.symm hLp, r.same.free ((Same.new (o := o1) h1).free h2), by rw [upd_ne (Ne.symm hLp), upd_same]⟩
theorem RwI.more {H0 : Hp} {L ar : Addr} {row : List Nat} {H H' : Hp} {rows : List (List Nat)} (r : RwI H0 L ar row H rows) (s : Same H H') : RwI H0 L ar row H' rows := by
  obtain ⟨zs, hz, pz⟩ := r.rows
  exact ⟨r.same.trans s, s _ _ r.row, zs, s _ _ hz, Paired.mapP pz fun a b q => LsAt.mono (fun c o _ e => s c o e) q⟩
theorem extN_take {row : List Nat} {x : Nat} {R : List Ky} {i : Nat} {r : Ky} (e : R[i]? = some r) : extN row x (R.take (i + 1)) = extN row x (R.take i) ++ ext1 row x r.1 r.2 := by
  unfold extN
  rw [List.take_add_one, e, List.flatMap_append]
  simp
theorem lsD_depth (l : List Nat) : (PyData.list (natsD l)).depth ≤ 1 := by
  have h : PyData.depthAll (natsD l) ≤ 0 := all_depth (D := fun n : Nat => PyData.int (n : Int)) (n := 0) (fun _ => by simp [PyData.depth]) l
  simp only [PyData.depth]
  omega
theorem lsDs_shaped (l : List (List Nat)) : SeqAt.shaped (.list (l.map fun r => PyData.list (natsD r))) = true :=
  list_shaped l (fun y _ => by simp only [PyData.canLay0]; exact all_lay y (fun _ _ => by simp [PyData.canLay0])) lsD_depth (by decide)
theorem ne_nilD {β : Type} {D : β → PyData} (l : List β) : (!PyData.eqv (.list (l.map D)) (.list [])) = decide (l ≠ []) := by
  cases l <;> simp [PyData.eqv, PyData.eqvAll]
theorem at_last {xs : List V} {y : V} (h : xs.getLast? = some y) : atI xs (-1) = some y := by
  obtain ⟨ys, rfl⟩ := List.getLast?_eq_some_iff.mp h
  exact atI_last ys y
section
variable {P : Program} {w : World} {K : PySem.W.Frag} {mg : Str → Option Value} {base : Heap}
def spLway : Sp := fun vs H Q _ => ∃ (wd : Addr) (n : Nat) (R : List Ky) (many a b : Nat), vs = [.ref wd, nV a, nV b] ∧ WorldAt H wd n R many ∧ Town n R ∧ n ≤ 6 ∧ a < n ∧ b < n ∧
  ∀ r p H', H r = none → Same H H' → H' r = some (.lst (nsV p)) → Way (RdAdj R) a b p → Q (.ref r) H'
theorem h_l_way (T : Top K mg) : Has P w K mg base 1 (He.ga K "_law_way") A_l_way spLway := by
  refine has_of T.f_l_way sc_l_way (fun _ _ _ _ _ _ us hl => match us, hl with | [_, _, _], _ => rfl) (fun vs H Q E h => ?_) (fun cdv A outer s H vs Q E hr h => ?_)
  · obtain ⟨wd, n, R, many, a, b, rfl, _⟩ := h
    rfl
  · obtain ⟨wd, n, R, many, a, b, rfl, ⟨rl, xs, hwd, hrl, px⟩, tw, hn, ha, hb, q⟩ := h
    refine ⟨_, pss_cons (ps_set (i := 3) sc_l_way.nd rfl (Or.inl rfl) (pe_lst (pa_cons (pe_lst (pa_cons (pv 1) pa_nil)) pa_nil)))
      (pss_cons (ps_while PassesOwn.never (pt_cmpR (op_neD hr.units) (pv 3) (pe_lst pa_nil) (nomark _))
        (pss_cons (ps_set (i := 4) sc_l_way.nd rfl (Or.inl rfl) (pe_bm0 PySem.F.plainAttrs_list PySem.F.slot_list_pop PySem.F.type_list_pop mt_pop (pv 3)))
        (pss_cons (ps_if (pt_cmpR op_eq (pe_ix ix_list (pv 4) (pe_un un_neg pe_int) (fun _ _ => rfl)) (pv 2) (nomark _)) (pss_one (ps_ret (pv 4))) pss_nil)
        (pss_one (ps_for PassesOwn.never rfl (pi_list (pe_ix ix_list (pv 0) pe_int (fun _ _ => rfl))) (pg_tup rfl (pgs_cons (pg_name (i := 5) sc_l_way.nd rfl (Or.inl rfl)) (pgs_cons (pg_name (i := 6) sc_l_way.nd rfl (Or.inl rfl)) pgs_nil)))
          (pss_cons (ps_if (PW.pt (pw_and (pt_cmpR op_eq (pv 5) (pe_ix ix_list (pv 4) (pe_un un_neg pe_int) (fun _ _ => rfl)) (nomark _)) (pw_and1 (pt_cmpR op_notIn_seq (pv 6) (pv 4) rfl))))
            (pss_one (ps_expr (pe_bm PySem.F.plainAttrs_list PySem.F.slot_list_append PySem.F.type_list_append mt_append (pv 3) (pa_cons (pe_op op_cat (pv 4) (pe_lst (pa_cons (pv 6) pa_nil))) pa_nil)))) pss_nil)
          (pss_one (ps_if (PW.pt (pw_and (pt_cmpR op_eq (pv 6) (pe_ix ix_list (pv 4) (pe_un un_neg pe_int) (fun _ _ => rfl)) (nomark _)) (pw_and1 (pt_cmpR op_notIn_seq (pv 5) (pv 4) rfl))))
            (pss_one (ps_expr (pe_bm PySem.F.plainAttrs_list PySem.F.slot_list_append PySem.F.type_list_append mt_append (pv 3) (pa_cons (pe_op op_cat (pv 4) (pe_lst (pa_cons (pv 5) pa_nil))) pa_nil)))) pss_nil))))))))
      (pss_one (ps_ret (pe_lst pa_nil)))), ?_⟩
    obtain ⟨S, ts⟩ := tw.tree
    obtain ⟨p, wp⟩ := ts.way ha hb
    have hlen := tw.len
    refine ⟨_, rfl, (by decide : 1 ≤ sizeLine), fun p1 hp1 => ⟨(by decide : 1 ≤ sizeLine), fun L hL => ?_⟩⟩
    have hHL : H L = none := (Same.new (o := .lst [nV a]) hp1).free hL
    have hLp : p1 ≠ L := ne_of_none (upd_same (H := H) (a := p1)) hL
    have w0 : wgts (2 * R.length + 1) n [[a]] ≤ 200000 := by
      have e : R.length = n - 1 := by omega
      rw [e]
      have : ∀ m : Nat, m ≤ 6 → wgts (2 * (m - 1) + 1) m [[0]] ≤ 200000 := by decide
      exact this n hn
    refine ⟨fun m σ H' => ∃ rows zs v4 v5 v6, σ = [some (.ref wd), some (nV a), some (nV b), some (.ref L), v4, v5, v6] ∧ m = wgts (2 * R.length + 1) n rows ∧ m ≤ 200000 ∧ Same H H' ∧ H' L = some (.lst zs) ∧ Paired (LsAt H L H') zs rows ∧ Srch R a p rows,
      ⟨_, [[a]], [.ref p1], _, _, _, rfl, rfl, w0, (Same.new hp1).newr hL, upd_same, .cons ⟨p1, rfl, hLp, hp1, by rw [upd_ne hLp, upd_same] <;> rfl⟩ .nil, Srch.start wp⟩, ?_⟩
    rintro m σ H2 ⟨rows, zs, v4, v5, v6, rfl, rfl, hm, s2, hL2, pz, sr⟩
    refine ⟨_, rfl, (by decide : 0 ≤ sizeLine), fun e he => ?_⟩
    have s23 : Same H2 (upd H2 e (.lst [])) := Same.new he
    have pz3 : Paired (LsAt H L (upd H2 e (.lst []))) zs rows := Paired.mapP pz fun a b q => LsAt.mono (fun c o _ z => s23 c o z) q
    have hL3 := s23 _ _ hL2
    have s3 := s2.trans s23
    refine ⟨.list (rows.map fun r => .list (natsD r)), .list [], .lst (SqL.of hL3) (dpAll_of (fun v y h => LsAt.dp h) pz3), .lst (SqL.of upd_same) .nil, lsDs_shaped rows, nil_shaped, _, rfl, ?_⟩
    rw [ne_nilD, decide_eq_true sr.ne_nil]
    obtain ⟨rows', row, rfl⟩ : ∃ rows' row, rows = rows' ++ [row] := ⟨_, _, (List.dropLast_concat_getLast sr.ne_nil).symm⟩
    obtain ⟨zs', v, rfl, pz', hv⟩ := paired_last pz3
    obtain ⟨ar, rfl, har, harf, hrow⟩ := hv
    generalize upd H2 e (.lst []) = H3 at s23 pz3 hL3 s3 pz' hrow
    obtain ⟨x, wx, glx, heq, hne⟩ := sr.turn ts ha wp
    refine ⟨_, fun σ' H' z => z, ?_⟩
    refine ⟨_, rfl, .inl ⟨rfl, _, SqL.of hL3⟩, L, _, .ref ar, rfl, rfl, hL3, by simp, ?_⟩
    rw [List.dropLast_concat]
    have glv : (nsV row).getLast? = some (nV x) := by rw [List.getLast?_map, glx] <;> rfl
    have ri : RwI H L ar row (upd H3 L (.lst zs')) rows' := ⟨s3.wr hHL, by rw [upd_ne har]; exact hrow, zs', upd_same, Paired.mapP pz' fun a b q => LsAt.mono (fun c o hc z => by rw [upd_ne hc]; exact z) q⟩
    show tSeq _ _ _ _ (upd H3 L (.lst zs'))
    generalize upd H3 L (.lst zs') = H4 at ri
    refine ⟨_, rfl, 1, rfl, ar, _, _, _, rfl, rfl, SqL.of ri.row, at_last glv, _, rfl, rfl, _, rfl, ?_⟩
    rw [dec_nV]
    by_cases hxb : x = b
    · rw [decide_eq_true hxb]
      refine iteT ?_
      refine ⟨_, rfl, ?_⟩
      rw [heq hxb] at ri
      exact q ar p H4 harf ri.same ri.row wp
    · rw [decide_eq_false hxb]
      refine iteF ?_
      obtain ⟨sr', hlt⟩ := hne hxb
      refine ⟨_, rfl, wd, _, _, _, rfl, rfl, SqL.of (ri.same _ _ hwd), (rfl : atI [nV n, V.ref rl, nV many] 1 = some (.ref rl)), rl, rfl, ⟨xs, SqL.of (ri.same _ _ hrl)⟩, ?_⟩
      have lx := Paired.length px
      refine for_list (xs := xs) (fun i σ H' => ∃ v5 v6, σ = [some (.ref wd), some (nV a), some (nV b), some (.ref L), some (.ref ar), v5, v6] ∧ RwI H L ar row H' (rows' ++ extN row x (R.take i)))
        ⟨_, _, rfl, by simpa [extN] using ri⟩ (fun i σ H' _ ⟨_, _, _, r⟩ => SqL.of (r.same _ _ hrl)) ?_ ?_
      · rintro i xv σ H5 hx ⟨v5, v6, rfl, r5⟩
        obtain ⟨⟨u, v⟩, er, t, rfl, ht⟩ := Paired.at_ px hx
        refine ⟨t, _, rfl, SqT.of (r5.same _ _ ht), rfl, _, _, rfl, _, _, rfl, rfl, ?_⟩
        have hrows : (rows' ++ extN row x (R.take i)).length ≤ 300000 := by
          have h1 := wgts_len (c := 2 * R.length + 1) (n := n) (by omega) (rows' ++ [row])
          have h2 := extN_len row x (R.take i)
          rw [List.length_take] at h2
          rw [List.length_append] at h1 ⊢
          omega
        refine ⟨_, rfl, _, rfl, 1, rfl, ar, _, _, _, rfl, rfl, SqL.of r5.row, at_last glv, rfl, _, rfl, ?_⟩
        have seg : ∀ (y : Nat) (H6 : Hp) (rws : List (List Nat)), RwI H L ar row H6 rws → rws.length ≤ 400000 → ∀ (Q2 : Hp → Prop), (∀ H7, RwI H L ar row H7 (rws ++ [row ++ [y]]) → Q2 H7) →
            ∃ zs, H6 L = some (.lst zs) ∧ zs.length < sizeLine ∧ ∀ p1 o1, H6 p1 = none → ∀ p2, upd H6 p1 o1 p2 = none → ∃ zs', upd (upd H6 p1 o1) p2 (.lst (nsV row ++ [nV y])) L = some (.lst zs') ∧ zs'.length < sizeLine ∧ Q2 (upd (upd (upd H6 p1 o1) p2 (.lst (nsV row ++ [nV y]))) L (.lst (zs' ++ [.ref p2]))) := by
          intro y H6 rws r6 hl Q2 k
          obtain ⟨zs6, hz6, pz6⟩ := id r6.rows
          have l6 := Paired.length pz6
          have lt : zs6.length < sizeLine := Nat.lt_of_le_of_lt (by omega : zs6.length ≤ 400000) (by decide)
          refine ⟨zs6, hz6, lt, fun p1 o1 h1 p2 h2 => ⟨zs6, ((Same.new h1).newr h2) _ _ hz6, lt, k _ ?_⟩⟩
          have e : nsV row ++ [nV y] = nsV (row ++ [y]) := by simp [nsV]
          rw [e]
          exact r6.add hHL har h1 h2 hz6
        have lrow : (nsV row).length + 1 ≤ sizeLine := by
          have h1 := nodup_len (n := n) wx.nodup (wx.lt ts ha)
          rw [List.length_map]
          exact Nat.le_trans (by omega : _ ≤ 1000) (by decide)
        rw [dec_nV]
        have nxt : ∀ H6, RwI H L ar row H6 (rows' ++ extN row x (R.take i) ++ (if u = x ∧ v ∉ row then [row ++ [v]] else [])) → (rows' ++ extN row x (R.take i) ++ (if u = x ∧ v ∉ row then [row ++ [v]] else [])).length ≤ 300001 →
            tIfS (tAnd (tTest (tOp rEq (tVar 6) (tOp (rIxL K) (tVar 4) (tUn (rU fun i => .int (-i)) (tC (.int 1)))))) (tTest (tOp (rIn K true) (tVar 5) (tVar 4)))) (tDrop (tBM K "list" rAppend (tVar 3) (tCons (tOp rCat (tVar 4) (tLst (tCons (tVar 5) tNil))) tNil))) tNext
              { nx := fun σ H' => ∃ v5 v6, σ = [some (.ref wd), some (nV a), some (nV b), some (.ref L), some (.ref ar), v5, v6] ∧ RwI H L ar row H' (rows' ++ extN row x (R.take (i + 1))), rt := Q } [some (.ref wd), some (nV a), some (nV b), some (.ref L), some (.ref ar), some (nV u), some (nV v)] H6 := by
          intro H6 r6 hl6
          refine ⟨_, rfl, _, rfl, 1, rfl, ar, _, _, _, rfl, rfl, SqL.of r6.row, at_last glv, rfl, _, rfl, ?_⟩
          rw [dec_nV]
          by_cases hv : v = x
          · rw [decide_eq_true hv]
            refine iteT ?_
            refine ⟨_, rfl, _, rfl, ar, _, rfl, .inl (SqL.of r6.row), rfl, nsV_flat _, _, rfl, ?_⟩
            rw [inV_nat]
            by_cases hu : u ∈ row
            · rw [decide_eq_true hu]
              refine iteF ⟨_, _, rfl, ?_⟩
              rw [extN_take er]
              unfold ext1
              rw [if_neg (show ¬ (v = x ∧ u ∉ row) from fun z => z.2 hu), List.append_nil, ← List.append_assoc]
              exact r6
            · rw [decide_eq_false hu]
              refine iteT ?_
              obtain ⟨zs6, hz6, lt6, sg⟩ := seg u H6 _ r6 (by omega) (fun H7 => RwI H L ar row H7 (rows' ++ extN row x (R.take (i + 1)))) (fun H7 r7 => by
                rw [extN_take er]
                unfold ext1
                rw [if_pos (show v = x ∧ u ∉ row from ⟨hv, hu⟩), ← List.append_assoc, ← List.append_assoc]
                exact r7)
              refine ⟨_, rfl, .inl ⟨rfl, _, SqL.of hz6⟩, _, rfl, _, rfl, (by decide : 1 ≤ sizeLine), fun p1 h1 => ⟨ar, p1, nsV row, [nV u], rfl, rfl, Same.new h1 _ _ r6.row, upd_same, lrow, fun p2 h2 => ?_⟩⟩
              obtain ⟨zs7, hz7, lt7, fin⟩ := sg p1 _ h1 p2 h2
              exact ⟨L, zs7, _, rfl, rfl, hz7, lt7, _, _, rfl, fin⟩
          · rw [decide_eq_false hv]
            refine iteF ⟨_, _, rfl, ?_⟩
            rw [extN_take er]
            unfold ext1
            rw [if_neg (show ¬ (v = x ∧ u ∉ row) from fun z => hv z.1), List.append_nil, ← List.append_assoc]
            exact r6
        by_cases hu : u = x
        · rw [decide_eq_true hu]
          refine iteT ?_
          refine ⟨_, rfl, _, rfl, ar, _, rfl, .inl (SqL.of r5.row), rfl, nsV_flat _, _, rfl, ?_⟩
          rw [inV_nat]
          by_cases hv : v ∈ row
          · rw [decide_eq_true hv]
            refine iteF (nxt _ ?_ ?_)
            · rw [if_neg (fun z => z.2 hv), List.append_nil]; exact r5
            · rw [if_neg (fun z => z.2 hv), List.append_nil]; omega
          · rw [decide_eq_false hv]
            refine iteT ?_
            obtain ⟨zs6, hz6, lt6, sg⟩ := seg v H5 _ r5 (by omega) (fun H7 => RwI H L ar row H7 (rows' ++ extN row x (R.take i) ++ (if u = x ∧ v ∉ row then [row ++ [v]] else []))) (fun H7 r7 => by rw [if_pos ⟨hu, hv⟩]; exact r7)
            refine ⟨_, rfl, .inl ⟨rfl, _, SqL.of hz6⟩, _, rfl, _, rfl, (by decide : 1 ≤ sizeLine), fun p1 h1 => ⟨ar, p1, nsV row, [nV v], rfl, rfl, Same.new h1 _ _ r5.row, upd_same, lrow, fun p2 h2 => ?_⟩⟩
            obtain ⟨zs7, hz7, lt7, fin⟩ := sg p1 _ h1 p2 h2
            refine ⟨L, zs7, _, rfl, rfl, hz7, lt7, nxt _ fin ?_⟩
            rw [if_pos ⟨hu, hv⟩, List.length_append]
            show _ + 1 ≤ _
            omega
        · rw [decide_eq_false hu]
          refine iteF (nxt _ ?_ ?_)
          · rw [if_neg (fun z => hu z.1), List.append_nil]; exact r5
          · rw [if_neg (fun z => hu z.1), List.append_nil]; omega
      · rintro σ H5 ⟨v5, v6, rfl, r5⟩
        rw [lx, List.take_length] at r5
        obtain ⟨zs5, hz5, pz5⟩ := r5.rows
        exact ⟨_, hlt, _, _, _, _, _, rfl, rfl, by omega, r5.same, hz5, pz5, sr'⟩
end
end K9
end

section
set_option Elab.async false
set_option linter.all false
set_option maxRecDepth 100000
set_option maxHeartbeats 1000000
namespace K9
open PySem PySem.Spec PyProof.Rows L2
/-! the law's both, words; what the law holds -/
/-- a line as the law makes them -/
def Gd (l : Line) : Prop := l.cell ∈ cells4 ∧ l.text ∈ texts4 ∧ l.home ≤ 16 ∧ l.num ≤ 40
theorem Gd.wd {l : Line} (h : Gd l) : Wd l := ⟨(cells_ok _ h.1).2.2.2.2.1, (texts_ok _ h.2.1).2.2.2.1⟩
theorem small_shown : ∀ n : Nat, n < 41 → (PyData.shown (.int (n : Int))).length ≤ 10 ∧ (n : Int).natAbs.log2 < 1920 := by decide +kernel
theorem words_cps : (∀ z ∈ cells4, z.cps.toList.all (fun c => decide (c < 16 ^ 8)) = true ∧ z.cps.size ≤ 8) ∧ ∀ z ∈ texts4, z.cps.toList.all (fun c => decide (c < 16 ^ 8)) = true ∧ z.cps.size ≤ 8 := by decide +kernel
theorem Gd.shows {l : Line} (h : Gd l) : (lnD l).showable = true ∧ (lnD l).hasDict = false ∧ (lnD l).depth ≤ 64 ∧ (lnD l).shown.length ≤ sizeLine := by
  obtain ⟨hc, ht, hh, hn⟩ := h
  have a1 := small_shown l.home (by omega)
  have a2 := small_shown l.num (by omega)
  have b1 := words_cps.1 _ hc
  have b2 := words_cps.2 _ ht
  refine ⟨?_, ?_, ?_, ?_⟩
  · have e1 := a1.2
    have e2 := a2.2
    simp only [Int.natAbs_natCast] at e1 e2
    simp [PyData.showable, PyData.showableAll, e1, e2]
  · simp [PyData.hasDict, PyData.hasDictAll]
  · have := lnD_depth l; omega
  · have h := PyData.shown_le_bulk 10 (by decide) (lnD l) (by
      simp only [PyData.leavesShort, PyData.leavesShortAll, Bool.and_eq_true, decide_eq_true_eq, Bool.and_true]
      exact ⟨a1.1, a2.1, b1.1, b2.1⟩)
    have e : (lnD l).bulk = (0 + 1 + (0 + 1 + (l.cell.cps.size + 1 + (l.text.cps.size + 1 + 0)))) := by simp only [PyData.bulk, PyData.bulkAll]
    rw [e] at h
    exact Nat.le_trans h (by have := b1.2; have := b2.2; exact Nat.le_trans (by omega : _ ≤ 1000) (by decide))
def swapK (r : Ky) : Ky := (r.2, r.1)
section
variable {P : Program} {w : World} {K : PySem.W.Frag} {mg : Str → Option Value} {base : Heap}
def spLboth : Sp := fun vs H Q _ => ∃ (wd : Addr) (n : Nat) (R : List Ky) (many : Nat), vs = [.ref wd] ∧ WorldAt H wd n R many ∧ R.length ≤ 20 ∧
  ∀ r ys E H', Same H H' → H r = none → H' r = some (.lst ys) → Paired (KyAt H') ys E → (∀ e, e ∈ E ↔ RdAdj R e.1 e.2) → E.length ≤ 40 → Q (.ref r) H'
theorem h_l_both (T : Top K mg) : Has P w K mg base 1 (He.ga K "_law_both") A_l_both spLboth := by
  refine has_of T.f_l_both sc_l_both (fun _ _ _ _ _ _ us hl => match us, hl with | [_], _ => rfl) (fun vs H Q E h => ?_) (fun cdv A outer s H vs Q E hr h => ?_)
  · obtain ⟨wd, n, R, many, rfl, _⟩ := h
    rfl
  · obtain ⟨wd, n, R, many, rfl, ⟨rl, xs, hwd, hrl, px⟩, hR, q⟩ := h
    refine ⟨_, pss_one (ps_ret (pe_blt cr_sortedPO T.z_sorted (pa_cons (pe_op op_cat (pe_ix ix_list (pv 0) pe_int (fun _ _ => rfl))
      (pe_lc (own := [("_law_u", 1), ("_law_v", 2)]) (g := gTup K 2 (gCons (gName 1) (gCons (gName 2) gNil))) (tt := tYes) rfl sc_l_both.nd (pi_list (pe_ix ix_list (pv 0) pe_int (fun _ _ => rfl))) (blkOk_by (N := N_l_both) (sc := defScope s_l_both) (by decide +kernel)) (fun _ _ _ _ _ => pg_tup rfl (pgs_cons (pg_name (i := 1) sc_l_both.nd rfl (Or.inl rfl)) (pgs_cons (pg_name (i := 2) sc_l_both.nd rfl (Or.inl rfl)) pgs_nil))) (fun _ _ _ _ _ => pts_nil)
        (fun _ _ _ _ _ => pe_tup (pa_cons (pv 2) (pa_cons (pv 1) pa_nil))))) pa_nil))), ?_⟩
    have x1 : atI [nV n, V.ref rl, nV many] 1 = some (.ref rl) := rfl
    have lx := Paired.length px
    refine ⟨_, rfl, wd, _, _, _, rfl, rfl, SqL.of hwd, x1, _, rfl, wd, _, _, _, rfl, rfl, SqL.of hwd, x1, rl, rfl, ⟨xs, SqL.of hrl⟩, fun D hD => ?_⟩
    refine lcEachG (R := KyAt H) (R2 := fun H y r => ∃ a, y = .ref a ∧ a ≠ D ∧ H a = some (.tup (kyV r))) (n := xs.length) walk_list rfl px swapK (fun H s => s.seq (SqL.of hrl)) hD (by omega) ?_ ?_ ?_
    · rintro G G' y r k ⟨a, e, ha, h⟩
      exact ⟨a, e, ha, k a _ ha h⟩
    · rintro x r H7 Q' N' ⟨a, rfl, ha⟩ hm s7 ⟨ws, hw⟩ k
      refine ⟨a, _, rfl, SqT.of (s7 _ _ ha), rfl, _, _, rfl, _, _, rfl, rfl, rfl, ?_⟩
      unfold tYes
      dsimp only
      rw [if_pos rfl]
      refine ⟨_, rfl, _, rfl, (by decide : 2 ≤ sizeLine), fun t ht => k _ _ (Same.new ht) ⟨t, rfl, fun z => ne_of_none hw ht z.symm, upd_same⟩⟩
    · intro H1 zs s1 hz pz
      have pz1 : Paired (KyAt H1) zs (R.map swapK) := Paired.mapP pz fun v r ⟨a, e, _, h⟩ => ⟨a, e, h⟩
      have lz := Paired.length pz
      rw [List.length_map] at lz
      refine ⟨rl, D, xs, zs, rfl, rfl, s1 _ _ hrl, hz, Nat.le_trans (by omega : _ ≤ 1000) (by decide), fun p hp => ?_⟩
      have s2 : Same H1 (upd H1 p (.lst (xs ++ zs))) := Same.new hp
      have pc : Paired (KyAt (upd H1 p (.lst (xs ++ zs)))) (xs ++ zs) (R ++ R.map swapK) := Paired.app (kysMono (s1.trans s2).tups px) (kysMono s2.tups pz1)
      have hp2 : upd H1 p (.lst (xs ++ zs)) p = some (.lst (xs ++ zs)) := upd_same
      generalize upd H1 p (.lst (xs ++ zs)) = H2 at s2 pc hp2
      refine ⟨p, _, pairAt H2, rfl, SqL.of hp2, sort_rd pc, fun ys r hs hst hr2 => ?_⟩
      obtain ⟨E', pE, permE, _⟩ := sort_out pc hs hst
      refine q r ys E' _ ((s1.trans s2).newr hr2) ((s1.trans s2).free hr2) upd_same (kysMono (Tups.new hr2) pE) (fun e => ?_) (by rw [permE.length_eq, List.length_append, List.length_map]; omega)
      rw [permE.mem_iff, List.mem_append, List.mem_map]
      unfold RdAdj swapK
      constructor
      · rintro (h | ⟨r, h, e⟩)
        · exact .inl h
        · rw [← e]; exact .inr h
      · rintro (h | h)
        · exact .inl h
        · exact .inr ⟨_, h, rfl⟩
def spLwords : Sp := fun vs H Q _ => ∃ (b : Addr) (c : Nat), vs = [.ref b] ∧ BoxAt H b c ∧ c + 2 ≤ 1000000 ∧
  ∀ r z t H', H r = none → But b H H' → Al H H' → BoxAt H' b (c + 2) → H' r = some (.lst [.str z, .str t]) → z ∈ cells4 → t ∈ texts4 → Q (.ref r) H'
theorem h_l_words (T : Top K mg) : Has P w K mg base 2 (He.ga K "_law_words") A_l_words spLwords := by
  refine has_of T.f_l_words sc_l_words (fun _ _ _ _ _ _ us hl => match us, hl with | [_], _ => rfl) (fun vs H Q E h => ?_) (fun cdv A outer s H vs Q E hr h => ?_)
  · obtain ⟨b, c, rfl, _⟩ := h
    rfl
  · obtain ⟨b, c, rfl, hb, hc, q⟩ := h
    refine ⟨_, pss_cons (ps_set (i := 1) sc_l_words.nd rfl (Or.inl rfl) (pe_ix ix_list (pe_lst (pa_cons pe_str (pa_cons pe_str (pa_cons pe_str (pa_cons pe_str pa_nil))))) (pe_use (h_l_take T) hr T.g_l_take (pa_cons (pv 0) (pa_cons pe_int pa_nil))) (fun _ _ => rfl)))
      (pss_one (ps_ret (pe_lst (pa_cons (pv 1) (pa_cons (pe_ix ix_list (pe_lst (pa_cons pe_str (pa_cons pe_str (pa_cons pe_str (pa_cons pe_str pa_nil))))) (pe_use (h_l_take T) hr T.g_l_take (pa_cons (pv 0) (pa_cons pe_int pa_nil))) (fun _ _ => rfl)) pa_nil))))), ?_⟩
    obtain ⟨g0, g1, g2, g3, hb0, _⟩ := id hb
    refine ⟨(by decide : 4 ≤ sizeLine), fun l1 hl1 => ⟨_, rfl, b, 4, c, rfl, hb.same (Same.new hl1), by omega, by decide, by decide, fun d1 H1 hd1 bt1 al1 hb1 => ?_⟩⟩
    have hl1b : l1 ≠ b := fun z => by rw [z, hb0] at hl1; cases hl1
    have hd1' : d1 < cells4.length := hd1
    refine ⟨l1, _, _, _, rfl, rfl, SqL.of (bt1 _ _ hl1b upd_same), atI_nat (show (cells4.map V.str)[d1]? = some (V.str cells4[d1]) by rw [List.getElem?_map, List.getElem?_eq_getElem hd1'] <;> rfl), ?_⟩
    have b1 : But b H H1 := (But.of (Same.new hl1)).trans bt1
    have a1 : Al H H1 := (Same.new hl1).al.trans al1
    refine ⟨_, rfl, (by decide : 4 ≤ sizeLine), fun l2 hl2 => ⟨_, rfl, b, 4, c + 1, rfl, hb1.same (Same.new hl2), by omega, by decide, by decide, fun d2 H2 hd2 bt2 al2 hb2 => ?_⟩⟩
    have hl2b : l2 ≠ b := fun z => by
      obtain ⟨_, _, _, _, z2, _⟩ := hb1
      rw [z, z2] at hl2; cases hl2
    have hd2' : d2 < texts4.length := hd2
    refine ⟨l2, _, _, _, rfl, rfl, SqL.of (bt2 _ _ hl2b upd_same), atI_nat (show (texts4.map V.str)[d2]? = some (V.str texts4[d2]) by rw [List.getElem?_map, List.getElem?_eq_getElem hd2'] <;> rfl), ?_⟩
    have b2 : But b H H2 := (b1.same (Same.new hl2)).trans bt2
    have a2 : Al H H2 := (a1.trans (Same.new hl2).al).trans al2
    refine ⟨(by decide : 2 ≤ sizeLine), fun r hr2 => ?_⟩
    exact q r _ _ _ (a2 _ hr2) (b2.same (Same.new hr2)) (a2.trans (Same.new hr2).al) (hb2.same (Same.new hr2)) upd_same (List.getElem_mem hd1') (List.getElem_mem hd2')
end
/-! ### what the law holds -/
/-- what has no role stays -/
structure St0 (ro : Ro) (H H' : Hp) : Prop where
  tups : Tups H H'
  keep : ∀ b o, (ro b).1 = 0 → H b = some o → H' b = some o
theorem St0.refl (ro : Ro) (H : Hp) : St0 ro H H := ⟨Tups.refl H, fun _ _ _ e => e⟩
theorem St0.trans {ro : Ro} {H H1 H2 : Hp} (a : St0 ro H H1) (b : St0 ro H1 H2) : St0 ro H H2 := ⟨a.tups.trans b.tups, fun c o h e => b.keep c o h (a.keep c o h e)⟩
theorem St0.of {ro : Ro} {H H1 : Hp} (s : Same H H1) : St0 ro H H1 := ⟨s.tups, fun b o _ e => s b o e⟩
/-- the ways -/
def WaysAt (ro : Ro) (H : Hp) (wy : Addr) (n : Nat) (W : Nat → Nat → List Nat) : Prop := (ro wy).1 = 0 ∧ ∃ zs, H wy = some (.lst zs) ∧ zs.length = n ∧ ∀ u, u < n → ∃ b ys, zs[u]? = some (.ref b) ∧ (ro b).1 = 0 ∧ H b = some (.lst ys) ∧ ys.length = n ∧
  ∀ v, v < n → ∃ c, ys[v]? = some (.ref c) ∧ (ro c).1 = 0 ∧ H c = some (.lst (nsV (W u v)))
theorem WaysAt.st {ro : Ro} {H H' : Hp} {wy : Addr} {n : Nat} {W : Nat → Nat → List Nat} (h : WaysAt ro H wy n W) (s : St0 ro H H') : WaysAt ro H' wy n W := by
  obtain ⟨r, zs, h1, h2, h3⟩ := h
  refine ⟨r, zs, s.keep _ _ r h1, h2, fun u hu => ?_⟩
  obtain ⟨b, ys, g1, g2, g3, g4, g5⟩ := h3 u hu
  refine ⟨b, ys, g1, g2, s.keep _ _ g2 g3, g4, fun v hv => ?_⟩
  obtain ⟨c, k1, k2, k3⟩ := g5 v hv
  exact ⟨c, k1, k2, s.keep _ _ k2 k3⟩
/-- the notes: key and list -/
def NoteAt (ro : Ro) (H : Hp) (kv : List Key × V) (p : Ky × List Ky) : Prop := kv.1 = kk p.1.1 p.1.2 ∧ ∃ a xs, kv.2 = .ref a ∧ (ro a).1 = 0 ∧ H a = some (.lst xs) ∧ Paired (KyAt H) xs p.2
theorem NoteAt.st {ro : Ro} {H H' : Hp} {kv : List Key × V} {p : Ky × List Ky} (h : NoteAt ro H kv p) (s : St0 ro H H') : NoteAt ro H' kv p := by
  obtain ⟨h1, a, xs, h2, h3, h4, h5⟩ := h
  exact ⟨h1, a, xs, h2, h3, s.keep _ _ h3 h4, kysMono s.tups h5⟩
theorem look_note {ro : Ro} {H : Hp} : ∀ {kvs : List (List Key × V)} {ns : Notes} {k : Ky} {ks : List Ky}, Paired (NoteAt ro H) kvs ns → look ns k = some ks → ∃ a xs, valV kvs (kk k.1 k.2) = some (.ref a) ∧ (ro a).1 = 0 ∧ H a = some (.lst xs) ∧ Paired (KyAt H) xs ks
  | _, _, _, _, .nil, e => by simp [look] at e
  | kv :: kvs, p :: ns, k, ks, .cons h t, e => by
    obtain ⟨h1, a, xs, h2, h3⟩ := h
    by_cases z : p.1 = k
    · have e' : p.2 = ks := by simpa [look, List.find?_cons, z] using e
      subst z
      subst e'
      exact ⟨a, xs, by rw [valV_pos (by exact h1), h2], h3⟩
    · have e' : look ns k = some ks := by simpa [look, List.find?_cons, z] using e
      obtain ⟨a', xs', g1, g2⟩ := look_note t e'
      have zn : ¬ kv.1 = kk k.1 k.2 := fun w => by
        rw [h1] at w
        have := kk_inj w
        exact z (Prod.ext this.1 this.2)
      exact ⟨a', xs', by rw [valV_neg zn]; exact g1, g2⟩
structure LA where
  bx : Addr
  wd : Addr
  p : Addr
  bk : Addr
  nt : Addr
  wy : Addr
  rl : Addr
  pa : PA
  lbs : List Addr
/-- what the law holds at any time -/
structure LawAt (K : PySem.W.Frag) (ro : Ro) (H : Hp) (a : LA) (n : Nat) (R : List Ky) (many : Nat) (near : Nat → List Nat) (W : Nat → Nat → List Nat) (B : Nat → List Line) (q : Nat → Nat → List Line) (ns : Notes) (c nd : Nat) : Prop where
  rwd : (ro a.wd).1 = 0
  rrl : (ro a.rl).1 = 0
  world : H a.wd = some (.lst [nV n, .ref a.rl, nV many])
  roads : ∃ xs, H a.rl = some (.lst xs) ∧ Paired (KyAt H) xs R
  plain : PlainAt K ro H a.p a.pa n R near B q (fun h => (ofHome h (B h)).length) nd
  books : ∃ fB, Rows H a.bk a.lbs n fB ∧ ∀ u, u < n → Paired (LnAt H) (fB u) (B u)
  rbk : (ro a.bk).1 = 0
  rlb : ∀ (u : Nat) (b : Addr), a.lbs[u]? = some b → ro b = (7, u, 0)
  ways : WaysAt ro H a.wy n W
  box : BoxAt H a.bx c
  rbx : ro a.bx = (5, 0, 0)
  notes : ∃ kvs, H a.nt = some (.dT kvs) ∧ Paired (NoteAt ro H) kvs ns
  rnt : ro a.nt = (6, 0, 0)
  lv : Lv ro H
  gd : ∀ u, u < n → ∀ l ∈ B u, Gd l
  adj : ∀ u, u < n → ∀ v, v ∈ near u ↔ RdAdj R u v
  town : Town n R
  tree : TreeW n (RdAdj R) W
  std : Std n (RdAdj R) W B q ns
  nbig : n ≤ 6
  mbig : many ≤ 8
  lns : ns.length ≤ 11
  lnd : nd ≤ 100
  lc : c ≤ 100000
section
variable {K : PySem.W.Frag} {ro : Ro} {H H' : Hp} {a : LA} {n : Nat} {R : List Ky} {many : Nat} {near : Nat → List Nat} {W : Nat → Nat → List Nat} {B : Nat → List Line} {q : Nat → Nat → List Line} {ns : Notes} {c nd : Nat}
theorem LawAt.same (h : LawAt K ro H a n R many near W B q ns c nd) (s : Same H H') : LawAt K ro H' a n R many near W B q ns c nd := by
  obtain ⟨xs, h1, h2⟩ := h.roads
  obtain ⟨fB, r, pB⟩ := h.books
  obtain ⟨kvs, k1, k2⟩ := h.notes
  exact { h with world := s _ _ h.world, roads := ⟨xs, s _ _ h1, kysMono s.tups h2⟩, plain := h.plain.same s, books := ⟨fB, r.same s, fun u hu => lnsMono s.tups (pB u hu)⟩, ways := h.ways.st (St0.of s), box := h.box.same s, notes := ⟨kvs, s _ _ k1, Paired.mapP k2 fun _ _ z => z.st (St0.of s)⟩, lv := h.lv.same s }
theorem ne_kind {x y : Nat × Nat × Nat} (h : x.1 ≠ y.1) : x ≠ y := fun z => h (by rw [z])
/-- the box alone is changed -/
theorem LawAt.drawn (h : LawAt K ro H a n R many near W B q ns c nd) (s : But a.bx H H') (al : Al H H') {c' : Nat} (hb : BoxAt H' a.bx c') (hc : c' ≤ 100000) : LawAt K ro H' a n R many near W B q ns c' nd := by
  obtain ⟨xs, h1, h2⟩ := h.roads
  obtain ⟨fB, r, pB⟩ := h.books
  obtain ⟨kvs, k1, k2⟩ := h.notes
  have tp : Tups H H' := s.tups (by obtain ⟨_, _, _, _, z2, _⟩ := h.box; intro ys; rw [z2]; intro z; cases z)
  have off : ∀ b o, ro b ≠ (5, 0, 0) → H b = some o → H' b = some o := fun b o hb e => s b o (ne_ro (ro := ro) (by rw [h.rbx]; exact hb)) e
  have st : St0 ro H H' := ⟨tp, fun b o hb e => off b o (ne_kind (by rw [hb]; decide)) e⟩
  refine { h with world := st.keep _ _ h.rwd h.world, roads := ⟨xs, st.keep _ _ h.rrl h1, kysMono tp h2⟩, plain := h.plain.keep tp (fun b o hb e => off b o (ne_kind (by show _ ≠ 5; omega)) e), books := ⟨fB, r.keep fun b o hb e => off b o ?_ e, fun u hu => lnsMono tp (pB u hu)⟩, ways := h.ways.st st, box := hb, notes := ⟨kvs, off _ _ (by rw [h.rnt]; decide) k1, Paired.mapP k2 fun _ _ z => z.st st⟩, lv := h.lv.al al, lc := hc }
  rcases hb with rfl | hb
  · exact ne_kind (by rw [h.rbk]; decide)
  · obtain ⟨j, hj, e'⟩ := List.getElem_of_mem hb
    rw [h.rlb j b (by rw [List.getElem?_eq_getElem hj, e'])]
    intro z
    cases z
theorem LawAt.st (h : LawAt K ro H a n R many near W B q ns c nd) (s : But a.bx H H') : St0 ro H H' :=
  ⟨s.tups (by obtain ⟨_, _, _, _, z2, _⟩ := h.box; intro ys; rw [z2]; intro z; cases z), fun b o hb e => s b o (ne_ro (ro := ro) (by rw [h.rbx]; exact ne_kind (by rw [hb]; decide))) e⟩
theorem LawAt.bookAt (h : LawAt K ro H a n R many near W B q ns c nd) {u : Nat} (hu : u < n) : ∃ b xs, a.lbs[u]? = some b ∧ (a.lbs.map V.ref)[u]? = some (.ref b) ∧ H b = some (.lst xs) ∧ Paired (LnAt H) xs (B u) ∧ H a.bk = some (.lst (a.lbs.map V.ref)) := by
  obtain ⟨fB, r, pB⟩ := h.books
  obtain ⟨b, e1, e2, e3⟩ := r.get hu
  exact ⟨b, _, e1, e2, e3, pB u hu, r.top⟩
theorem LawAt.lenB (h : LawAt K ro H a n R many near W B q ns c nd) {u : Nat} (hu : u < n) : (B u).length ≤ 11 := Nat.le_trans (h.std.len_le hu) h.lns
theorem LawAt.lenQ (h : LawAt K ro H a n R many near W B q ns c nd) {u v : Nat} (ad : RdAdj R u v) : (q u v).length ≤ 11 := Nat.le_trans (h.std.q_len ad h.tree) h.lns
theorem LawAt.wds (h : LawAt K ro H a n R many near W B q ns c nd) {u : Nat} (hu : u < n) : ∀ l ∈ B u, Wd l := fun l hl => (h.gd u hu l hl).wd
theorem LawAt.worldAt (h : LawAt K ro H a n R many near W B q ns c nd) : WorldAt H a.wd n R many := let ⟨xs, h1, h2⟩ := h.roads; ⟨a.rl, xs, h.world, h1, h2⟩
end
end K9
end

section
set_option Elab.async false
set_option linter.all false
set_option maxRecDepth 100000
set_option maxHeartbeats 1000000
namespace K9
open PySem PySem.Spec PyProof.Rows L2
/-! the law's ready, make, hand -/
abbrev tReady (K : PySem.W.Frag) (il iu iv ib iw : Nat) : TT :=
  tAnd (tTest (tOp (rNotInD K) (tVar il) (tOp (rIxL K) (tVar ib) (tVar iv)))) (tTest (tOp (rIn K false) (tVar iu) (tOp (rIxL K) (tOp (rIxL K) (tVar iw) (tOp (rIxT K) (tVar il) (tC (.int 0)))) (tVar iv))))
section
variable {P : Program} {w : World} {K : PySem.W.Frag} {mg : Str → Option Value} {base : Heap}
theorem ready_test {ro : Ro} {H : Hp} {a : LA} {n : Nat} {R : List Ky} {many : Nat} {near : Nat → List Nat} {W : Nat → Nat → List Nat} {B : Nat → List Line} {q : Nat → Nat → List Line} {ns : Notes} {c nd : Nat}
    (h : LawAt K ro H a n R many near W B q ns c nd) {u v : Nat} (hu : u < n) (hv : v < n) {l : Line} (hl : l ∈ B u) {x : V} (hx : LnAt H x l) {σ : L2.St} {il iu iv ib iw : Nat} (e1 : σ[il]? = some (some x)) (e2 : σ[iu]? = some (some (nV u))) (e3 : σ[iv]? = some (some (nV v)))
    (e4 : σ[ib]? = some (some (.ref a.bk))) (e5 : σ[iw]? = some (some (.ref a.wy))) {Q : Bool → Hp → Prop} (k : Q (decide (l ∉ B v) && decide (u ∈ W l.home v)) H) : tReady K il iu iv ib iw σ H Q := by
  obtain ⟨b, ys, eb, eb2, hb, py, hbk⟩ := h.bookAt hv
  refine ⟨x, e1, _, e4, _, e3, a.bk, _, _, _, rfl, rfl, SqL.of hbk, atI_nat eb2, lnD l, _, hx.dp, .lst (SqL.of hb) (dpAll_of (fun v y h => LnAt.dp h) py), lnD_shaped (h.wds hu l hl), lnDs_shaped (h.wds hv), _, rfl, ?_⟩
  rw [any_eqv lnD_eqv]
  by_cases hm : l ∈ B v
  · rw [decide_eq_true hm]
    refine iteF ?_
    rw [decide_eq_false (not_not_intro hm)] at k
    exact k
  · rw [decide_eq_false hm]
    refine iteT ?_
    rw [decide_eq_true hm] at k
    obtain ⟨ax, rfl, hax⟩ := hx
    obtain ⟨_, zs, hz, lz, az⟩ := h.ways
    obtain ⟨b2, ws, g1, _, g3, g4, g5⟩ := az l.home (h.std.home u hu l hl)
    obtain ⟨c2, k1, _, k3⟩ := g5 v hv
    refine ⟨_, e2, _, e5, _, e1, ax, _, _, _, rfl, rfl, SqT.of hax, (rfl : atI (lineV l) 0 = some (nV l.home)), a.wy, _, _, _, rfl, rfl, SqL.of hz, atI_nat g1, _, e3, b2, _, _, _, rfl, rfl, SqL.of g3, atI_nat k1, c2, _, rfl, .inl (SqL.of k3), rfl, nsV_flat _, _, rfl, ?_⟩
    show Q (inV (nV u) (nsV (W l.home v))) H
    rw [inV_nat]
    exact k
def spLready (K : PySem.W.Frag) : Sp := fun vs H Q _ => ∃ (ro : Ro) (a : LA) (n : Nat) (R : List Ky) (many : Nat) (near : Nat → List Nat) (W : Nat → Nat → List Nat) (B : Nat → List Line) (q : Nat → Nat → List Line) (ns : Notes) (c nd : Nat),
  vs = [.ref a.wd, .ref a.bk, .ref a.wy] ∧ LawAt K ro H a n R many near W B q ns c nd ∧
  ∀ r ys E H', Same H H' → H r = none → H' r = some (.lst ys) → Paired (KyAt H') ys E → (∀ e ∈ E, RdAdj R e.1 e.2 ∧ q e.1 e.2 ≠ []) → (E = [] → ∀ u v, RdAdj R u v → q u v = []) → E.length ≤ 40 → Q (.ref r) H'
theorem h_l_ready (T : Top K mg) : Has P w K mg base 2 (He.ga K "_law_ready") A_l_ready (spLready K) := by
  refine has_of T.f_l_ready sc_l_ready (fun _ _ _ _ _ _ us hl => match us, hl with | [_, _, _], _ => rfl) (fun vs H Q E h => ?_) (fun cdv A outer s H vs Q E hr h => ?_)
  · obtain ⟨ro, a, n, R, many, near, W, B, q, ns, c, nd, rfl, _⟩ := h
    rfl
  · obtain ⟨ro, a, n, R, many, near, W, B, q, ns, c, nd, rfl, la, k⟩ := h
    refine ⟨_, pss_cons (ps_set (i := 3) sc_l_ready.nd rfl (Or.inl rfl) (pe_lst pa_nil))
      (pss_cons (ps_for PassesOwn.never rfl (pi_list (pe_use (h_l_both T) hr T.g_l_both (pa_cons (pv 0) pa_nil))) (pg_tup rfl (pgs_cons (pg_name (i := 4) sc_l_ready.nd rfl (Or.inr rfl)) (pgs_cons (pg_name (i := 5) sc_l_ready.nd rfl (Or.inr rfl)) pgs_nil)))
        (pss_one (ps_if (pt_cmpR (op_neD hr.units) (pe_lc (own := [("_law_line", 6)]) (g := gName 6) (tt := tReady K 6 4 5 1 2) rfl sc_l_ready.nd (pi_list (pe_ix ix_list (pv 1) (pv 4) (fun _ _ => rfl))) (blkOk_by (N := N_l_ready) (sc := defScope s_l_ready) (by decide +kernel)) (fun _ _ _ _ _ => pg_name (i := 6) sc_l_ready.nd rfl (Or.inl rfl))
              (fun _ _ _ _ _ => pts_one (PW.pt (pw_and (pt_cmpR (r := rNotInD K) (op_notInD (u65 hr)) (pv 6) (pe_ix (r := rIxL K) ix_list (pv 1) (pv 5) (fun _ _ => rfl)) rfl) (pw_and1 (pt_cmpR (r := rIn K false) op_in_seq (pv 4) (pe_ix (r := rIxL K) ix_list (pe_ix (r := rIxL K) ix_list (pv 2) (pe_ix (r := rIxT K) ix_tup (pv 6) pe_int (fun _ _ => rfl)) (fun _ _ => rfl)) (pv 5) (fun _ _ => rfl)) rfl)))))
              (fun _ _ _ _ _ => pv 6)) (pe_lst pa_nil) (nomark _))
          (pss_one (ps_expr (pe_bm PySem.F.plainAttrs_list PySem.F.slot_list_append PySem.F.type_list_append mt_append (pv 3) (pa_cons (pe_tup (pa_cons (pv 4) (pa_cons (pv 5) pa_nil))) pa_nil)))) pss_nil)))
      (pss_one (ps_ret (pv 3)))), ?_⟩
    refine ⟨(by decide : 0 ≤ sizeLine), fun F hF => ?_⟩
    have s1 : Same H (upd H F (.lst [])) := Same.new hF
    have hF1 : upd H F (.lst []) F = some (.lst []) := upd_same
    show tSeq _ _ _ _ (upd H F (.lst []))
    generalize upd H F (.lst []) = H1 at s1 hF1
    have hR : R.length ≤ 20 := by have := la.town.len; have := la.nbig; omega
    refine ⟨_, rfl, a.wd, n, R, many, rfl, (la.same s1).worldAt, hR, fun L xs E H2 s2 hL hL2 px hE lE => ?_⟩
    have lx := Paired.length px
    refine ⟨L, rfl, ⟨xs, SqL.of hL2⟩, ?_⟩
    have s02 := L2.Same.trans s1 s2
    have hF2 := s2 _ _ hF1
    have hLF : F ≠ L := ne_of_none hF1 hL
    have hHL : H L = none := s1.free hL
    refine for_list (xs := xs) (fun i σ H' => ∃ v4 v5 zs, σ = [some (.ref a.wd), some (.ref a.bk), some (.ref a.wy), some (.ref F), v4, v5, none] ∧ Same H H' ∧ H' L = some (.lst xs) ∧ Tups H2 H' ∧ H' F = some (.lst zs) ∧ Paired (KyAt H') zs ((E.take i).filter fun e => decide (q e.1 e.2 ≠ [])))
      ⟨none, none, [], rfl, s02, hL2, Tups.refl _, hF2, .nil⟩ (fun i σ H' _ ⟨_, _, _, _, _, h, _⟩ => SqL.of h) ?_ ?_
    · rintro i x σ H3 hx ⟨v4, v5, zs, rfl, s3, hL3, t3, hF3, pz⟩
      obtain ⟨⟨u, v⟩, er, t, rfl, ht⟩ := Paired.at_ px hx
      have hm : (u, v) ∈ E := List.mem_of_getElem? er
      have ad : RdAdj R u v := (hE _).mp hm
      obtain ⟨hu, hv⟩ := la.tree.lt ad
      have hz3 : zs.length ≤ 100 := by
        have := Paired.length pz
        have h2 := List.length_filter_le (fun e : Ky => decide (q e.1 e.2 ≠ [])) (E.take i)
        rw [List.length_take] at h2
        omega
      refine ⟨t, _, rfl, SqT.of (t3 _ _ ht), rfl, _, _, rfl, _, _, rfl, rfl, ?_⟩
      have la3 := la.same s3
      obtain ⟨b, ys, eb, eb2, hb, py, hbk⟩ := la3.bookAt hu
      refine ⟨_, rfl, _, rfl, a.bk, _, _, _, rfl, rfl, SqL.of hbk, atI_nat eb2, b, rfl, ⟨ys, SqL.of hb⟩, fun D hD => ?_⟩
      have ly := Paired.length py
      have lB := la.lenB hu
      refine lcKeep (R := LnAt H3) (ls := B u) (n := ys.length) walk_list rfl py (fun l => decide (l ∉ B v) && decide (u ∈ W l.home v)) (fun H' s => s.seq (SqL.of hb)) hD (by omega) (by simp) (fun _ => rfl) ?_ ?_
      · rintro y l H4 Q4 hy hl s4 k4
        exact ready_test (la3.same s4) hu hv hl (hy.mono s4.tups) rfl rfl rfl rfl rfl (k4 H4 (L2.Same.refl _))
      · intro H4 ws s4 hD4 pw
        rw [la.std.ready la.tree ad] at pw
        refine ⟨(by decide : 0 ≤ sizeLine), fun e he => ?_⟩
        have s45 : Same H4 (upd H4 e (.lst [])) := Same.new he
        refine ⟨.list ((q u v).map lnD), .list [], .lst (SqL.of (s45 _ _ hD4)) (dpAll_of (fun v y h => LnAt.dp h) (lnsMono (s4.trans s45).tups pw)), .lst (SqL.of upd_same) .nil, lnDs_shaped (fun l hl => la.wds hu l (la.std.q_mem ad hl).1), nil_shaped, _, rfl, ?_⟩
        rw [ne_nilD]
        have s35 := L2.Same.trans s4 s45
        generalize upd H4 e (.lst []) = H5 at s35
        have tk : (E.take (i + 1)).filter (fun e => decide (q e.1 e.2 ≠ [])) = (E.take i).filter (fun e => decide (q e.1 e.2 ≠ [])) ++ (if q u v ≠ [] then [(u, v)] else []) := by
          rw [List.take_add_one, er, List.filter_append]
          by_cases hq : q u v = []
          · simp [hq]
          · simp [hq]
        by_cases hq : q u v = []
        · rw [decide_eq_false (not_not_intro hq)]
          refine iteF ⟨_, _, zs, rfl, s3.trans s35, s35 _ _ hL3, t3.trans s35.tups, s35 _ _ hF3, ?_⟩
          rw [tk, if_neg (not_not_intro hq), List.append_nil]
          exact kysMono s35.tups pz
        · rw [decide_eq_true hq]
          refine iteT ?_
          refine ⟨_, rfl, .inl ⟨rfl, _, SqL.of (s35 _ _ hF3)⟩, _, rfl, _, rfl, (by decide : 2 ≤ sizeLine), fun f hf => ?_⟩
          have s36 := s35.newr (o := .tup [nV u, nV v]) hf
          refine ⟨F, zs, _, rfl, rfl, s36 _ _ hF3, Nat.lt_of_le_of_lt (by omega : zs.length ≤ 1000) (by decide), _, _, _, rfl, (s3.trans s36).wr hF, ?_, (t3.trans s36.tups).trans (Tups.wr (s36 _ _ hF3) (by intro _ z; cases z)), upd_same, ?_⟩
          · rw [upd_ne (Ne.symm hLF)]
            exact s36 _ _ hL3
          · rw [tk, if_pos hq]
            exact Paired.snoc (kysMono (s36.tups.trans (Tups.wr (s36 _ _ hF3) (by intro _ z; cases z))) pz) ⟨f, rfl, by rw [upd_ne (Ne.symm (ne_of_none (s35 _ _ hF3) hf)), upd_same]⟩
    · rintro σ H3 ⟨v4, v5, zs, rfl, s3, hL3, t3, hF3, pz⟩
      rw [lx, List.take_length] at pz
      refine ⟨_, rfl, k F zs _ H3 s3 hF hF3 pz (fun e he => ?_) (fun he u v ad => ?_) (Nat.le_trans (List.length_filter_le _ _) lE)⟩
      · have := List.mem_filter.mp he
        exact ⟨(hE _).mp this.1, of_decide_eq_true this.2⟩
      · by_cases hq : q u v = []
        · exact hq
        · have : (u, v) ∈ E.filter fun e => decide (q e.1 e.2 ≠ []) := List.mem_filter.mpr ⟨(hE (u, v)).mpr ad, decide_eq_true hq⟩
          rw [he] at this
          exact (List.not_mem_nil this).elim
end
end K9
end

section
set_option Elab.async false
set_option linter.all false
set_option maxRecDepth 100000
set_option maxHeartbeats 1000000
namespace K9
open PySem PySem.Spec PyProof.Rows L2
/-! the law's make -/
theorem look_none {ro : Ro} {H : Hp} : ∀ {kvs : List (List Key × V)} {ns : Notes} {k : Ky}, Paired (NoteAt ro H) kvs ns → k ∉ ns.map (·.1) → valV kvs (kk k.1 k.2) = none
  | _, _, _, .nil, _ => rfl
  | kv :: kvs, p :: ns, k, .cons h t, e => by
    have e2 : p.1 ≠ k ∧ k ∉ ns.map (·.1) := ⟨fun z => e (by simp [z]), fun z => e (List.mem_cons_of_mem _ z)⟩
    have zn : ¬ kv.1 = kk k.1 k.2 := fun w => by
      rw [h.1] at w
      have := kk_inj w
      exact e2.1 (Prod.ext this.1 this.2)
    rw [valV_neg zn]
    exact look_none t e2.2
theorem PlainAt.congrM {K : PySem.W.Frag} {ro : Ro} {H : Hp} {p : Addr} {a : PA} {n : Nat} {R : List Ky} {near : Nat → List Nat} {B : Nat → List Line} {q : Nat → Nat → List Line} {M M' : Nat → Nat} {nd : Nat}
    (h : PlainAt K ro H p a n R near B q M nd) (e : ∀ u, u < n → M u = M' u) : PlainAt K ro H p a n R near B q M' nd := by
  refine { h with made := ?_ }
  have : (List.range n).map M' = (List.range n).map M := List.map_congr_left fun u hu => (e u (List.mem_range.mp hu)).symm
  rw [this]
  exact h.made
theorem ne76 (h : Nat) : ((7, h, 0) : Nat × Nat × Nat) ≠ (6, 0, 0) := ne_kind (by show 7 ≠ 6; decide)
theorem BoxAt.keep {H H' : Hp} {b : Addr} {c : Nat} (h : BoxAt H b c) (k : ∀ o, H b = some o → H' b = some o) : BoxAt H' b c := by
  obtain ⟨g, m, cc, kk, h1, h2⟩ := h
  exact ⟨g, m, cc, kk, k _ h1, h2⟩
section
variable {P : Program} {w : World} {K : PySem.W.Frag} {mg : Str → Option Value} {base : Heap}
def spLmake (K : PySem.W.Frag) : Sp := fun vs H Q _ => ∃ (ro : Ro) (a : LA) (n : Nat) (R : List Ky) (many : Nat) (near : Nat → List Nat) (W : Nat → Nat → List Nat) (B : Nat → List Line) (q : Nat → Nat → List Line) (ns : Notes) (c nd h : Nat),
  vs = [.ref a.bx, .ref a.p, .ref a.bk, .ref a.nt, nV h] ∧ LawAt K ro H a n R many near W B q ns c nd ∧ h < n ∧ ns.length + 1 ≤ 11 ∧ nd + 1 ≤ 100 ∧ c + 2 ≤ 100000 ∧
  ∀ z t H', St0 ro H H' → LawAt K ro H' a n R many near W (upB B h (B h ++ [newLine B h z t])) (madeQ q h (newLine B h z t)) (ns ++ [((newLine B h z t).key, keysL (B h))]) (c + 2) (nd + 1) → Q (.bl true) H'
theorem h_l_make (T : Top K mg) : HasG P w K mg base 6 (He.ga K "_law_make") A_l_make (spLmake K) := by
  refine hasG_of T.f_l_make sc_l_make (fun _ _ _ _ _ _ us hl => match us, hl with | [_, _, _, _, _], _ => rfl) (fun vs H Q E h => ?_) (fun cdv A outer s H vs Q E hg hr h => ?_)
  · obtain ⟨ro, a, n, R, many, near, W, B, q, ns, c, nd, h, rfl, _⟩ := h
    rfl
  · obtain ⟨ro, a, n, R, many, near, W, B, q, ns, c, nd, h, rfl, la, hh, lns, lnd, lc, k⟩ := h
    refine ⟨_, pss_cons (ps_asg (pe_use (h_l_words T) (hr.mono (by decide)) T.g_l_words (pa_cons (pv 0) pa_nil)) (pg_unl rfl (pgs_cons (pg_name (i := 5) sc_l_make.nd rfl (Or.inl rfl)) (pgs_cons (pg_name (i := 6) sc_l_make.nd rfl (Or.inl rfl)) pgs_nil))))
      (pss_cons (ps_set (i := 7) sc_l_make.nd rfl (Or.inl rfl) (pe_tup (pa_cons (pv 4) (pa_cons (pe_blt call_len_seq T.z_len (pa_cons
          (pe_lc (own := [("_law_row", 8)]) (g := gName 8) (tt := tTest (tOp rEq (tOp (rIxT K) (tVar 8) (tC (.int 0))) (tVar 4))) rfl sc_l_make.nd (pi_list (pe_ix ix_list (pv 2) (pv 4) (fun _ _ => rfl))) (blkOk_by (N := N_l_make) (sc := defScope s_l_make) (by decide +kernel)) (fun _ _ _ _ _ => pg_name (i := 8) sc_l_make.nd rfl (Or.inl rfl))
            (fun _ _ _ _ _ => pts_one (pt_cmpR op_eq (pe_ix (r := rIxT K) ix_tup (pv 8) pe_int (fun _ _ => rfl)) (pv 4) (nomark _))) (fun _ _ _ _ _ => pv 8)) pa_nil)) (pa_cons (pv 5) (pa_cons (pv 6) pa_nil))))))
      (pss_cons (ps_dput (hu_of hr) (pv 3) (pe_slice sl_tup (pv 7) po_none (po_some pe_int))
          (pe_lc (own := [("_law_row", 8)]) (g := gName 8) (tt := tYes) rfl sc_l_make.nd (pi_list (pe_ix ix_list (pv 2) (pv 4) (fun _ _ => rfl))) (blkOk_by (N := N_l_make) (sc := defScope s_l_make) (by decide +kernel)) (fun _ _ _ _ _ => pg_name (i := 8) sc_l_make.nd rfl (Or.inl rfl)) (fun _ _ _ _ _ => pts_nil)
            (fun _ _ _ _ _ => pe_slice (r := rSlT K) sl_tup (pv 8) po_none (po_some pe_int))) rfl)
      (pss_cons (ps_expr (pe_bm PySem.F.plainAttrs_list PySem.F.slot_list_append PySem.F.type_list_append mt_append (pe_ix ix_list (pv 2) (pv 4) (fun _ _ => rfl)) (pa_cons (pv 7) pa_nil)))
      (pss_one (ps_ret (pe_cmpR op_eq (pe_blt (call_repr_data hg (u70 hr)) T.z_repr (pa_cons (pe_useM (pv 1) T.cl_Plain T.m_Plain_make (h_Plain_make T) hr (pa_cons (pv 4) (pa_cons (pv 5) (pa_cons (pv 6) pa_nil)))) pa_nil))
        (pe_blt (call_repr_data hg (u70 hr)) T.z_repr (pa_cons (pv 7) pa_nil)) (nomark _))))))), ?_⟩
    refine ⟨_, rfl, a.bx, c, rfl, la.box, by omega, fun r z t H1 hr0 b1 a1 hb1 hr1 hz ht => ?_⟩
    have st1 := la.st b1
    have la1 := la.drawn b1 a1 hb1 (by omega)
    refine ⟨r, _, rfl, SqL.of hr1, rfl, _, _, rfl, _, _, rfl, rfl, ?_⟩
    obtain ⟨b, ys, eb, eb2, hb, py, hbk⟩ := la1.bookAt hh
    have lB := la.lenB hh
    have ly := Paired.length py
    refine ⟨_, rfl, _, rfl, _, rfl, a.bk, _, _, _, rfl, rfl, SqL.of hbk, atI_nat eb2, b, rfl, ⟨ys, SqL.of hb⟩, fun D hD => ?_⟩
    refine lcKeep (R := LnAt H1) (ls := B h) (n := ys.length) walk_list rfl py (fun l => decide (l.home = h)) (fun H' s => s.seq (SqL.of hb)) hD (by omega) (by show 8 < 9; omega) (fun _ => rfl) ?_ ?_
    · rintro x l H4 Q4 ⟨ax, rfl, hax⟩ hl s4 k4
      refine ⟨_, rfl, ax, _, _, _, rfl, rfl, SqT.of (s4 _ _ hax), (rfl : atI (lineV l) 0 = some (nV l.home)), _, rfl, rfl, _, rfl, ?_⟩
      rw [dec_nV]
      exact k4 H4 (L2.Same.refl _)
    intro H2 ws s2 hD2 pw
    have lw : ws.length = (ofHome h (B h)).length := Paired.length pw
    refine ⟨D, ws, rfl, .inl (SqL.of hD2), _, rfl, _, rfl, (by decide : 4 ≤ sizeLine), fun lt hlt => ?_⟩
    rw [lw]
    have s3 : Same H1 (upd H2 lt (.tup (lineV (newLine B h z t)))) := s2.newr hlt
    have hlt3 : upd H2 lt (.tup (lineV (newLine B h z t))) lt = some (.tup (lineV (newLine B h z t))) := upd_same
    show tSeq _ _ _ _ (upd H2 lt (.tup (lineV (newLine B h z t))))
    generalize upd H2 lt (.tup (lineV (newLine B h z t))) = H3 at s3 hlt3
    have la3 := la1.same s3
    have st3 := st1.trans (St0.of s3)
    obtain ⟨b', ys', eb', eb2', hb3, py3, hbk3⟩ := la3.bookAt hh
    have ly3 := Paired.length py3
    refine ⟨_, rfl, _, rfl, a.bk, _, _, _, rfl, rfl, SqL.of hbk3, atI_nat eb2', b', rfl, ⟨ys', SqL.of hb3⟩, fun D2 hDD => ?_⟩
    refine lcEach (R := LnAt H3) (ls := B h) (R2 := fun H y k => ∃ a, y = .ref a ∧ a ≠ D2 ∧ H a = some (.tup (kyV k))) (n := ys'.length) walk_list rfl py3 Ln.key (fun H' s => s.seq (SqL.of hb3)) hDD (by omega) (fun _ => rfl) ?_ ?_ ?_
    · rintro G G' y r k ⟨a, e, ha, h⟩
      exact ⟨a, e, ha, k a _ ha h⟩
    · rintro x l H4 Q4 ⟨ax, rfl, hax⟩ hl s4 ⟨vs4, hv4⟩ k4
      refine ⟨_, rfl, _, rfl, ax, _, rfl, SqT.of (s4 _ _ hax), fun z => absurd (show HT.sIx 4 4 (some 2) = 4 from z.2) (by decide), fun p hp => ?_⟩
      rw [show (2 : Int) = ((2 : Nat) : Int) from rfl, cutV_take]
      exact k4 _ _ (Same.new hp) ⟨p, rfl, fun z => ne_of_none hv4 hp z.symm, upd_same⟩
    intro H4 vs4 s4 hv4 pv4
    have la4 := la3.same s4
    have st4 := st3.trans (St0.of s4)
    have hlt4 := s4 _ _ hlt3
    have pk4 : Paired (KyAt H4) vs4 (keysL (B h)) := Paired.mapP pv4 fun v r ⟨a, e, _, h⟩ => ⟨a, e, h⟩
    obtain ⟨kvs, hk4, pn4⟩ := la4.notes
    refine ⟨_, rfl, _, rfl, _, rfl, lt, _, rfl, SqT.of hlt4, fun z => absurd (show HT.sIx 4 4 (some 2) = 4 from z.2) (by decide), fun p hp => ?_⟩
    rw [show (2 : Int) = ((2 : Nat) : Int) from rfl, cutV_take]
    have s5 : Same H4 (upd H4 p (.tup ((lineV (newLine B h z t)).take 2))) := Same.new hp
    have hp5 : upd H4 p (.tup ((lineV (newLine B h z t)).take 2)) p = some (.tup ((kk (newLine B h z t).key.1 (newLine B h z t).key.2).map kV)) := upd_same
    show ∃ a_1 H4_1, _ ∧ DPut (upd H4 p (.tup ((lineV (newLine B h z t)).take 2))) _ _ _ _ ∧ _
    generalize upd H4 p (.tup ((lineV (newLine B h z t)).take 2)) = H5 at s5 hp5
    have la5 := la4.same s5
    have st5 := st4.trans (St0.of s5)
    have pn5 : Paired (NoteAt ro H5) kvs ns := Paired.mapP pn4 fun _ _ z => z.st (St0.of s5)
    have pk5 := kysMono s5.tups pk4
    have hv5 := s5 _ _ hv4
    have hlt5 := s5 _ _ hlt4
    have lkv := Paired.length pn5
    have hnk : (newLine B h z t).key ∉ ns.map (·.1) := fun hm => by
      obtain ⟨h1, l, hl, e⟩ := la.std.ks _ hm
      exact la.std.new_key la.tree hh z t _ h1 l hl e
    refine ⟨a.nt, _, rfl, .inr ⟨kvs, kk (newLine B h z t).key.1 (newLine B h z t).key.2, p, s5 _ _ hk4, rfl, hp5, Nat.lt_of_le_of_lt (by omega : kvs.length ≤ 1000) (by decide), rfl⟩, ?_⟩
    rw [putK_new (.ref D2) (look_none pn5 hnk)]
    have rD2 : (ro D2).1 = 0 := la3.lv D2 hDD
    obtain ⟨b5, ys5, eb5, eb5', hb5, py5, hbk5⟩ := la5.bookAt hh
    have rb5 := la5.rlb h b5 eb5
    have hnt5 := s5 _ _ hk4
    have hbn : b5 ≠ a.nt := ne_ro (ro := ro) (by rw [rb5, la5.rnt]; exact ne76 h)
    have hkn : a.bk ≠ a.nt := ne_ro (ro := ro) (by rw [la5.rnt]; exact ne_kind (by rw [la5.rbk]; decide))
    have t56 : Tups H5 (upd H5 a.nt (.dT (kvs ++ [(kk (newLine B h z t).key.1 (newLine B h z t).key.2, .ref D2)]))) := Tups.wr hnt5 (by intro _ z; cases z)
    have o56 : ∀ c o, ro c ≠ (6, 0, 0) → H5 c = some o → upd H5 a.nt (.dT (kvs ++ [(kk (newLine B h z t).key.1 (newLine B h z t).key.2, .ref D2)])) c = some o := fun c o hc e => by rw [upd_ne (ne_ro (ro := ro) (by rw [la5.rnt]; exact hc))]; exact e
    have hnt6 : upd H5 a.nt (.dT (kvs ++ [(kk (newLine B h z t).key.1 (newLine B h z t).key.2, .ref D2)])) a.nt = some (.dT (kvs ++ [(kk (newLine B h z t).key.1 (newLine B h z t).key.2, .ref D2)])) := upd_same
    have al56 : Al H5 (upd H5 a.nt (.dT (kvs ++ [(kk (newLine B h z t).key.1 (newLine B h z t).key.2, .ref D2)]))) := Al.up _ _ _
    show tSeq _ _ _ _ (upd H5 a.nt (.dT (kvs ++ [(kk (newLine B h z t).key.1 (newLine B h z t).key.2, .ref D2)])))
    generalize upd H5 a.nt (.dT (kvs ++ [(kk (newLine B h z t).key.1 (newLine B h z t).key.2, .ref D2)])) = H6 at t56 o56 hnt6 al56
    have hb6 := o56 _ _ (by rw [rb5]; exact ne76 h) hb5
    have hbk6 := o56 _ _ (ne_kind (by rw [la5.rbk]; decide)) hbk5
    have ly5 := Paired.length py5
    refine ⟨_, rfl, _, rfl, a.bk, _, _, _, rfl, rfl, SqL.of hbk6, atI_nat eb5', .inl ⟨rfl, _, SqL.of hb6⟩, _, rfl, b5, ys5, _, rfl, rfl, hb6, Nat.lt_of_le_of_lt (by omega : ys5.length ≤ 1000) (by decide), ?_⟩
    have t57 : Tups H5 (upd H6 b5 (.lst (ys5 ++ [.ref lt]))) := t56.trans (Tups.wr hb6 (by intro _ z; cases z))
    have o67 : ∀ c o, ro c ≠ (7, h, 0) → H6 c = some o → upd H6 b5 (.lst (ys5 ++ [.ref lt])) c = some o := fun c o hc e => by rw [upd_ne (ne_ro (ro := ro) (by rw [rb5]; exact hc))]; exact e
    have t67 : Tups H6 (upd H6 b5 (.lst (ys5 ++ [.ref lt]))) := Tups.wr hb6 (by intro _ z; cases z)
    have al57 : Al H5 (upd H6 b5 (.lst (ys5 ++ [.ref lt]))) := al56.trans (Al.up _ _ _)
    obtain ⟨fB, r5, pB5⟩ := la5.books
    have r6 : Rows H6 a.bk a.lbs n fB := r5.keep fun c o hc e => o56 c o (by
      rcases hc with rfl | hc
      · exact ne_kind (by rw [la5.rbk]; decide)
      · obtain ⟨j, hj, e'⟩ := List.getElem_of_mem hc
        rw [la5.rlb j c (by rw [List.getElem?_eq_getElem hj, e'])]
        exact ne76 j) e
    have r7 := r6.put eb5 (ys5 ++ [.ref lt])
    show Ends.nx _ _ (upd H6 b5 (.lst (ys5 ++ [.ref lt])))
    generalize upd H6 b5 (.lst (ys5 ++ [.ref lt])) = H7 at t57 o67 al57 r7 t67
    have pl7 := la5.plain.keep t57 fun c o hc e => o67 c o (ne_kind (by show _ ≠ 7; omega)) (o56 c o (ne_kind (by show _ ≠ 6; omega)) e)
    refine ⟨_, rfl, a.p, _, _, rfl, pl7.ins, rfl, _, rfl, _, rfl, _, rfl, ro, a.p, a.pa, n, R, near, B, q, _, nd, h, z, t, rfl, pl7, hh, hz, ht, by omega, fun v hv => Nat.le_trans (la.lenQ ((la.adj h hh v).mp hv)) (by decide), by omega, fun lp H8 c8 hlp pl8 => ?_⟩
    have lnum : (ofHome h (B h)).length ≤ 40 := Nat.le_trans (List.length_filter_le _ _) (by omega)
    have gdl : Gd (newLine B h z t) := ⟨hz, ht, by have := la.nbig; show h ≤ 16; omega, lnum⟩
    obtain ⟨w1, w2, w3, w4⟩ := gdl.shows
    have hlt8 : H8 lt = some (.tup (lineV (newLine B h z t))) := c8.tups _ _ (t57 _ _ hlt5)
    refine ⟨lp, lnD (newLine B h z t), rfl, LnAt.dp ⟨lp, rfl, hlp⟩, w1, w2, w3, w4, _, rfl, lt, lnD (newLine B h z t), rfl, LnAt.dp ⟨lt, rfl, hlt8⟩, w1, w2, w3, w4, rfl, ?_⟩
    rw [decide_eq_true rfl]
    have t58 : Tups H5 H8 := t57.trans c8.tups
    have o58 : ∀ c o, ((ro c).1 = 0 ∨ 5 ≤ (ro c).1) → ro c ≠ (6, 0, 0) → ro c ≠ (7, h, 0) → H5 c = some o → H8 c = some o := fun c o h1 h2 h3 e => c8.keep c o h1 (o67 c o h3 (o56 c o h2 e))
    have st58 : St0 ro H5 H8 := ⟨t58, fun c o hc e => o58 c o (.inl hc) (ne_kind (by rw [hc]; decide)) (ne_kind (by rw [hc]; show 0 ≠ 7; decide)) e⟩
    obtain ⟨rs, hrs, prs⟩ := la5.roads
    have e8 : madeQ q h (newLine B h z t) = comeQ q h none (newLine B h z t) := by
      funext x y
      unfold madeQ comeQ
      by_cases zz : x = h
      · rw [if_pos zz, if_pos ⟨zz, by simp⟩]
      · rw [if_neg zz, if_neg (fun w => zz w.1)]
    refine k z t H8 (st5.trans st58) ⟨la5.rwd, la5.rrl, st58.keep _ _ la5.rwd la5.world, ⟨rs, st58.keep _ _ la5.rrl hrs, kysMono t58 prs⟩, ?_, ⟨_, r7.keep fun c o hc e => c8.keep c o ?_ e, fun u hu => ?_⟩, la5.rbk, la5.rlb, la5.ways.st st58, la5.box.keep fun o e => o58 _ o (.inr (by rw [la5.rbx]; decide)) (by rw [la5.rbx]; exact ne_kind (by decide)) (by rw [la5.rbx]; exact ne_kind (by show 5 ≠ 7; decide)) e, la5.rbx,
      ⟨kvs ++ [(kk (newLine B h z t).key.1 (newLine B h z t).key.2, .ref D2)], c8.keep _ _ (.inr (by rw [la5.rnt]; decide)) (o67 _ _ (by rw [la5.rnt]; exact fun z => ne76 h z.symm) hnt6), Paired.snoc (Paired.mapP pn5 fun _ _ w => w.st st58) ⟨rfl, D2, vs4, rfl, rD2, st58.keep _ _ rD2 hv5, kysMono t58 pk5⟩⟩, la5.rnt, la5.lv.al (al57.trans c8.free), fun u hu l hl => ?_, la5.adj, la5.town, la5.tree, la.std.make la.tree hh z t, la5.nbig, la5.mbig, by rw [List.length_append]; exact lns, by omega, lc⟩
    · rw [e8]
      refine pl8.congrM fun u hu => ?_
      unfold madeM upB
      by_cases zz : u = h
      · subst zz
        rw [if_pos rfl, if_pos rfl]
        have : ofHome u (B u ++ [newLine B u z t]) = ofHome u (B u) ++ [newLine B u z t] := by
          unfold ofHome
          rw [List.filter_append]
          simp [newLine]
        rw [this, List.length_append] <;> rfl
      · rw [if_neg zz, if_neg zz]
    · rcases hc with rfl | hc
      · exact .inl la5.rbk
      · obtain ⟨j, hj, e'⟩ := List.getElem_of_mem hc
        rw [la5.rlb j c (by rw [List.getElem?_eq_getElem hj, e'])]
        exact .inr (by show 5 ≤ 7; decide)
    · by_cases zz : u = h
      · subst zz
        rw [upB_same]
        try dsimp only
        rw [if_pos rfl]
        exact Paired.snoc (lnsMono t58 py5) ⟨lt, rfl, hlt8⟩
      · rw [upB_ne zz]
        try dsimp only
        rw [if_neg zz]
        exact lnsMono t58 (pB5 u hu)
    · by_cases zz : u = h
      · subst zz
        rw [upB_same] at hl
        rcases List.mem_append.mp hl with w | w
        · exact la.gd u hu l w
        · rw [List.mem_singleton.mp w]
          exact gdl
      · rw [upB_ne zz] at hl
        exact la.gd u hu l hl
end
end K9
end

section
set_option Elab.async false
set_option linter.all false
set_option maxRecDepth 100000
set_option maxHeartbeats 1000000
namespace K9
open PySem PySem.Spec PyProof.Rows L2
/-! the law's hand -/
section
variable {P : Program} {w : World} {K : PySem.W.Frag} {mg : Str → Option Value} {base : Heap}
def spLhand (K : PySem.W.Frag) : Sp := fun vs H Q _ => ∃ (ro : Ro) (a : LA) (n : Nat) (R : List Ky) (many : Nat) (near : Nat → List Nat) (W : Nat → Nat → List Nat) (B : Nat → List Line) (q : Nat → Nat → List Line) (ns : Notes) (c nd u v : Nat) (l : Line) (rest : List Line),
  vs = [.ref a.p, .ref a.bk, .ref a.wy, nV u, nV v] ∧ LawAt K ro H a n R many near W B q ns c nd ∧ RdAdj R u v ∧ q u v = l :: rest ∧ nd + 1 ≤ 100 ∧
  ∀ H', St0 ro H H' → LawAt K ro H' a n R many near W (upB B v (B v ++ [l])) (handQ q u v l rest) ns c (nd + 1) → Q (.bl true) H'
theorem h_l_hand (T : Top K mg) : HasG P w K mg base 8 (He.ga K "_law_hand") A_l_hand (spLhand K) := by
  refine hasG_of T.f_l_hand sc_l_hand (fun _ _ _ _ _ _ us hl => match us, hl with | [_, _, _, _, _], _ => rfl) (fun vs H Q E h => ?_) (fun cdv A outer s H vs Q E hg hr h => ?_)
  · obtain ⟨ro, a, n, R, many, near, W, B, q, ns, c, nd, u, v, l, rest, rfl, _⟩ := h
    rfl
  · obtain ⟨ro, a, n, R, many, near, W, B, q, ns, c, nd, u, v, l, rest, rfl, la, ad, eq, lnd, k⟩ := h
    refine ⟨_, pss_cons (ps_set (i := 5) sc_l_hand.nd rfl (Or.inl rfl) (pe_ix ix_list (pe_lc (own := [("_law_row", 6)]) (g := gName 6) (tt := tReady K 6 3 4 1 2) rfl sc_l_hand.nd (pi_list (pe_ix ix_list (pv 1) (pv 3) (fun _ _ => rfl))) (blkOk_by (N := N_l_hand) (sc := defScope s_l_hand) (by decide +kernel)) (fun _ _ _ _ _ => pg_name (i := 6) sc_l_hand.nd rfl (Or.inl rfl))
              (fun _ _ _ _ _ => pts_one (PW.pt (pw_and (pt_cmpR (r := rNotInD K) (op_notInD (u65 hr)) (pv 6) (pe_ix (r := rIxL K) ix_list (pv 1) (pv 4) (fun _ _ => rfl)) rfl) (pw_and1 (pt_cmpR (r := rIn K false) op_in_seq (pv 3) (pe_ix (r := rIxL K) ix_list (pe_ix (r := rIxL K) ix_list (pv 2) (pe_ix (r := rIxT K) ix_tup (pv 6) pe_int (fun _ _ => rfl)) (fun _ _ => rfl)) (pv 4) (fun _ _ => rfl)) rfl)))))
              (fun _ _ _ _ _ => pv 6)) pe_int (fun _ _ => rfl)))
      (pss_cons (ps_expr (pe_bm PySem.F.plainAttrs_list PySem.F.slot_list_append PySem.F.type_list_append mt_append (pe_ix ix_list (pv 1) (pv 4) (fun _ _ => rfl)) (pa_cons (pv 5) pa_nil)))
      (pss_one (ps_ret (pe_cmpR op_eq (pe_blt (call_repr_data hg (u70 hr)) T.z_repr (pa_cons (pe_useM (pv 0) T.cl_Plain T.m_Plain_hand (h_Plain_hand T) hr (pa_cons (pv 3) (pa_cons (pv 4) pa_nil))) pa_nil))
        (pe_blt (call_repr_data hg (u70 hr)) T.z_repr (pa_cons (pv 5) pa_nil)) (nomark _))))), ?_⟩
    obtain ⟨hu, hv⟩ := la.tree.lt ad
    have lq : l ∈ q u v := by rw [eq]; exact List.mem_cons_self
    have lmem := la.std.q_mem ad lq
    have lnot := la.std.q_not la.tree ad lq
    have lhome : l.home ≠ v := fun z => lnot (by rw [← z]; exact la.std.atHome la.tree hu lmem.1)
    obtain ⟨b, ys, eb, eb2, hb, py, hbk⟩ := la.bookAt hu
    have lB := la.lenB hu
    have lBv := la.lenB hv
    have ly := Paired.length py
    refine ⟨_, rfl, _, rfl, a.bk, _, _, _, rfl, rfl, SqL.of hbk, atI_nat eb2, b, rfl, ⟨ys, SqL.of hb⟩, fun D hD => ?_⟩
    refine lcKeep (R := LnAt H) (ls := B u) (n := ys.length) walk_list rfl py (fun l => decide (l ∉ B v) && decide (u ∈ W l.home v)) (fun H' s => s.seq (SqL.of hb)) hD (by omega) (by show 6 < 7; omega) (fun _ => rfl) ?_ ?_
    · rintro y m H4 Q4 hy hm s4 k4
      exact ready_test (la.same s4) hu hv hm (hy.mono s4.tups) rfl rfl rfl rfl rfl (k4 H4 (L2.Same.refl _))
    intro H5 ws s5 hD5 pw
    rw [la.std.ready la.tree ad, eq] at pw
    obtain ⟨y, ws', rfl⟩ : ∃ y ys', ws = y :: ys' := by cases pw; exact ⟨_, _, rfl⟩
    obtain ⟨lt, rfl, hlt0⟩ : LnAt H y l := by cases pw with | cons h t => exact h
    have hlt5 := s5 _ _ hlt0
    have la5 := la.same s5
    have st5 : St0 ro H H5 := St0.of s5
    refine ⟨D, _, 0, .ref lt, rfl, rfl, SqL.of hD5, at_of (j := 0) (by omega) rfl, ?_⟩
    obtain ⟨b5, ys5, eb5, eb5', hb5, py5, hbk5⟩ := la5.bookAt hv
    have rb5 := la5.rlb v b5 eb5
    have ly5 := Paired.length py5
    refine ⟨_, rfl, _, rfl, a.bk, _, _, _, rfl, rfl, SqL.of hbk5, atI_nat eb5', .inl ⟨rfl, _, SqL.of hb5⟩, _, rfl, b5, ys5, _, rfl, rfl, hb5, Nat.lt_of_le_of_lt (by omega : ys5.length ≤ 1000) (by decide), ?_⟩
    have t57 : Tups H5 (upd H5 b5 (.lst (ys5 ++ [.ref lt]))) := Tups.wr hb5 (by intro _ z; cases z)
    have o57 : ∀ c o, ro c ≠ (7, v, 0) → H5 c = some o → upd H5 b5 (.lst (ys5 ++ [.ref lt])) c = some o := fun c o hc e => by rw [upd_ne (ne_ro (ro := ro) (by rw [rb5]; exact hc))]; exact e
    have al57 : Al H5 (upd H5 b5 (.lst (ys5 ++ [.ref lt]))) := Al.up _ _ _
    obtain ⟨fB, r5, pB5⟩ := la5.books
    have r7 := r5.put eb5 (ys5 ++ [.ref lt])
    show Ends.nx _ _ (upd H5 b5 (.lst (ys5 ++ [.ref lt])))
    generalize upd H5 b5 (.lst (ys5 ++ [.ref lt])) = H7 at t57 o57 al57 r7
    have pl7 := la5.plain.keep t57 fun c o hc e => o57 c o (ne_kind (by show _ ≠ 7; omega)) e
    refine ⟨_, rfl, a.p, _, _, rfl, pl7.ins, rfl, _, rfl, _, rfl, ro, a.p, a.pa, n, R, near, B, q, _, nd, u, v, l, rest, rfl, pl7, hu, (la.adj u hu v).mpr ad, eq, fun x hx => la.wds hu x (la.std.q_mem ad hx).1, by omega, fun x hx => Nat.le_trans (la.lenQ ((la.adj v hv x).mp hx)) (by decide), by omega, fun lp H8 c8 hlp pl8 => ?_⟩
    have gdl := la.gd u hu l lmem.1
    obtain ⟨w1, w2, w3, w4⟩ := gdl.shows
    have hlt8 : H8 lt = some (.tup (lineV l)) := c8.tups _ _ (t57 _ _ hlt5)
    refine ⟨lp, lnD l, rfl, LnAt.dp ⟨lp, rfl, hlp⟩, w1, w2, w3, w4, _, rfl, lt, lnD l, rfl, LnAt.dp ⟨lt, rfl, hlt8⟩, w1, w2, w3, w4, rfl, ?_⟩
    rw [decide_eq_true rfl]
    have t58 : Tups H5 H8 := t57.trans c8.tups
    have o58 : ∀ c o, ((ro c).1 = 0 ∨ 5 ≤ (ro c).1) → ro c ≠ (7, v, 0) → H5 c = some o → H8 c = some o := fun c o h1 h3 e => c8.keep c o h1 (o57 c o h3 e)
    have st58 : St0 ro H5 H8 := ⟨t58, fun c o hc e => o58 c o (.inl hc) (ne_kind (by rw [hc]; show 0 ≠ 7; decide)) e⟩
    obtain ⟨rs, hrs, prs⟩ := la5.roads
    obtain ⟨kvs, hk5, pn5⟩ := la5.notes
    refine k H8 (st5.trans st58) ⟨la5.rwd, la5.rrl, st58.keep _ _ la5.rwd la5.world, ⟨rs, st58.keep _ _ la5.rrl hrs, kysMono t58 prs⟩, ?_, ⟨_, r7.keep fun c o hc e => c8.keep c o ?_ e, fun x hx => ?_⟩, la5.rbk, la5.rlb, la5.ways.st st58, la5.box.keep fun o e => o58 _ o (.inr (by rw [la5.rbx]; decide)) (by rw [la5.rbx]; exact ne_kind (by show 5 ≠ 7; decide)) e, la5.rbx,
      ⟨kvs, o58 _ _ (.inr (by rw [la5.rnt]; decide)) (by rw [la5.rnt]; exact fun z => ne76 v z.symm) hk5, Paired.mapP pn5 fun _ _ w => w.st st58⟩, la5.rnt, la5.lv.al (al57.trans c8.free), fun x hx m hm => ?_, la5.adj, la5.town, la5.tree, la.std.hand la.tree ad eq, la5.nbig, la5.mbig, la5.lns, by omega, la5.lc⟩
    · refine pl8.congrM fun x hx => ?_
      unfold upB
      by_cases zz : x = v
      · subst zz
        rw [if_pos rfl]
        have : ofHome x (B x ++ [l]) = ofHome x (B x) := by
          unfold ofHome
          rw [List.filter_append]
          simp [lhome]
        rw [this]
      · rw [if_neg zz]
    · rcases hc with rfl | hc
      · exact .inl la5.rbk
      · obtain ⟨j, hj, e'⟩ := List.getElem_of_mem hc
        rw [la5.rlb j c (by rw [List.getElem?_eq_getElem hj, e'])]
        exact .inr (by show 5 ≤ 7; decide)
    · by_cases zz : x = v
      · subst zz
        rw [upB_same]
        try dsimp only
        rw [if_pos rfl]
        exact Paired.snoc (lnsMono t58 py5) ⟨lt, rfl, hlt8⟩
      · rw [upB_ne zz]
        try dsimp only
        rw [if_neg zz]
        exact lnsMono t58 (pB5 x hx)
    · by_cases zz : x = v
      · subst zz
        rw [upB_same] at hm
        rcases List.mem_append.mp hm with w | w
        · exact la.gd x hx m w
        · rw [List.mem_singleton.mp w]
          exact gdl
      · rw [upB_ne zz] at hm
        exact la.gd x hx m hm
end
end K9
end

section
set_option Elab.async false
set_option linter.all false
set_option maxRecDepth 100000
set_option maxHeartbeats 1000000
namespace K9
open PySem PySem.Spec PyProof.Rows L2
/-! the law's book_right, apart -/
theorem filter_none {α : Type} {p : α → Bool} {l : List α} (h : ∀ x ∈ l, p x = false) : l.filter p = [] := List.filter_eq_nil_iff.mpr fun x hx z => by
  rw [h x hx] at z
  cases z
section
variable {P : Program} {w : World} {K : PySem.W.Frag} {mg : Str → Option Value} {base : Heap}
/-- k not in xs, xs a list of keys -/
theorem ky_not {H : Hp} {x : V} {k : Ky} (hx : KyAt H x k) {b : Addr} {ys : List V} (hb : H b = some (.lst ys)) {l : List Ky} (py : Paired (KyAt H) ys l) {Q : VK} (q : Q (.bl (decide (k ∉ l))) H) : rNotInD K x (.ref b) H Q := by
  refine ⟨kyD k, _, hx.dp, .lst (SqL.of hb) (dpAll_of (fun v y h => KyAt.dp h) py), kyD_shaped k, kyDs_shaped l, ?_⟩
  rw [any_eqv kyD_eqv]
  have key : ∀ b : Bool, (b = true ↔ k ∈ l) → Q (.bl (!b)) H := fun b hb => by
    by_cases h : k ∈ l
    · rw [hb.mpr h]
      rw [decide_eq_false (not_not_intro h)] at q
      exact q
    · have e : b = false := by
        cases b with
        | false => rfl
        | true => exact (h (hb.mp rfl)).elim
      rw [e]
      rw [decide_eq_true h] at q
      exact q
  exact key _ (by simp)
/-- a list of keys that is empty -/
theorem ky_nil {H : Hp} {D : Addr} (hD : H D = some (.lst [])) {e : Addr} (he : H e = none) {Q : VK} (q : Q (.bl false) (upd H e (.lst []))) : rNeD K (.ref D) (.ref e) (upd H e (.lst [])) Q := by
  refine ⟨.list [], .list [], .lst (SqL.of (by rw [upd_ne (ne_of_none hD he)]; exact hD)) .nil, .lst (SqL.of upd_same) .nil, nil_shaped, nil_shaped, ?_⟩
  have e : (!PyData.eqv (.list []) (.list [])) = false := by rw [eqv_nil] <;> rfl
  rw [e]
  exact q
def spBookRight : Sp := fun vs H Q _ => ∃ (ro : Ro) (kl nt : Addr) (v : Nat) (xs : List V) (KL : List Ky) (kvs : List (List Key × V)) (ns : Notes), vs = [.ref kl, nV v, .ref nt] ∧ H kl = some (.lst xs) ∧ Paired (KyAt H) xs KL ∧ KL.length ≤ 100 ∧ H nt = some (.dT kvs) ∧ Paired (NoteAt ro H) kvs ns ∧
  (∀ (i : Nat) (k : Ky), KL[i]? = some k → ∃ ks, look ns k = some ks ∧ ks.length ≤ 100 ∧ (∀ x ∈ ks, x ∈ KL.take i) ∧ (k.1 = v → ks = KL.take i)) ∧ ∀ H', Same H H' → Q (.bl true) H'
theorem h_l_book_right (T : Top K mg) : Has P w K mg base 1 (He.ga K "_law_book_right") A_l_book_right spBookRight := by
  refine has_of T.f_l_book_right sc_l_book_right (fun _ _ _ _ _ _ us hl => match us, hl with | [_, _, _], _ => rfl) (fun vs H Q E h => ?_) (fun cdv A outer s H vs Q E hr h => ?_)
  · obtain ⟨ro, kl, nt, v, xs, KL, kvs, ns, rfl, _⟩ := h
    rfl
  · obtain ⟨ro, kl, nt, v, xs, KL, kvs, ns, rfl, hkl, px, lK, hnt, pn, hk, q⟩ := h
    have lcN : ∀ {X : Cx} (a b : Nat), True := fun _ _ => trivial
    refine ⟨_, pss_cons (ps_for PassesOwn.never rfl (pi_range1 (by rfl) T.z_range (pa_cons (pe_blt call_len_seq T.z_len (pa_cons (pv 0) pa_nil)) pa_nil)) (pg_name (i := 3) sc_l_book_right.nd rfl (Or.inl rfl))
        (pss_cons (ps_asg (pe_tup (pa_cons (pe_slice sl_list (pv 0) po_none (po_some (pv 3))) (pa_cons (pe_dget (hu_of hr) (pv 2) (pe_ix ix_list (pv 0) (pv 3) (fun _ _ => rfl)) (fun _ _ => rfl)) pa_nil))) (pg_tup rfl (pgs_cons (pg_name (i := 4) sc_l_book_right.nd rfl (Or.inr rfl)) (pgs_cons (pg_name (i := 5) sc_l_book_right.nd rfl (Or.inr rfl)) pgs_nil))))
        (pss_cons (ps_if (pt_cmpR (op_neD hr.units) (pe_lc (own := [("_law_key", 6)]) (g := gName 6) (tt := tTest (tOp (rNotInD K) (tVar 6) (tVar 4))) rfl sc_l_book_right.nd (pi_list (pv 5)) (blkOk_by (N := N_l_book_right) (sc := defScope s_l_book_right) (by decide +kernel)) (fun _ _ _ _ _ => pg_name (i := 6) sc_l_book_right.nd rfl (Or.inl rfl))
              (fun _ _ _ _ _ => pts_one (pt_cmpR (r := rNotInD K) (op_notInD (u65 hr)) (pv 6) (pv 4) rfl)) (fun _ _ _ _ _ => pv 6)) (pe_lst pa_nil) (nomark _)) (pss_one (ps_ret pe_bl)) pss_nil)
        (pss_one (ps_if (PW.pt (pw_and (pt_cmpR op_eq (pe_ix ix_tup (pe_ix ix_list (pv 0) (pv 3) (fun _ _ => rfl)) pe_int (fun _ _ => rfl)) (pv 1) (nomark _))
            (pw_and1 (pt_cmpR (op_neD hr.units) (pe_lc (own := [("_law_key", 6)]) (g := gName 6) (tt := tTest (tOp (rNotInD K) (tVar 6) (tVar 5))) rfl sc_l_book_right.nd (pi_list (pv 4)) (blkOk_by (N := N_l_book_right) (sc := defScope s_l_book_right) (by decide +kernel)) (fun _ _ _ _ _ => pg_name (i := 6) sc_l_book_right.nd rfl (Or.inl rfl))
              (fun _ _ _ _ _ => pts_one (pt_cmpR (r := rNotInD K) (op_notInD (u65 hr)) (pv 6) (pv 5) rfl)) (fun _ _ _ _ _ => pv 6)) (pe_lst pa_nil) (nomark _))))) (pss_one (ps_ret pe_bl)) pss_nil)))))
      (pss_one (ps_ret pe_bl)), ?_⟩
    have lx := Paired.length px
    refine ⟨_, rfl, kl, xs, rfl, .inl (SqL.of hkl), (xs.length : Int), rfl, by omega, by omega, ?_⟩
    have en : ((xs.length : Nat) : Int).toNat = xs.length := by omega
    rw [en]
    refine for_range (fun i σ H' => ∃ v3 v4 v5, σ = [some (.ref kl), some (nV v), some (.ref nt), v3, v4, v5, none] ∧ Same H H') ⟨none, none, none, rfl, L2.Same.refl H⟩ ?_ ?_
    · rintro i σ H1 hi ⟨v3, v4, v5, rfl, s1⟩
      have ei : V.int (0 + (i : Int)) = nV i := congrArg V.int (by omega)
      rw [ei]
      have hkl1 := s1 _ _ hkl
      refine ⟨_, rfl, _, rfl, i, rfl, kl, xs, rfl, SqL.of hkl1, fun p hp => ?_⟩
      rw [cutV_take]
      have s2 := s1.newr (o := .lst (xs.take i)) hp
      have hp2 : upd H1 p (.lst (xs.take i)) p = some (.lst (xs.take i)) := upd_same
      show tCons _ _ _ (upd H1 p (.lst (xs.take i))) _
      generalize upd H1 p (.lst (xs.take i)) = H2 at s2 hp2
      obtain ⟨k, ek⟩ : ∃ k, KL[i]? = some k := ⟨KL[i]'(by omega), List.getElem?_eq_getElem (by omega)⟩
      obtain ⟨x, ex, a, rfl, ha⟩ := Paired.at' px ek
      obtain ⟨ks, hlk, lks, hsub, heq⟩ := hk i k ek
      have pn2 : Paired (NoteAt ro H2) kvs ns := Paired.mapP pn fun _ _ z => z.st (St0.of s2)
      obtain ⟨da, dvs, hval, _, hda, pda⟩ := look_note pn2 hlk
      refine ⟨_, rfl, _, rfl, _, rfl, kl, xs, _, _, rfl, rfl, SqL.of (s2 _ _ hkl), atI_nat ex, nt, _, rfl, .inr ⟨kvs, kk k.1 k.2, a, .inl (s2 _ _ hnt), rfl, s2 _ _ ha, hval.symm⟩, (by decide : 2 ≤ sizeLine), fun t ht => ?_⟩
      have s3 := s2.newr (o := .tup [.ref p, .ref da]) ht
      have s23 : Same H2 (upd H2 t (.tup [.ref p, .ref da])) := Same.new ht
      refine ⟨t, _, rfl, SqT.of upd_same, rfl, _, _, rfl, _, _, rfl, rfl, ?_⟩
      have hp3 := s23 _ _ hp2
      have hda3 := s23 _ _ hda
      have pda3 := kysMono s23.tups pda
      show tSeq _ _ _ _ (upd H2 t (.tup [.ref p, .ref da]))
      generalize upd H2 t (.tup [.ref p, .ref da]) = H3 at s3 hp3 hda3 pda3
      have pa3 : Paired (KyAt H3) (xs.take i) (KL.take i) := kysMono s3.tups (Paired.take_ i px)
      have lda := Paired.length pda3
      refine ⟨_, rfl, da, rfl, ⟨dvs, SqL.of hda3⟩, fun D hD => ?_⟩
      refine lcKeep (R := KyAt H3) (ls := ks) (n := dvs.length) walk_list rfl pda3 (fun k => decide (k ∉ KL.take i)) (fun H' s => s.seq (SqL.of hda3)) hD (by omega) (by show 6 < 7; omega) (fun _ => rfl) ?_ ?_
      · rintro y m H4 Q4 hy hm s4 k4
        exact ⟨_, rfl, _, rfl, ky_not (hy.mono s4.tups) (s4 _ _ hp3) (kysMono s4.tups pa3) ⟨_, rfl, k4 H4 (L2.Same.refl _)⟩⟩
      intro H4 ws s4 hD4 pw
      rw [filter_none (fun x hx => decide_eq_false (not_not_intro (hsub x hx)))] at pw
      cases pw
      refine ⟨(by decide : 0 ≤ sizeLine), fun e he => ky_nil hD4 he ⟨false, rfl, ?_⟩⟩
      refine iteF ?_
      have s5 : Same H3 (upd H4 e (.lst [])) := s4.newr he
      show tNext _ _ (upd H4 e (.lst []))
      generalize upd H4 e (.lst []) = H5 at s5
      have s05 := L2.Same.trans s3 s5
      refine ⟨_, rfl, _, rfl, kl, xs, _, _, rfl, rfl, SqL.of (s05 _ _ hkl), atI_nat ex, a, _, _, _, rfl, rfl, SqT.of (s05 _ _ ha), (rfl : atI (kyV k) 0 = some (nV k.1)), _, rfl, rfl, _, rfl, ?_⟩
      rw [dec_nV]
      by_cases hv : k.1 = v
      · rw [decide_eq_true hv]
        refine iteT ?_
        have hp5 := s5 _ _ hp3
        have pa5 := kysMono s5.tups pa3
        have la5 := Paired.length pa5
        refine ⟨_, rfl, p, rfl, ⟨_, SqL.of hp5⟩, fun D2 hD2 => ?_⟩
        refine lcKeep (R := KyAt H5) (ls := KL.take i) (n := (xs.take i).length) walk_list rfl pa5 (fun k => decide (k ∉ ks)) (fun H' s => s.seq (SqL.of hp5)) hD2 (by rw [List.length_take]; omega) (by show 6 < 7; omega) (fun _ => rfl) ?_ ?_
        · rintro y m H6 Q6 hy hm s6 k6
          exact ⟨_, rfl, _, rfl, ky_not (hy.mono s6.tups) (s6 _ _ (s5 _ _ hda3)) (kysMono (s5.trans s6).tups pda3) ⟨_, rfl, k6 H6 (L2.Same.refl _)⟩⟩
        intro H6 ws6 s6 hD6 pw6
        rw [filter_none (fun x hx => decide_eq_false (not_not_intro (by rw [heq hv]; exact hx)))] at pw6
        cases pw6
        refine ⟨(by decide : 0 ≤ sizeLine), fun e7 he7 => ky_nil hD6 he7 ⟨false, rfl, ?_⟩⟩
        exact iteF ⟨_, _, _, rfl, (L2.Same.trans s05 s6).newr he7⟩
      · rw [decide_eq_false hv]
        exact iteF (iteF ⟨_, _, _, rfl, s05⟩)
    · rintro σ H1 ⟨v3, v4, v5, rfl, s1⟩
      exact q H1 s1
end
end K9
end

section
set_option Elab.async false
set_option linter.all false
set_option maxRecDepth 100000
set_option maxHeartbeats 1000000
namespace K9
open PySem PySem.Spec PyProof.Rows L2
/-! the law's apart -/
theorem idx_min {k : Ky} : ∀ {l : List Ky} {m : Nat} {z : Ky}, m < l.idxOf k → l[m]? = some z → z ≠ k
  | [], _, _, h, _ => by simp at h
  | a :: l, m, z, h, e => by
    rw [List.idxOf_cons] at h
    by_cases ha : a = k
    · have hb : (a == k) = true := by simp [ha]
      rw [hb] at h
      exact (Nat.not_lt_zero m h).elim
    · have hb : (a == k) = false := by simpa using ha
      rw [hb] at h
      cases m with
      | zero =>
        simp at e
        rw [← e]
        exact ha
      | succ m =>
        have h' : m + 1 < l.idxOf k + 1 := h
        exact idx_min (l := l) (m := m) (by omega) (by simpa using e)
theorem ky_index {K : PySem.W.Frag} {H : Hp} {b : Addr} {ys : List V} {l : List Ky} (hb : H b = some (.lst ys)) (py : Paired (KyAt H) ys l) {x : V} {k : Ky} (hx : KyAt H x k) (hk : k ∈ l) {Q : VK} (q : Q (.int ((l.idxOf k : Nat) : Int)) H) : rIndexD K (.ref b) [x] H Q := by
  have hj : l.idxOf k < l.length := List.idxOf_lt_length_iff.mpr hk
  refine ⟨b, x, kyD k, l.map kyD, l.idxOf k, kyD k, rfl, rfl, .lst (SqL.of hb) (dpAll_of (fun v y h => KyAt.dp h) py), hx.dp, kyDs_shaped l, kyD_shaped k, ?_, ?_, fun m z hm e => ?_, q⟩
  · rw [List.getElem?_map, List.getElem?_eq_getElem hj, List.getElem_idxOf hj] <;> rfl
  · rw [kyD_eqv, decide_eq_true rfl]
  · rw [List.getElem?_map] at e
    cases h : l[m]? with
    | none => rw [h] at e; cases e
    | some y =>
      rw [h] at e
      obtain rfl := Option.some.inj e
      rw [kyD_eqv, decide_eq_false (idx_min hm h)]
section
variable {P : Program} {w : World} {K : PySem.W.Frag} {mg : Str → Option Value} {base : Heap}
/-- k in xs -/
theorem ky_in {H : Hp} {x : V} {k : Ky} (hx : KyAt H x k) {b : Addr} {ys : List V} (hb : H b = some (.lst ys)) {l : List Ky} (py : Paired (KyAt H) ys l) {Q : VK} (q : Q (.bl (decide (k ∈ l))) H) : rInD K x (.ref b) H Q := by
  refine ⟨kyD k, _, hx.dp, .lst (SqL.of hb) (dpAll_of (fun v y h => KyAt.dp h) py), kyD_shaped k, kyDs_shaped l, ?_⟩
  rw [any_eqv kyD_eqv]
  have key : ∀ b : Bool, (b = true ↔ k ∈ l) → Q (.bl b) H := fun b hb => by
    by_cases h : k ∈ l
    · rw [hb.mpr h]
      rw [decide_eq_true h] at q
      exact q
    · have e : b = false := by
        cases b with
        | false => rfl
        | true => exact (h (hb.mp rfl)).elim
      rw [e]
      rw [decide_eq_false h] at q
      exact q
  exact key _ (by simp)
/-- what is told: for each house the keys of its row -/
def ToldAt (H : Hp) (tl : Addr) (n : Nat) (KB : Nat → List Ky) : Prop := ∃ zs, H tl = some (.lst zs) ∧ zs.length = n ∧ ∀ u, u < n → ∃ b xs, zs[u]? = some (.ref b) ∧ H b = some (.lst xs) ∧ Paired (KyAt H) xs (KB u)
theorem ToldAt.same {H H' : Hp} {tl : Addr} {n : Nat} {KB : Nat → List Ky} (h : ToldAt H tl n KB) (s : Same H H') : ToldAt H' tl n KB := by
  obtain ⟨zs, h1, h2, h3⟩ := h
  refine ⟨zs, s _ _ h1, h2, fun u hu => ?_⟩
  obtain ⟨b, xs, g1, g2, g3⟩ := h3 u hu
  exact ⟨b, xs, g1, s _ _ g2, kysMono s.tups g3⟩
def spApart : Sp := fun vs H Q _ => ∃ (ro : Ro) (tl nt : Addr) (n : Nat) (KB : Nat → List Ky) (kvs : List (List Key × V)) (ns : Notes), vs = [.ref tl, .ref nt] ∧ ToldAt H tl n KB ∧ H nt = some (.dT kvs) ∧ Paired (NoteAt ro H) kvs ns ∧
  (∀ x ∈ ns.map (·.1), x.1 < n ∧ x ∈ KB x.1 ∧ ∃ ks, look ns x = some ks ∧ ∀ z, z ∈ KB x.1 → (KB x.1).idxOf z < (KB x.1).idxOf x → z ∈ ks) ∧ ∀ H', Same H H' → Q (.bl true) H'
theorem h_l_apart (T : Top K mg) : Has P w K mg base 1 (He.ga K "_law_apart") A_l_apart spApart := by
  refine has_of T.f_l_apart sc_l_apart (fun _ _ _ _ _ _ us hl => match us, hl with | [_, _], _ => rfl) (fun vs H Q E h => ?_) (fun cdv A outer s H vs Q E hr h => ?_)
  · obtain ⟨ro, tl, nt, n, KB, kvs, ns, rfl, _⟩ := h
    rfl
  · obtain ⟨ro, tl, nt, n, KB, kvs, ns, rfl, hT, hnt, pn, hx, q⟩ := h
    refine ⟨_, pss_cons (ps_lock (ps_for PassesOwn.never rfl (pi_keys (pv 1)) (pg_name (i := 2) sc_l_apart.nd rfl (Or.inl rfl))
        (pss_one (ps_for PassesOwn.never rfl (pi_keys (pv 1)) (pg_name (i := 3) sc_l_apart.nd rfl (Or.inl rfl))
          (pss_one (ps_if (PW.pt (pw_and (pt_cmpR (op_neD hr.units) (pv 2) (pv 3) (nomark _)) (pw_and (pt_cmpR (op_notInD (u65 hr)) (pv 2) (pe_dget (hu_of hr) (pv 1) (pv 3) (fun _ _ => rfl)) rfl) (pw_and1 (pt_cmpR (op_notInD (u65 hr)) (pv 3) (pe_dget (hu_of hr) (pv 1) (pv 2) (fun _ _ => rfl)) rfl)))))
            (pss_cons (ps_set (i := 4) sc_l_apart.nd rfl (Or.inl rfl) (pe_ix ix_list (pv 0) (pe_ix ix_tup (pv 2) pe_int (fun _ _ => rfl)) (fun _ _ => rfl)))
            (pss_one (ps_if (PW.pt (pw_or (pt_cmpR (op_notInD (u65 hr)) (pv 2) (pv 4) rfl) (pw_or1 (PW.pt (pw_and (pt_cmpR (op_inD (u65 hr)) (pv 3) (pv 4) rfl)
                (pw_and1 (pt_cmpR op_lt (pe_bm PySem.F.plainAttrs_list PySem.F.slot_list_index PySem.F.type_list_index (mt_indexD (u65 hr)) (pv 4) (pa_cons (pv 3) pa_nil)) (pe_bm PySem.F.plainAttrs_list PySem.F.slot_list_index PySem.F.type_list_index (mt_indexD (u65 hr)) (pv 4) (pa_cons (pv 2) pa_nil)) (nomark _))))))))
              (pss_one (ps_ret pe_bl)) pss_nil))) pss_nil))))))
      (pss_one (ps_ret pe_bl)), ?_⟩
    refine ⟨nt, .dT kvs, hnt, trivial, fun od => ?_⟩
    have hnt0 : upd H nt (.frz od (.dT kvs)) nt = some (.frz od (.dT kvs)) := upd_same
    have off : ∀ b o, b ≠ nt → H b = some o → upd H nt (.frz od (.dT kvs)) b = some o := fun b o hb e => by rw [upd_ne hb]; exact e
    have back : Same H (upd (upd H nt (.frz od (.dT kvs))) nt (.dT kvs)) := fun b o e => by
      by_cases z : b = nt
      · rw [z, upd_same, ← hnt, ← z]; exact e
      · rw [upd_ne z, upd_ne z]; exact e
    have tp0 : Tups H (upd H nt (.frz od (.dT kvs))) := Tups.wr hnt (by intro _ z; cases z)
    generalize upd H nt (.frz od (.dT kvs)) = H0 at hnt0 off back tp0
    have lst_off : ∀ {b : Addr} {xs : List V}, H b = some (.lst xs) → H0 b = some (.lst xs) := fun {b xs} e => off b _ (fun z => by rw [z, hnt] at e; cases e) e
    obtain ⟨zs, hz, lz, az⟩ := hT
    have keyAt : ∀ (i : Nat) (k : List Key) (v : V) (p : Addr), kvs[i]? = some (k, v) → H0 p = some (.tup (k.map kV)) → ∃ x, x ∈ ns.map (·.1) ∧ KyAt H0 (.ref p) x ∧ k = kk x.1 x.2 := fun i k v p e hp => by
      obtain ⟨y, ey, h⟩ := Paired.at_ pn e
      have ek : k = kk y.1.1 y.1.2 := h.1
      refine ⟨y.1, List.mem_map.mpr ⟨y, List.mem_of_getElem? ey, rfl⟩, ⟨p, rfl, ?_⟩, ek⟩
      rw [hp, ek] <;> rfl
    refine ⟨_, rfl, nt, od, rfl, .inr ⟨kvs, hnt0, ?_⟩⟩
    refine for_it walk_keysT (fun i σ H' => H' = H0 ∧ ∃ v2 v3 v4, σ = [some (.ref tl), some (.ref nt), v2, v3, v4]) ⟨rfl, _, _, _, rfl⟩ (fun i σ H' _ e => by rw [e.1]; exact hnt0) ?_ ?_
    · rintro i xv σ H1 H1' hi ⟨rfl, v2, v3, v4, rfl⟩ ⟨rfl, k, vv, p, ek, rfl, hp⟩
      obtain ⟨x, mx, kx, rfl⟩ := keyAt i k vv p ek hp
      refine ⟨_, rfl, nt, od, rfl, .inr ⟨kvs, hnt0, ?_⟩⟩
      refine for_it walk_keysT (fun i σ H' => H' = H1' ∧ ∃ v3 v4, σ = [some (.ref tl), some (.ref nt), some (.ref p), v3, v4]) ⟨rfl, _, _, rfl⟩ (fun i σ H' _ e => by rw [e.1]; exact hnt0) ?_ ?_
      · rintro j zv σ H2 H2' hj ⟨rfl, v3', v4', rfl⟩ ⟨rfl, k2, vv2, p2, ek2, rfl, hp2⟩
        obtain ⟨z, mz, kz, rfl⟩ := keyAt j k2 vv2 p2 ek2 hp2
        obtain ⟨hxn, hxB, ks, lkx, apart⟩ := hx x mx
        obtain ⟨hzn, hzB, kz', lkz, _⟩ := hx z mz
        obtain ⟨dx, xsx, valx, _, hdx, pdx⟩ := look_note pn lkx
        obtain ⟨dz, xsz, valz, _, hdz, pdz⟩ := look_note pn lkz
        refine ⟨_, rfl, _, rfl, kyD x, kyD z, kx.dp, kz.dp, kyD_shaped x, kyD_shaped z, _, rfl, ?_⟩
        rw [kyD_eqv]
        by_cases hxz : x = z
        · rw [decide_eq_true hxz]
          exact iteF (iteF ⟨rfl, _, _, rfl⟩)
        · rw [decide_eq_false hxz]
          refine iteT ?_
          refine ⟨_, rfl, _, rfl, _, rfl, nt, _, rfl, .inr ⟨kvs, kk z.1 z.2, p2, .inr ⟨od, hnt0⟩, rfl, hp2, valz.symm⟩, ky_not kx (lst_off hdz) (kysMono tp0 pdz) ⟨_, rfl, ?_⟩⟩
          by_cases h1 : x ∈ kz'
          · rw [decide_eq_false (not_not_intro h1)]
            exact iteF (iteF ⟨rfl, _, _, rfl⟩)
          · rw [decide_eq_true h1]
            refine iteT ?_
            refine ⟨_, rfl, _, rfl, _, rfl, nt, _, rfl, .inr ⟨kvs, kk x.1 x.2, p, .inr ⟨od, hnt0⟩, rfl, hp, valx.symm⟩, ky_not kz (lst_off hdx) (kysMono tp0 pdx) ⟨_, rfl, ?_⟩⟩
            by_cases h2 : z ∈ ks
            · rw [decide_eq_false (not_not_intro h2)]
              exact iteF ⟨rfl, _, _, rfl⟩
            · rw [decide_eq_true h2]
              refine iteT ?_
              obtain ⟨hb, hxs, eh, hhb, ph⟩ := az x.1 hxn
              have ph0 := kysMono tp0 ph
              refine ⟨_, rfl, _, rfl, p, _, _, _, rfl, rfl, SqT.of hp, (rfl : atI (kyV x) 0 = some (nV x.1)), tl, zs, _, _, rfl, rfl, SqL.of (lst_off hz), atI_nat eh, ?_⟩
              refine ⟨_, rfl, _, rfl, ky_not kx (lst_off hhb) ph0 ⟨_, rfl, ?_⟩⟩
              rw [decide_eq_false (not_not_intro hxB)]
              refine iteF ?_
              refine ⟨_, rfl, _, rfl, ky_in kz (lst_off hhb) ph0 ⟨_, rfl, ?_⟩⟩
              by_cases h3 : z ∈ KB x.1
              · rw [decide_eq_true h3]
                refine iteT ?_
                refine ⟨_, rfl, .inl ⟨rfl, _, SqL.of (lst_off hhb)⟩, _, rfl, ?_⟩
                dsimp only [tNil]
                refine ky_index (lst_off hhb) ph0 kz h3 ?_
                refine ⟨_, rfl, .inl ⟨rfl, _, SqL.of (lst_off hhb)⟩, _, rfl, ?_⟩
                dsimp only [tNil]
                refine ky_index (lst_off hhb) ph0 kx hxB ?_
                refine ⟨_, _, rfl, rfl, _, rfl, ?_⟩
                rw [decide_eq_false (fun w => h2 (apart z h3 (by omega)))]
                exact iteF ⟨rfl, _, _, rfl⟩
              · rw [decide_eq_false h3]
                exact iteF (iteF ⟨rfl, _, _, rfl⟩)
      · rintro σ H2 ⟨rfl, v3', v4', rfl⟩
        exact ⟨rfl, _, _, _, rfl⟩
    · rintro σ H1 ⟨rfl, v2, v3, v4, rfl⟩
      exact ⟨hnt0, q _ back⟩
end
end K9
end

section
set_option Elab.async false
set_option linter.all false
set_option maxRecDepth 100000
set_option maxHeartbeats 1000000
namespace K9
open PySem PySem.Spec PyProof.Rows L2
/-! the law's ways_right -/
section
variable {P : Program} {w : World} {K : PySem.W.Frag} {mg : Str → Option Value} {base : Heap}
/-- line[:2] for line in a row -/
theorem keys_of {H1 : Hp} {D : Addr} (hD : H1 D = none) {xs : List V} {l : List Line} {J : It} {n : Nat} {G : Hp → Prop} (wk : Walk J n G (YAt xs)) (hn : xs.length = n) (hG : ∀ H, Same H1 H → G H) (px : Paired (LnAt H1) xs l) (hl : xs.length ≤ 1000) {i : Nat} {vs : List Nat} {σ : L2.St} {Qd : Hp → Prop}
    (hw : ∀ v, wipe ((wipe σ vs).set i (some v)) vs = wipe σ vs) (hi : ∀ v : V, ((wipe σ vs).set i (some v))[i]? = some (some v)) (hd : ∀ H zs, Same H1 H → H D = some (.lst zs) → Paired (KyAt H) zs (keysL l) → Qd H) :
    ∃ Wv : Nat → Nat → Hp → Prop, (∃ m, Wv 0 m (upd H1 D (.lst []))) ∧ ∀ k m H, Wv k m H →
      (J.stop k H ∧ Qd H) ∨ (J.go k H ∧ ∃ Nx : Hp → Prop, (∀ H', Nx H' → ∃ m', m' < m ∧ Wv (k + 1) m' H') ∧ ∀ x H', J.yld k H x H' → gName i x (wipe σ vs) H' fun σ2 H2 => wipe σ2 vs = wipe σ vs ∧ tYes σ2 H2 fun b H3 =>
        if b = true then tSl (rSlT K) (tVar i) tNoPart (tPart (tC (.int 2))) σ2 H3 fun y H4 => ∃ acc, H4 D = some (.lst acc) ∧ acc.length < sizeLine ∧ Nx (upd H4 D (.lst (acc ++ [y]))) else Nx H3) := by
  refine lcEach (R := LnAt H1) (ls := l) (R2 := fun H y k => ∃ a, y = .ref a ∧ a ≠ D ∧ H a = some (.tup (kyV k))) (n := n) wk hn px Ln.key hG hD (by omega) hw ?_ ?_ ?_
  · rintro G G' y r k ⟨a, e, ha, h⟩
    exact ⟨a, e, ha, k a _ ha h⟩
  · rintro x l H4 Q4 ⟨ax, rfl, hax⟩ hl s4 ⟨vs4, hv4⟩ k4
    refine ⟨_, hi _, _, rfl, ax, _, rfl, SqT.of (s4 _ _ hax), fun z => absurd (show HT.sIx 4 4 (some 2) = 4 from z.2) (by decide), fun p hp => ?_⟩
    rw [show (2 : Int) = ((2 : Nat) : Int) from rfl, cutV_take]
    exact k4 _ _ (Same.new hp) ⟨p, rfl, fun z => ne_of_none hv4 hp z.symm, upd_same⟩
  · intro H zs s hz pz
    exact hd H zs s hz (Paired.mapP pz fun v r ⟨a, e, _, h⟩ => ⟨a, e, h⟩)
def spWaysRight (K : PySem.W.Frag) : Sp := fun vs H Q _ => ∃ (ro : Ro) (a : LA) (tl : Addr) (n : Nat) (R : List Ky) (many : Nat) (near : Nat → List Nat) (W : Nat → Nat → List Nat) (B : Nat → List Line) (q : Nat → Nat → List Line) (ns : Notes) (c nd : Nat),
  vs = [.ref a.wd, .ref a.p, .ref tl, .ref a.nt] ∧ LawAt K ro H a n R many near W B q ns c nd ∧ ToldAt H tl n (fun u => keysL (B u)) ∧ ∀ H', Same H H' → Q (.bl true) H'
theorem h_l_ways_right (T : Top K mg) : Has P w K mg base 7 (He.ga K "_law_ways_right") A_l_ways_right (spWaysRight K) := by
  refine has_of T.f_l_ways_right sc_l_ways_right (fun _ _ _ _ _ _ us hl => match us, hl with | [_, _, _, _], _ => rfl) (fun vs H Q E h => ?_) (fun cdv A outer s H vs Q E hr h => ?_)
  · obtain ⟨ro, a, tl, n, R, many, near, W, B, q, ns, c, nd, rfl, _⟩ := h
    rfl
  · obtain ⟨ro, a, tl, n, R, many, near, W, B, q, ns, c, nd, rfl, la, hT, k⟩ := h
    refine ⟨_, pss_cons (ps_for PassesOwn.never rfl (pi_list (pe_use (h_l_both T) (hr.mono (by decide)) T.g_l_both (pa_cons (pv 0) pa_nil))) (pg_tup rfl (pgs_cons (pg_name (i := 4) sc_l_ways_right.nd rfl (Or.inl rfl)) (pgs_cons (pg_name (i := 5) sc_l_ways_right.nd rfl (Or.inr rfl)) pgs_nil)))
        (pss_cons (ps_set (i := 6) sc_l_ways_right.nd rfl (Or.inr rfl) (pe_lc (own := [("_law_line", 8)]) (g := gName 8) (tt := tYes) rfl sc_l_ways_right.nd (pi_tup (pe_useM (pv 1) T.cl_Plain T.m_Plain_under_way (h_Plain_under_way T) hr (pa_cons (pv 4) (pa_cons (pv 5) pa_nil)))) (blkOk_by (N := N_l_ways_right) (sc := defScope s_l_ways_right) (by decide +kernel))
            (fun _ _ _ _ _ => pg_name (i := 8) sc_l_ways_right.nd rfl (Or.inl rfl)) (fun _ _ _ _ _ => pts_nil) (fun _ _ _ _ _ => pe_slice (r := rSlT K) sl_tup (pv 8) po_none (po_some pe_int))))
        (pss_one (ps_for PassesOwn.never rfl (pi_range1 (by rfl) T.z_range (pa_cons (pe_blt call_len_seq T.z_len (pa_cons (pv 6) pa_nil)) pa_nil)) (pg_name (i := 7) sc_l_ways_right.nd rfl (Or.inr rfl))
          (pss_cons (ps_if (PW.pt (pw_or (pt_cmpR (op_notInD (u65 hr)) (pe_ix ix_list (pv 6) (pv 7) (fun _ _ => rfl)) (pe_ix ix_list (pv 2) (pv 4) (fun _ _ => rfl)) rfl) (pw_or1 (pt_cmpR (op_inD (u65 hr)) (pe_ix ix_list (pv 6) (pv 7) (fun _ _ => rfl)) (pe_ix ix_list (pv 2) (pv 5) (fun _ _ => rfl)) rfl)))) (pss_one (ps_ret pe_bl)) pss_nil)
          (pss_one (ps_if (pt_cmpR (op_neD hr.units) (pe_lc (own := [("_law_key", 9)]) (g := gName 9) (tt := tAnd (tTest (tOp (rNotInD K) (tVar 9) (tSl (rSlL K) (tVar 6) tNoPart (tPart (tVar 7))))) (tTest (tOp (rNotInD K) (tVar 9) (tOp (rIxL K) (tVar 2) (tVar 5))))) rfl sc_l_ways_right.nd
                (pi_list (pe_dget (hu_of hr) (pv 3) (pe_ix ix_list (pv 6) (pv 7) (fun _ _ => rfl)) (fun _ _ => rfl))) (blkOk_by (N := N_l_ways_right) (sc := defScope s_l_ways_right) (by decide +kernel)) (fun _ _ _ _ _ => pg_name (i := 9) sc_l_ways_right.nd rfl (Or.inl rfl))
                (fun _ _ _ _ _ => pts_one (PW.pt (pw_and (pt_cmpR (r := rNotInD K) (op_notInD (u65 hr)) (pv 9) (pe_slice (r := rSlL K) sl_list (pv 6) po_none (po_some (pv 7))) rfl) (pw_and1 (pt_cmpR (r := rNotInD K) (op_notInD (u65 hr)) (pv 9) (pe_ix (r := rIxL K) ix_list (pv 2) (pv 5) (fun _ _ => rfl)) rfl)))))
                (fun _ _ _ _ _ => pv 9)) (pe_lst pa_nil) (nomark _)) (pss_one (ps_ret pe_bl)) pss_nil)))))))
      (pss_one (ps_ret pe_bl)), ?_⟩
    have hR : R.length ≤ 20 := by have := la.town.len; have := la.nbig; omega
    refine ⟨_, rfl, a.wd, n, R, many, rfl, la.worldAt, hR, fun L xs E H2 s2 hL hL2 px hE lE => ?_⟩
    refine ⟨L, rfl, ⟨xs, SqL.of hL2⟩, ?_⟩
    refine for_list (xs := xs) (fun i σ H' => ∃ v4 v5 v6 v7, σ = [some (.ref a.wd), some (.ref a.p), some (.ref tl), some (.ref a.nt), v4, v5, v6, v7, none, none] ∧ Same H2 H') ⟨none, none, none, none, rfl, L2.Same.refl H2⟩ (fun i σ H' _ ⟨_, _, _, _, _, s⟩ => SqL.of (s _ _ hL2)) ?_ ?_
    · rintro i x σ H3 hx ⟨v4, v5, v6, v7, rfl, s3⟩
      obtain ⟨⟨u, v⟩, er, t, rfl, ht⟩ := Paired.at_ px hx
      have ad : RdAdj R u v := (hE _).mp (List.mem_of_getElem? er)
      obtain ⟨hu, hv⟩ := la.tree.lt ad
      refine ⟨t, _, rfl, SqT.of (s3 _ _ ht), rfl, _, _, rfl, _, _, rfl, rfl, ?_⟩
      have s03 := L2.Same.trans s2 s3
      have la3 := la.same s03
      refine ⟨_, rfl, a.p, _, _, rfl, la3.plain.ins, rfl, _, rfl, _, rfl, ro, a.p, a.pa, n, R, near, B, q, _, nd, u, v, rfl, la3.plain, hu, (la.adj u hu v).mpr ad, fun r ys H4 s4 hr4 py => ?_⟩
      refine ⟨r, rfl, ⟨ys, SqT.of hr4⟩, fun D hD => ?_⟩
      have lq := la.lenQ ad
      have ly := Paired.length py
      refine keys_of hD walk_tup rfl (fun H s => SqT.of (s _ _ hr4)) py (by omega) (fun _ => rfl) (fun _ => rfl) ?_
      intro H5 zs s5 hz pz
      have s05 := L2.Same.trans s03 (L2.Same.trans s4 s5)
      have lz := Paired.length pz
      have lk : (keysL (q u v)).length = (q u v).length := by unfold keysL; rw [List.length_map]
      refine ⟨_, rfl, D, zs, rfl, .inl (SqL.of hz), (zs.length : Int), rfl, by omega, by omega, ?_⟩
      have en : ((zs.length : Nat) : Int).toNat = zs.length := by omega
      rw [en]
      refine for_range (fun j σ H' => ∃ v7, σ = [some (.ref a.wd), some (.ref a.p), some (.ref tl), some (.ref a.nt), some (nV u), some (nV v), some (.ref D), v7, none, none] ∧ Same H5 H') ⟨_, rfl, L2.Same.refl H5⟩ ?_ ?_
      · rintro j σ H6 hj ⟨v7', rfl, s6⟩
        have ej : V.int (0 + (j : Int)) = nV j := congrArg V.int (by omega)
        rw [ej]
        obtain ⟨l, el⟩ : ∃ l, (q u v)[j]? = some l := ⟨(q u v)[j]'(by omega), List.getElem?_eq_getElem (by omega)⟩
        have ekk : (keysL (q u v))[j]? = some l.key := by unfold keysL; rw [List.getElem?_map, el] <;> rfl
        obtain ⟨xz, ez, ak, rfl, hak⟩ := Paired.at' pz ekk
        obtain ⟨w1, w2, ks, hlk, w4⟩ := la.std.onWay la.tree ad el
        have s06 := L2.Same.trans s05 s6
        obtain ⟨ts, hts, lts, ats⟩ := hT.same s06
        obtain ⟨bu, xu, eu, hbu, pbu⟩ := ats u hu
        obtain ⟨bv, xv, ev, hbv, pbv⟩ := ats v hv
        have hz6 := s6 _ _ hz
        have hak6 := s6 _ _ hak
        have kx : KyAt H6 (.ref ak) l.key := ⟨ak, rfl, hak6⟩
        refine ⟨_, rfl, _, rfl, D, zs, _, _, rfl, rfl, SqL.of hz6, atI_nat ez, _, rfl, _, rfl, tl, ts, _, _, rfl, rfl, SqL.of hts, atI_nat eu, ky_not kx hbu pbu ⟨_, rfl, ?_⟩⟩
        rw [decide_eq_false (not_not_intro w1)]
        refine iteF ?_
        refine ⟨_, rfl, _, rfl, D, zs, _, _, rfl, rfl, SqL.of hz6, atI_nat ez, _, rfl, _, rfl, tl, ts, _, _, rfl, rfl, SqL.of hts, atI_nat ev, ky_in kx hbv pbv ⟨_, rfl, ?_⟩⟩
        rw [decide_eq_false w2]
        refine iteF ?_
        have la6 := la.same s06
        obtain ⟨kvs, hnt6, pn6⟩ := la6.notes
        obtain ⟨da, dvs, hval, _, hda, pda⟩ := look_note pn6 hlk
        have ksn : ks.length ≤ 100 := by
          have h1 : (l.key, ks) ∈ ns := look_mem hlk
          have h2 : ks.Nodup := la.std.inj _ h1
          have h3 := nodup_sub h2 (m := (keysL (q u v)).take j ++ keysL (B v)) (fun x hx => List.mem_append.mpr (w4 x hx))
          have h4 := la.lenB hv
          rw [List.length_append, List.length_take] at h3
          have h5 : (keysL (B v)).length = (B v).length := by unfold keysL; rw [List.length_map]
          omega
        have lda := Paired.length pda
        refine ⟨_, rfl, _, rfl, _, rfl, D, zs, _, _, rfl, rfl, SqL.of hz6, atI_nat ez, a.nt, _, rfl, .inr ⟨kvs, kk l.key.1 l.key.2, ak, .inl hnt6, rfl, hak6, hval.symm⟩, da, rfl, ⟨dvs, SqL.of hda⟩, fun D2 hD2 => ?_⟩
        refine lcKeep (R := KyAt H6) (ls := ks) (n := dvs.length) walk_list rfl pda (fun k => decide (k ∉ (keysL (q u v)).take j) && decide (k ∉ keysL (B v))) (fun H' s => s.seq (SqL.of hda)) hD2 (by omega) (by show 9 < 10; omega) (fun _ => rfl) ?_ ?_
        · rintro y m H7 Q7 hy hm s7 k7
          refine ⟨_, rfl, _, rfl, _, rfl, j, rfl, D, zs, rfl, SqL.of (s7 _ _ hz6), fun p hp => ?_⟩
          rw [cutV_take]
          have s78 : Same H7 (upd H7 p (.lst (zs.take j))) := Same.new hp
          have hp8 : upd H7 p (.lst (zs.take j)) p = some (.lst (zs.take j)) := upd_same
          refine ky_not (hy.mono (s7.trans s78).tups) hp8 (kysMono (s6.trans (s7.trans s78)).tups (Paired.take_ j pz)) ⟨_, rfl, ?_⟩
          by_cases h1 : m ∈ (keysL (q u v)).take j
          · rw [decide_eq_false (not_not_intro h1)]
            refine iteF ?_
            have := k7 _ s78
            rw [decide_eq_false (not_not_intro h1)] at this
            exact this
          · rw [decide_eq_true h1]
            refine iteT ?_
            have := k7 _ s78
            rw [decide_eq_true h1] at this
            exact ⟨_, rfl, _, rfl, _, rfl, tl, ts, _, _, rfl, rfl, SqL.of (s78 _ _ (s7 _ _ hts)), atI_nat ev, ky_not (hy.mono (s7.trans s78).tups) (s78 _ _ (s7 _ _ hbv)) (kysMono (s7.trans s78).tups pbv) ⟨_, rfl, this⟩⟩
        intro H7 ws s7 hD7 pw
        rw [filter_none (fun x hx => by
          rcases w4 x hx with h | h
          · rw [decide_eq_false (not_not_intro h)] <;> rfl
          · rw [decide_eq_false (p := x ∉ keysL (B v)) (not_not_intro h), Bool.and_false])] at pw
        cases pw
        refine ⟨(by decide : 0 ≤ sizeLine), fun e he => ky_nil hD7 he ⟨false, rfl, ?_⟩⟩
        exact iteF ⟨_, rfl, (L2.Same.trans s6 s7).newr he⟩
      · rintro σ H6 ⟨v7', rfl, s6⟩
        exact ⟨_, _, _, _, rfl, L2.Same.trans s3 (L2.Same.trans (L2.Same.trans s4 s5) s6)⟩
    · rintro σ H3 ⟨v4, v5, v6, v7, rfl, s3⟩
      exact k H3 (L2.Same.trans s2 s3)
end
end K9
end

section
set_option Elab.async false
set_option linter.all false
set_option maxRecDepth 100000
set_option maxHeartbeats 1000000
namespace K9
open PySem PySem.Spec PyProof.Rows L2
/-! the law's right_now -/
abbrev scKey : Scope := { kind := .function, names := [(".0", .local), ("_law_key", .cell), ("_law_house", .free), ("_law_told", .free), ("_law_ways", .free)], isGenerator := false, isCoroutine := false }
abbrev rLenK (K : PySem.W.Frag) : List V → Hp → VK → Prop := fun xs H Q => ∃ p ys, xs = [.ref p] ∧ (SqL K H p ys ∨ SqT K H p ys) ∧ Q (.int ys.length) H
/-- [e for x in xs if ..], e a plain value -/
theorem lcSel {J : It} {n : Nat} {G : Hp → Prop} {xs : List V} {β : Type} {R : V → β → Prop} {ls : List β} {H1 : Hp} {D : Addr} {Qd : Hp → Prop} {tt : TT} {te : TE} {vs : List Nat} {σ : L2.St} {i : Nat}
    (w : Walk J n G (YAt xs)) (hn : xs.length = n) (pr : Paired R xs ls) (p : β → Bool) (f : β → V) (hG : ∀ H, Same H1 H → G H) (hD : H1 D = none) (hlen : n ≤ 1000) (hw : ∀ v, wipe ((wipe σ vs).set i (some v)) vs = wipe σ vs)
    (ht : ∀ x l H2 (Q : Bool → Hp → Prop), R x l → l ∈ ls → Same H1 H2 → Q (p l) H2 → tt ((wipe σ vs).set i (some x)) H2 Q)
    (he : ∀ x l H2 (Q : VK), R x l → l ∈ ls → Same H1 H2 → Q (f l) H2 → te ((wipe σ vs).set i (some x)) H2 Q)
    (hd : ∀ H, Same H1 H → H D = some (.lst ((ls.filter p).map f)) → Qd H) :
    ∃ Wv : Nat → Nat → Hp → Prop, (∃ m, Wv 0 m (upd H1 D (.lst []))) ∧ ∀ k m H, Wv k m H →
      (J.stop k H ∧ Qd H) ∨ (J.go k H ∧ ∃ Nx : Hp → Prop, (∀ H', Nx H' → ∃ m', m' < m ∧ Wv (k + 1) m' H') ∧ ∀ x H', J.yld k H x H' → gName i x (wipe σ vs) H' fun σ2 H2 => wipe σ2 vs = wipe σ vs ∧ tt σ2 H2 fun b H3 =>
        if b = true then te σ2 H3 fun y H4 => ∃ acc, H4 D = some (.lst acc) ∧ acc.length < sizeLine ∧ Nx (upd H4 D (.lst (acc ++ [y]))) else Nx H3) := by
  refine lc_it w (fun k H => Same H1 H ∧ H D = some (.lst (((ls.take k).filter p).map f))) ⟨Same.new hD, upd_same⟩ (fun k H _ q => hG H q.1) ?_ ?_
  · rintro k x H H' hk ⟨s1, hz⟩ ⟨rfl, ex⟩
    obtain ⟨l, el, rl⟩ := Paired.at_ pr ex
    have e1 : (ls.take (k + 1)).filter p = (ls.take k).filter p ++ (if p l then [l] else []) := take_succ_filter p ls k l el
    refine ⟨hw x, ht x l _ _ rl (List.mem_of_getElem? el) s1 ?_⟩
    refine ite2 (fun hp => ?_) (fun hp => ?_)
    · refine he x l _ _ rl (List.mem_of_getElem? el) s1 ⟨_, hz, ?_, s1.wr hD, ?_⟩
      · have h2 := List.length_filter_le p (ls.take k)
        rw [List.length_take] at h2
        rw [List.length_map]
        exact Nat.lt_of_le_of_lt (by omega : ((ls.take k).filter p).length ≤ 1000) (by decide)
      · rw [upd_same, e1, if_pos hp, List.map_append] <;> rfl
    · refine ⟨s1, ?_⟩
      rw [e1, if_neg hp, List.append_nil]
      exact hz
  · rintro H ⟨s1, hz⟩
    refine hd H s1 ?_
    have : ls.length = n := by rw [← Paired.length pr]; exact hn
    rwa [List.take_of_length_le (by omega)] at hz
theorem nat_list : ∀ {zs : List V} {cs : List Nat}, Paired (fun y c => y = nV c) zs cs → zs = nsV cs
  | _, _, .nil => rfl
  | _, _, .cons h t => by rw [h, nat_list t] <;> rfl
theorem ky_ints {H : Hp} : ∀ {xs : List V} {KL : List Ky}, Paired (KyAt H) xs KL → ∃ ks : List (Addr × List Int), xs = ks.map (fun p => V.ref p.1) ∧ (∀ p ∈ ks, H p.1 = some (.tup (p.2.map V.int))) ∧ ks.map (·.2) = KL.map fun k => [(k.1 : Int), (k.2 : Int)]
  | _, _, .nil => ⟨[], rfl, fun p hp => (List.not_mem_nil hp).elim, rfl⟩
  | _, k :: _, .cons h t => by
    obtain ⟨ks, e1, e2, e3⟩ := ky_ints t
    obtain ⟨a, rfl, ha⟩ := h
    refine ⟨(a, [(k.1 : Int), (k.2 : Int)]) :: ks, by rw [e1] <;> rfl, fun p hp => ?_, by rw [List.map_cons, e3] <;> rfl⟩
    rcases List.mem_cons.mp hp with z | z
    · rw [z]; exact ha
    · exact e2 p z
theorem ints_nd {KL : List Ky} (h : KL.Nodup) : (KL.map fun k => [(k.1 : Int), (k.2 : Int)]).Nodup := by
  refine List.pairwise_map.mpr (List.Pairwise.imp (fun {a b} hab e => hab ?_) h)
  injection e with e1 e2
  injection e2 with e2 _
  exact Prod.ext (by omega) (by omega)
theorem flat_len {B : Nat → List Line} {n : Nat} (h : ∀ u, u < n → (B u).length ≤ 11) : ∀ i, i ≤ n → ((List.range i).flatMap B).length ≤ 11 * i
  | 0, _ => by simp
  | i + 1, hi => by
    have h1 := flat_len h i (by omega)
    have h2 := h i (by omega)
    have e : ([i] : List Nat).flatMap B = B i := by simp
    rw [List.range_succ, List.flatMap_append, List.length_append, e]
    omega
/-- a row of keys, not TL -/
def RowK (B : Nat → List Line) (TL : Addr) (H : Hp) (v : V) (u : Nat) : Prop := ∃ b xs, v = .ref b ∧ b ≠ TL ∧ H b = some (.lst xs) ∧ Paired (KyAt H) xs (keysL (B u))
theorem RowK.mono {B : Nat → List Line} {TL : Addr} {H H' : Hp} (s : ∀ b o, b ≠ TL → H b = some o → H' b = some o) (t : Tups H H') {v : V} {u : Nat} (h : RowK B TL H v u) : RowK B TL H' v u :=
  let ⟨b, xs, e, n, h1, h2⟩ := h; ⟨b, xs, e, n, s _ _ n h1, kysMono t h2⟩
section
variable {P : Program} {w : World} {K : PySem.W.Frag} {mg : Str → Option Value} {base : Heap}
def spRightNow (K : PySem.W.Frag) : Sp := fun vs H Q _ => ∃ (ro : Ro) (a : LA) (n : Nat) (R : List Ky) (many : Nat) (near : Nat → List Nat) (W : Nat → Nat → List Nat) (B : Nat → List Line) (q : Nat → Nat → List Line) (ns : Notes) (c nd : Nat),
  vs = [.ref a.wd, .ref a.p, .ref a.wy, .ref a.bk, .ref a.nt] ∧ LawAt K ro H a n R many near W B q ns c nd ∧ ∀ H', Same H H' → Q (.bl true) H'
theorem h_l_right_now (T : Top K mg) : Has P w K mg base 8 (He.ga K "_law_right_now") A_l_right_now (spRightNow K) := by
  refine has_of T.f_l_right_now sc_l_right_now (fun _ _ _ _ _ _ us hl => match us, hl with | [_, _, _, _, _], _ => rfl) (fun vs H Q E h => ?_) (fun cdv A outer s H vs Q E hr h => ?_)
  · obtain ⟨ro, a, n, R, many, near, W, B, q, ns, c, nd, rfl, _⟩ := h
    rfl
  · obtain ⟨ro, a, n, R, many, near, W, B, q, ns, c, nd, rfl, la, k⟩ := h
    have hr1 : Room 1 _ := hr.mono (by decide)
    have hr5 : Room 5 _ := hr.mono (by decide)
    refine ⟨_, pss_cons (ps_asg (pe_tup (pa_cons (pe_lst pa_nil) (pa_cons (pe_lst pa_nil) (pa_cons (pe_lst pa_nil) pa_nil)))) (pg_tup rfl (pgs_cons (pg_name (i := 5) sc_l_right_now.nd rfl (Or.inr rfl)) (pgs_cons (pg_name (i := 6) sc_l_right_now.nd rfl (Or.inl rfl)) (pgs_cons (pg_name (i := 7) sc_l_right_now.nd rfl (Or.inr rfl)) pgs_nil)))))
      (pss_cons (ps_for PassesOwn.never rfl (pi_range1 (by rfl) T.z_range (pa_cons (pe_ix ix_list (pv 0) pe_int (fun _ _ => rfl)) pa_nil)) (pg_name (i := 8) sc_l_right_now.nd rfl (Or.inr rfl))
        (pss_cons (ps_set (i := 9) sc_l_right_now.nd rfl (Or.inl rfl) (pe_useM (pv 1) T.cl_Plain T.m_Plain_row (h_Plain_row T) hr5 (pa_cons (pv 8) pa_nil)))
        (pss_cons (ps_expr (pe_bm PySem.F.plainAttrs_list PySem.F.slot_list_append PySem.F.type_list_append mt_append (pv 5) (pa_cons (pe_lc (own := [("_law_line", 12)]) (g := gName 12) (tt := tYes) rfl sc_l_right_now.nd (pi_tup (pv 9)) (blkOk_by (N := N_l_right_now) (sc := defScope s_l_right_now) (by decide +kernel))
            (fun _ _ _ _ _ => pg_name (i := 12) sc_l_right_now.nd rfl (Or.inl rfl)) (fun _ _ _ _ _ => pts_nil) (fun _ _ _ _ _ => pe_slice (r := rSlT K) sl_tup (pv 12) po_none (po_some pe_int))) pa_nil)))
        (pss_one (ps_asg (pe_tup (pa_cons (pe_op op_cat (pv 6) (pe_blty call_list_of T.z_list (pa_cons (pv 9) pa_nil))) (pa_cons (pe_op op_cat (pv 7) (pe_ix ix_list (pv 3) (pv 8) (fun _ _ => rfl))) pa_nil))) (pg_tup rfl (pgs_cons (pg_name (i := 6) sc_l_right_now.nd rfl (Or.inl rfl)) (pgs_cons (pg_name (i := 7) sc_l_right_now.nd rfl (Or.inr rfl)) pgs_nil))))))))
      (pss_cons (ps_if (PW.pt (pw_or (pt_cmpR (op_neD hr.units) (pe_lc (own := [("_law_line", 12)]) (g := gName 12) (tt := tTest (tOp (rNotInD K) (tVar 12) (tVar 7))) rfl sc_l_right_now.nd (pi_list (pv 6)) (blkOk_by (N := N_l_right_now) (sc := defScope s_l_right_now) (by decide +kernel)) (fun _ _ _ _ _ => pg_name (i := 12) sc_l_right_now.nd rfl (Or.inl rfl))
              (fun _ _ _ _ _ => pts_one (pt_cmpR (r := rNotInD K) (op_notInD (u65 hr)) (pv 12) (pv 7) rfl)) (fun _ _ _ _ _ => pv 12)) (pe_lst pa_nil) (nomark _))
            (pw_or1 (pt_cmpR (op_neD hr.units)
              (pe_lc (own := [("_law_keys", 10)]) (g := gName 10) (tt := tYes) rfl sc_l_right_now.nd (pi_list (pv 5)) (blkOk_by (N := N_l_right_now) (sc := defScope s_l_right_now) (by decide +kernel)) (fun _ _ _ _ _ => pg_name (i := 10) sc_l_right_now.nd rfl (Or.inl rfl)) (fun _ _ _ _ _ => pts_nil) (fun _ _ _ _ _ => pe_blt (r := rLenK K) call_len_seq T.z_len (pa_cons (pv 10) pa_nil)))
              (pe_lc (own := [("_law_book", 9)]) (g := gName 9) (tt := tYes) rfl sc_l_right_now.nd (pi_list (pv 3)) (blkOk_by (N := N_l_right_now) (sc := defScope s_l_right_now) (by decide +kernel)) (fun _ _ _ _ _ => pg_name (i := 9) sc_l_right_now.nd rfl (Or.inl rfl)) (fun _ _ _ _ _ => pts_nil) (fun _ _ _ _ _ => pe_blt (r := rLenK K) call_len_seq T.z_len (pa_cons (pv 9) pa_nil))) (nomark _)))))
          (pss_one (ps_ret pe_bl)) pss_nil)
      (pss_cons (ps_for PassesOwn.never rfl (pi_range1 (by rfl) T.z_range (pa_cons (pe_ix ix_list (pv 0) pe_int (fun _ _ => rfl)) pa_nil)) (pg_name (i := 8) sc_l_right_now.nd rfl (Or.inr rfl))
        (pss_cons (ps_set (i := 10) sc_l_right_now.nd rfl (Or.inl rfl) (pe_ix ix_list (pv 5) (pv 8) (fun _ _ => rfl)))
        (pss_cons (ps_if (PW.pt (pw_or (pt_cmpR op_ne (pe_blt call_len_setT T.z_len (pa_cons (pe_blty (cr_setOfT rfl hr.units) T.z_set (pa_cons (pv 10) pa_nil)) pa_nil)) (pe_blt call_len_seq T.z_len (pa_cons (pv 10) pa_nil)) (nomark _)) (pw_or1 (pt_not (pt_val (pe_use (h_l_book_right T) hr1 T.g_l_book_right (pa_cons (pv 10) (pa_cons (pv 8) (pa_cons (pv 4) pa_nil)))))))))
            (pss_one (ps_ret pe_bl)) pss_nil)
        (pss_cons (ps_for PassesOwn.never rfl (pi_range1 (by rfl) T.z_range (pa_cons (pe_ix ix_list (pv 0) pe_int (fun _ _ => rfl)) pa_nil)) (pg_name (i := 11) sc_l_right_now.nd rfl (Or.inr rfl))
          (pss_one (ps_if (pt_cmpR (op_neD hr.units)
              (pe_lc (own := [("_law_key", 13)]) (g := gName 13) (tt := tTest (tOp rEq (tOp (rIxT K) (tVar 13) (tC (.int 0))) (tVar 11))) rfl sc_l_right_now.nd (pi_list (pv 10)) (blkOk_by (N := N_l_right_now) (sc := defScope s_l_right_now) (by decide +kernel)) (fun _ _ _ _ _ => pg_name (i := 13) sc_l_right_now.nd rfl (Or.inl rfl))
                (fun _ _ _ _ _ => pts_one (pt_cmpR op_eq (pe_ix (r := rIxT K) ix_tup (pv 13) pe_int (fun _ _ => rfl)) (pv 11) (nomark _))) (fun _ _ _ _ _ => pe_ix (r := rIxT K) ix_tup (pv 13) pe_int (fun _ _ => rfl)))
              (pe_listRg rfl rfl T.z_list (prg_1 rfl T.z_range (pe_blt call_len_seq T.z_len (pa_cons (pe_lc (own := [("_law_key", 13)]) (g := gName 13) (tt := tTest (tOp rEq (tOp (rIxT K) (tVar 13) (tC (.int 0))) (tVar 11))) rfl sc_l_right_now.nd (pi_list (pv 10)) (blkOk_by (N := N_l_right_now) (sc := defScope s_l_right_now) (by decide +kernel)) (fun _ _ _ _ _ => pg_name (i := 13) sc_l_right_now.nd rfl (Or.inl rfl))
                (fun _ _ _ _ _ => pts_one (pt_cmpR op_eq (pe_ix (r := rIxT K) ix_tup (pv 13) pe_int (fun _ _ => rfl)) (pv 11) (nomark _))) (fun _ _ _ _ _ => pv 13)) pa_nil)))) (nomark _)) (pss_one (ps_ret pe_bl)) pss_nil)))
        (pss_one (ps_if (pt_cmpR (op_neD hr.units) (pe_lc (own := [("_law_key", 13)]) (g := gName 13)
              (tt := tTest (tOp (rNeD K) (tLc (iList K (tOp (rIxL K) (tOp (rIxL K) (tVar 2) (tOp (rIxT K) (tVar 13) (tC (.int 0)))) (tVar 8))) (gName 14) (tTest (tOp (rNotInD K) (tVar 13) (tOp (rIxL K) (tVar 5) (tVar 14)))) (tVar 14) [14]) (tLst tNil))) rfl sc_l_right_now.nd (pi_list (pv 10)) (blkOk_by (N := N_l_right_now) (sc := defScope s_l_right_now) (by decide +kernel)) (fun _ _ _ _ _ => pg_name (i := 13) sc_l_right_now.nd rfl (Or.inr rfl))
              (fun _ _ _ _ _ => pts_one (pt_cmpR (r := rNeD K) (op_neD hr.units) (pe_lc (own := [("_law_h", 14)]) (g := gName 14) (tt := tTest (tOp (rNotInD K) (tVar 13) (tOp (rIxL K) (tVar 5) (tVar 14)))) rfl sc_l_right_now.nd
                  (pi_list (pe_ix (r := rIxL K) ix_list (pe_ix (r := rIxL K) ix_list (pv 2) (pe_ix (r := rIxT K) ix_tup (pv 13) pe_int (fun _ _ => rfl)) (fun _ _ => rfl)) (pv 8) (fun _ _ => rfl)) : PI _ _ _ (iList K _)) (blkOk_by (N := N_l_right_now) (sc := relS scKey (defScope s_l_right_now)) (by decide +kernel)) (fun _ _ _ _ _ => pg_name (i := 14) sc_l_right_now.nd rfl (Or.inl rfl))
                  (fun _ _ _ _ _ => pts_one (pt_cmpR (r := rNotInD K) (op_notInD (u65 hr)) (pv 13) (pe_ix (r := rIxL K) ix_list (pv 5) (pv 14) (fun _ _ => rfl)) rfl)) (fun _ _ _ _ _ => pv 14)) (pe_lst pa_nil) (nomark _)))
              (fun _ _ _ _ _ => pv 13)) (pe_lst pa_nil) (nomark _)) (pss_one (ps_ret pe_bl)) pss_nil))))))
      (pss_one (ps_ret (pe_and (pe_use (h_l_apart T) hr1 T.g_l_apart (pa_cons (pv 5) (pa_cons (pv 4) pa_nil))) (pe_one (pe_use (h_l_ways_right T) hr T.g_l_ways_right (pa_cons (pv 0) (pa_cons (pv 1) (pa_cons (pv 5) (pa_cons (pv 4) pa_nil)))))))))))), ?_⟩
    have hn6 := la.nbig
    have lenB : ∀ u, u < n → (B u).length ≤ 11 := fun u hu => la.lenB hu
    have kl : ∀ u, (keysL (B u)).length = (B u).length := fun u => by unfold keysL; rw [List.length_map]
    refine ⟨(by decide : 0 ≤ sizeLine), fun TL hTL => ⟨(by decide : 0 ≤ sizeLine), fun ll hll => ⟨(by decide : 0 ≤ sizeLine), fun ml hml => ⟨(by decide : 3 ≤ sizeLine), fun tp htp => ?_⟩⟩⟩⟩
    refine ⟨tp, _, rfl, SqT.of upd_same, rfl, _, _, rfl, _, _, rfl, _, _, rfl, rfl, ?_⟩
    have hTl : TL ≠ ll := ne_of_none (upd_same (H := H) (a := TL)) hll
    have hTm : TL ≠ ml := ne_of_none ((Same.new hll) _ _ (upd_same (H := H) (a := TL))) hml
    have hTt : TL ≠ tp := ne_of_none (((Same.new hll).newr hml) _ _ (upd_same (H := H) (a := TL))) htp
    have hlm : ll ≠ ml := ne_of_none (upd_same (H := upd H TL (.lst [])) (a := ll)) hml
    have hlt : ll ≠ tp := ne_of_none ((Same.new hml) _ _ (upd_same (H := upd H TL (.lst [])) (a := ll))) htp
    have hmt : ml ≠ tp := ne_of_none (upd_same (H := upd (upd H TL (.lst [])) ll (.lst [])) (a := ml)) htp
    have s1 : Same H (upd (upd (upd (upd H TL (.lst [])) ll (.lst [])) ml (.lst [])) tp (.tup [.ref TL, .ref ll, .ref ml])) := (((Same.new hTL).newr hll).newr hml).newr htp
    have e1 : upd (upd (upd (upd H TL (.lst [])) ll (.lst [])) ml (.lst [])) tp (.tup [.ref TL, .ref ll, .ref ml]) TL = some (.lst []) := by rw [upd_ne hTt, upd_ne hTm, upd_ne hTl, upd_same]
    have e2 : upd (upd (upd (upd H TL (.lst [])) ll (.lst [])) ml (.lst [])) tp (.tup [.ref TL, .ref ll, .ref ml]) ll = some (.lst []) := by rw [upd_ne hlt, upd_ne hlm, upd_same]
    have e3 : upd (upd (upd (upd H TL (.lst [])) ll (.lst [])) ml (.lst [])) tp (.tup [.ref TL, .ref ll, .ref ml]) ml = some (.lst []) := by rw [upd_ne hmt, upd_same]
    show Ends.nx _ _ (upd (upd (upd (upd H TL (.lst [])) ll (.lst [])) ml (.lst [])) tp (.tup [.ref TL, .ref ll, .ref ml]))
    generalize upd (upd (upd (upd H TL (.lst [])) ll (.lst [])) ml (.lst [])) tp (.tup [.ref TL, .ref ll, .ref ml]) = H1 at s1 e1 e2 e3
    have en : ((n : Int)).toNat = n := by omega
    refine ⟨_, rfl, a.wd, _, _, _, rfl, rfl, SqL.of (s1 _ _ la.world), (rfl : atI [nV n, V.ref a.rl, nV many] 0 = some (nV n)), (n : Int), rfl, by omega, by omega, ?_⟩
    rw [en]
    refine for_range (fun i σ H' => i ≤ n ∧ ∃ ll ml v8 v9 ts xl xm, σ = [some (.ref a.wd), some (.ref a.p), some (.ref a.wy), some (.ref a.bk), some (.ref a.nt), some (.ref TL), some (.ref ll), some (.ref ml), v8, v9, none, none, none, none, none] ∧ Same H H' ∧ H' TL = some (.lst ts) ∧ Paired (RowK B TL H') ts (List.range i) ∧
        ll ≠ TL ∧ H' ll = some (.lst xl) ∧ Paired (LnAt H') xl ((List.range i).flatMap B) ∧ ml ≠ TL ∧ H' ml = some (.lst xm) ∧ Paired (LnAt H') xm ((List.range i).flatMap B))
      ⟨Nat.zero_le n, ll, ml, none, none, [], [], [], rfl, s1, e1, .nil, Ne.symm hTl, e2, .nil, Ne.symm hTm, e3, .nil⟩ ?_ ?_
    · rintro i σ H2 hi ⟨_, ll, ml, v8, v9, ts, xl, xm, rfl, s2, hT2, pT, nl, hl2, pl, nm, hm2, pm⟩
      have ei : V.int (0 + (i : Int)) = nV i := congrArg V.int (by omega)
      rw [ei]
      have la2 := la.same s2
      have lts := Paired.length pT
      rw [List.length_range] at lts
      have lxl := Paired.length pl
      have lxm := Paired.length pm
      have lfl := flat_len lenB i (by omega)
      have lbi := lenB i hi
      refine ⟨_, rfl, a.p, _, _, rfl, la2.plain.ins, rfl, _, rfl, ro, a.p, a.pa, n, R, near, B, q, _, nd, i, rfl, la2.plain, hi, fun r ys H3 s3 hr3 py => ?_⟩
      have lys := Paired.length py
      refine ⟨_, rfl, .inl ⟨rfl, _, SqL.of (s3 _ _ hT2)⟩, _, rfl, r, rfl, ⟨ys, SqT.of hr3⟩, fun D hD => ?_⟩
      refine keys_of hD walk_tup rfl (fun H s => SqT.of (s _ _ hr3)) py (by omega) (fun _ => rfl) (fun _ => rfl) ?_
      intro H4 zs s4 hz pz
      have s34 := L2.Same.trans s3 s4
      have hT4 := s34 _ _ hT2
      have hDT : D ≠ TL := fun z => by
        have := s3 _ _ hT2
        rw [← z, hD] at this
        cases this
      refine ⟨TL, ts, .ref D, rfl, rfl, hT4, Nat.lt_of_le_of_lt (by omega : ts.length ≤ 1000) (by decide), ?_⟩
      have t45 : Tups H4 (upd H4 TL (.lst (ts ++ [.ref D]))) := Tups.wr hT4 (by intro _ z; cases z)
      have o45 : ∀ b o, b ≠ TL → H4 b = some o → upd H4 TL (.lst (ts ++ [.ref D])) b = some o := fun b o hb e => by rw [upd_ne hb]; exact e
      have s5 : Same H (upd H4 TL (.lst (ts ++ [.ref D]))) := (L2.Same.trans s2 s34).wr hTL
      have hT5 : upd H4 TL (.lst (ts ++ [.ref D])) TL = some (.lst (ts ++ [.ref D])) := upd_same
      show Ends.nx _ _ (upd H4 TL (.lst (ts ++ [.ref D])))
      generalize upd H4 TL (.lst (ts ++ [.ref D])) = H5 at t45 o45 s5 hT5
      have hrT : r ≠ TL := fun z => by rw [← z, s4 _ _ hr3] at hT4; cases hT4
      have hr5 : H5 r = some (.tup ys) := t45 _ _ (s4 _ _ hr3)
      have pT5 : Paired (RowK B TL H5) (ts ++ [.ref D]) (List.range (i + 1)) := by
        rw [List.range_succ]
        exact Paired.snoc (Paired.mapP pT fun a b q => RowK.mono (fun c o hc e => o45 c o hc (s34 c o e)) (s34.tups.trans t45) q) ⟨D, zs, rfl, hDT, o45 _ _ hDT hz, kysMono t45 pz⟩
      have hl5 := o45 _ _ nl (s34 _ _ hl2)
      have hm5 := o45 _ _ nm (s34 _ _ hm2)
      have pl5 := lnsMono (s34.tups.trans t45) pl
      have pm5 := lnsMono (s34.tups.trans t45) pm
      have py5 := lnsMono (s4.tups.trans t45) py
      obtain ⟨bb, yb, eb, eb2, hbb, pb5, hbk5⟩ := (la.same s5).bookAt hi
      have lyb := Paired.length pb5
      refine ⟨_, rfl, _, rfl, r, ys, rfl, .inr (SqT.of hr5), fun l1 hl1 => ⟨ll, l1, xl, ys, rfl, rfl, Same.new hl1 _ _ hl5, upd_same, Nat.le_trans (by omega : xl.length + ys.length ≤ 1000) (by decide), fun l2 hl2' => ?_⟩⟩
      have s57 := (Same.new (o := .lst ys) hl1).newr (o := .lst (xl ++ ys)) hl2'
      refine ⟨_, rfl, _, rfl, _, rfl, a.bk, _, _, _, rfl, rfl, SqL.of (s57 _ _ hbk5), atI_nat eb2, ml, bb, xm, yb, rfl, rfl, s57 _ _ hm5, s57 _ _ hbb, Nat.le_trans (by omega : xm.length + yb.length ≤ 1000) (by decide), fun m2 hm2' => ⟨(by decide : 2 ≤ sizeLine), fun t ht => ?_⟩⟩
      refine ⟨t, _, rfl, SqT.of upd_same, rfl, _, _, rfl, _, _, rfl, rfl, ?_⟩
      have s8 := s57.newr (o := .lst (xm ++ yb)) hm2'
      have s9 := s8.newr (o := .tup [.ref l2, .ref m2]) ht
      have hl2T : l2 ≠ TL := fun z => by rw [z, Same.new hl1 _ _ hT5] at hl2'; cases hl2'
      have hm2T : m2 ≠ TL := fun z => by rw [z, s57 _ _ hT5] at hm2'; cases hm2'
      have hl2m : l2 ≠ m2 := ne_of_none (upd_same (H := upd H5 l1 (.lst ys)) (a := l2)) hm2'
      have fl : (List.range (i + 1)).flatMap B = (List.range i).flatMap B ++ B i := by
        rw [List.range_succ, List.flatMap_append]
        simp
      refine ⟨by omega, l2, m2, _, _, ts ++ [.ref D], xl ++ ys, xm ++ yb, rfl, L2.Same.trans s5 s9, s9 _ _ hT5, Paired.mapP pT5 fun a b q => RowK.mono (fun c o _ e => s9 c o e) s9.tups q, hl2T, ?_, ?_, hm2T, ?_, ?_⟩
      · rw [upd_ne (ne_of_none ((Same.new hm2') _ _ (upd_same (H := upd H5 l1 (.lst ys)) (a := l2))) ht), upd_ne hl2m, upd_same]
      · rw [fl]; exact Paired.app (lnsMono s9.tups pl5) (lnsMono s9.tups py5)
      · rw [upd_ne (ne_of_none (upd_same (H := upd (upd H5 l1 (.lst ys)) l2 (.lst (xl ++ ys))) (a := m2)) ht), upd_same]
      · rw [fl]; exact Paired.app (lnsMono s9.tups pm5) (lnsMono s9.tups pb5)
    rintro σ H2 ⟨_, ll, ml, v8, v9, ts, xl, xm, rfl, s2, hT2, pT, nl, hl2, pl, nm, hm2, pm⟩
    have lts := Paired.length pT
    rw [List.length_range] at lts
    have lxl := Paired.length pl
    have lfl := flat_len lenB n (Nat.le_refl n)
    have gdF : ∀ l ∈ (List.range n).flatMap B, Wd l := fun l hl => by
      obtain ⟨u, hu, hl⟩ := List.mem_flatMap.mp hl
      exact la.wds (List.mem_range.mp hu) l hl
    have told2 : ToldAt H2 TL n (fun u => keysL (B u)) := ⟨ts, hT2, lts, fun u hu => by
      obtain ⟨v, ev, b, xs, rfl, _, h1, h2⟩ := Paired.at' pT (List.getElem?_range hu)
      exact ⟨b, xs, ev, h1, h2⟩⟩
    refine ⟨_, rfl, ll, rfl, ⟨xl, SqL.of hl2⟩, fun D hD => ?_⟩
    refine lcKeep (R := LnAt H2) (ls := (List.range n).flatMap B) (n := xl.length) walk_list rfl pl (fun _ => false) (fun H' s => s.seq (SqL.of hl2)) hD (by omega) (by show 12 < 15; omega) (fun _ => rfl) ?_ ?_
    · rintro y l H4 Q4 hy hl s4 k4
      refine ⟨_, rfl, _, rfl, lnD l, _, (hy.mono s4.tups).dp, .lst (SqL.of (s4 _ _ hm2)) (dpAll_of (fun v y h => LnAt.dp h) (lnsMono s4.tups pm)), lnD_shaped (gdF l hl), lnDs_shaped gdF, _, rfl, ?_⟩
      rw [any_eqv lnD_eqv, decide_eq_true hl]
      exact k4 H4 (L2.Same.refl _)
    intro H3 ws s3 hD3 pw
    rw [filter_none (fun _ _ => rfl)] at pw
    cases pw
    refine ⟨(by decide : 0 ≤ sizeLine), fun e he => ky_nil hD3 he ⟨false, rfl, ?_⟩⟩
    refine iteF ?_
    have s4 := s3.newr (o := .lst []) he
    show tTest _ _ (upd H3 e (.lst [])) _
    generalize upd H3 e (.lst []) = H4 at s4
    have hT4 := s4 _ _ hT2
    have pT4 := Paired.mapP pT fun a b q => RowK.mono (fun c o _ e => s4 c o e) s4.tups q
    refine ⟨_, rfl, TL, rfl, ⟨ts, SqL.of hT4⟩, fun D1 hD1 => ?_⟩
    refine lcEach (R := RowK B TL H4) (ls := List.range n) (R2 := fun _ y c => y = nV c) (n := ts.length) walk_list rfl pT4 (fun u => (B u).length) (fun H' s => s.seq (SqL.of hT4)) hD1 (by omega) (fun _ => rfl) (fun _ _ _ _ _ e => e) ?_ ?_
    · rintro x u H5 Q5 ⟨b, xs, rfl, _, hb, pb⟩ hm s5 _ k5
      have lp := Paired.length pb
      rw [kl u] at lp
      refine ⟨_, rfl, b, xs, rfl, .inl (SqL.of (s5 _ _ hb)), k5 _ H5 (L2.Same.refl _) ?_⟩
      exact congrArg V.int (by omega)
    intro H5 zs5 s5 hz5 pz5
    rw [nat_list pz5] at hz5
    have s25 := L2.Same.trans s4 s5
    obtain ⟨fB, rB, pB⟩ := (la.same (L2.Same.trans s2 s25)).books
    have pR : ∀ l : List Nat, (∀ u ∈ l, u < n) → Paired (fun (x : V) u => ∃ b, x = .ref b ∧ a.lbs[u]? = some b) (l.map fun u => V.ref (a.lbs.getD u 0)) l := by
      intro l
      induction l with
      | nil => intro _; exact .nil
      | cons u l ih =>
        intro hl
        refine .cons ?_ (ih fun z hz => hl z (List.mem_cons_of_mem _ hz))
        obtain ⟨b, eb, _⟩ := rB.get (hl u List.mem_cons_self)
        exact ⟨b, by show V.ref (a.lbs.getD u 0) = V.ref b; rw [List.getD_eq_getElem?_getD, eb] <;> rfl, eb⟩
    have eL : a.lbs.map V.ref = (List.range n).map fun u => V.ref (a.lbs.getD u 0) := by
      apply List.ext_getElem?
      intro j
      rw [List.getElem?_map, List.getElem?_map]
      by_cases hj : j < n
      · rw [List.getElem?_range hj, List.getElem?_eq_getElem (by rw [rB.len]; exact hj)]
        simp [List.getD_eq_getElem?_getD, List.getElem?_eq_getElem (show j < a.lbs.length by rw [rB.len]; exact hj)]
      · rw [List.getElem?_eq_none (by rw [rB.len]; omega), List.getElem?_eq_none (by rw [List.length_range]; omega)] <;> rfl
    have pBk : Paired (fun (x : V) u => ∃ b, x = .ref b ∧ a.lbs[u]? = some b) (a.lbs.map V.ref) (List.range n) := by
      rw [eL]
      exact pR _ fun u hu => List.mem_range.mp hu
    refine ⟨_, rfl, a.bk, rfl, ⟨_, SqL.of rB.top⟩, fun D2 hD2 => ?_⟩
    refine lcEach (ls := List.range n) (R2 := fun _ y c => y = nV c) (n := (a.lbs.map V.ref).length) walk_list rfl pBk (fun u => (B u).length) (fun H' s => s.seq (SqL.of rB.top)) hD2 (by rw [List.length_map, rB.len]; omega) (fun _ => rfl) (fun _ _ _ _ _ e => e) ?_ ?_
    · rintro x u H6 Q6 ⟨b, rfl, eb⟩ hm s6 _ k6
      have lp := Paired.length (pB u (List.mem_range.mp hm))
      refine ⟨_, rfl, b, fB u, rfl, .inl (SqL.of (s6 _ _ (rB.at_ u b eb))), k6 _ H6 (L2.Same.refl _) ?_⟩
      exact congrArg V.int (by omega)
    intro H6 zs6 s6 hz6 pz6
    rw [nat_list pz6] at hz6
    refine ⟨_, _, .lst (SqL.of (s6 _ _ hz5)) (nsV_dp _), .lst (SqL.of hz6) (nsV_dp _), intDs_shaped _, intDs_shaped _, _, rfl, ?_⟩
    rw [eqv_ints, decide_eq_true rfl]
    refine iteF ?_
    have s26 := L2.Same.trans s25 s6
    have s06 := L2.Same.trans s2 s26
    have told6 := told2.same s26
    refine ⟨_, rfl, a.wd, _, _, _, rfl, rfl, SqL.of (s06 _ _ la.world), (rfl : atI [nV n, V.ref a.rl, nV many] 0 = some (nV n)), (n : Int), rfl, by omega, by omega, ?_⟩
    rw [en]
    refine for_range (fun i σ H' => ∃ v8 v10 v11, σ = [some (.ref a.wd), some (.ref a.p), some (.ref a.wy), some (.ref a.bk), some (.ref a.nt), some (.ref TL), some (.ref ll), some (.ref ml), v8, v9, v10, v11, none, none, none] ∧ Same H6 H')
      ⟨_, _, _, rfl, L2.Same.refl H6⟩ ?_ ?_
    · rintro u σ H7 hu ⟨v8', v10, v11, rfl, s7⟩
      have ei : V.int (0 + (u : Int)) = nV u := congrArg V.int (by omega)
      rw [ei]
      obtain ⟨ts7, hT7, _, at7⟩ := told6.same s7
      obtain ⟨b, xs, eu, hb, pb⟩ := at7 u hu
      refine ⟨_, rfl, _, rfl, TL, ts7, _, _, rfl, rfl, SqL.of hT7, atI_nat eu, ?_⟩
      have lp := Paired.length pb
      rw [kl u] at lp
      have lbu := lenB u hu
      obtain ⟨ks, ex, hks, ek⟩ := ky_ints pb
      have lks : ks.length = xs.length := by rw [ex, List.length_map]
      have ndk : (ks.map (·.2)).Nodup := by rw [ek]; exact ints_nd (la.std.nd u hu)
      refine ⟨_, rfl, b, ks, rfl, SqL.of (by rw [← ex]; exact hb), fun p hp => SqT.of (hks p hp), by omega, fun sa L hsa h1 h2 => ?_⟩
      have s78 : Same H7 (upd H7 sa (SetTO P w sa L)) := Same.new hsa
      have hsa8 : upd H7 sa (SetTO P w sa L) sa = some (SetTO P w sa L) := upd_same
      show tNil _ (upd H7 sa (SetTO P w sa L)) _
      generalize upd H7 sa (SetTO P w sa L) = H8 at s78 hsa8
      refine ⟨sa, L, rfl, hsa8, fun p hp => SqT.of (s78 _ _ (hks p (h1 p hp))), fun ndL => ?_⟩
      have lL : L.length = xs.length := by
        have g1 := nodup_sub ndL (m := ks.map (·.2)) (fun x hx => by
          obtain ⟨p, hp, rfl⟩ := List.mem_map.mp hx
          exact List.mem_map.mpr ⟨p, h1 p hp, rfl⟩)
        have g2 := nodup_sub ndk (m := L.map (·.2)) (fun x hx => by
          obtain ⟨p, hp, rfl⟩ := List.mem_map.mp hx
          exact h2 p hp)
        rw [List.length_map, List.length_map] at g1 g2
        omega
      refine ⟨_, rfl, b, xs, rfl, .inl (SqL.of (s78 _ _ hb)), rfl, _, rfl, ?_⟩
      rw [lL, decide_eq_true rfl]
      refine iteF ?_
      have s08 := L2.Same.trans s06 (L2.Same.trans s7 s78)
      have la8 := la.same s08
      obtain ⟨kvs, hnt8, pn8⟩ := la8.notes
      have hb8 := s78 _ _ hb
      have pb8 := kysMono s78.tups pb
      refine ⟨_, rfl, _, rfl, _, rfl, ro, b, a.nt, u, xs, keysL (B u), kvs, ns, rfl, hb8, pb8, by rw [kl u]; omega, hnt8, pn8, fun i k ek => ?_, fun H9 s9 => ⟨true, rfl, ?_⟩⟩
      · obtain ⟨l, el, rfl⟩ : ∃ l, (B u)[i]? = some l ∧ l.key = k := by
          unfold keysL at ek
          rw [List.getElem?_map] at ek
          cases e : (B u)[i]? with
          | none => rw [e] at ek; cases ek
          | some l => rw [e] at ek; exact ⟨l, rfl, Option.some.inj ek⟩
        obtain ⟨kz, g1, g2, g3, g4⟩ := la.std.at_ hu el
        refine ⟨kz, g1, ?_, g3, g4⟩
        have := nodup_sub g2 g3
        rw [List.length_take, kl u] at this
        omega
      refine iteF ?_
      have s09 := L2.Same.trans s08 s9
      have hb9 := s9 _ _ hb8
      have pb9 := kysMono s9.tups pb8
      refine ⟨_, rfl, a.wd, _, _, _, rfl, rfl, SqL.of (s09 _ _ la.world), (rfl : atI [nV n, V.ref a.rl, nV many] 0 = some (nV n)), (n : Int), rfl, by omega, by omega, ?_⟩
      rw [en]
      refine for_range (fun i σ H' => ∃ v11, σ = [some (.ref a.wd), some (.ref a.p), some (.ref a.wy), some (.ref a.bk), some (.ref a.nt), some (.ref TL), some (.ref ll), some (.ref ml), some (nV u), v9, some (.ref b), v11, none, none, none] ∧ Same H9 H')
        ⟨_, rfl, L2.Same.refl H9⟩ ?_ ?_
      · rintro h σ HA hh ⟨v11', rfl, sA⟩
        have ei : V.int (0 + (h : Int)) = nV h := congrArg V.int (by omega)
        rw [ei]
        have hbA := sA _ _ hb9
        have pbA := kysMono sA.tups pb9
        refine ⟨_, rfl, b, rfl, ⟨xs, SqL.of hbA⟩, fun D1 hD1 => ?_⟩
        refine lcSel (R := KyAt HA) (ls := keysL (B u)) (n := xs.length) walk_list rfl pbA (fun k => decide (k.1 = h)) (fun k => nV k.2) (fun H' s => s.seq (SqL.of hbA)) hD1 (by omega) (fun _ => rfl) ?_ ?_ ?_
        · rintro x l HB QB ⟨ax, rfl, hax⟩ hl sB kB
          refine ⟨_, rfl, ax, _, _, _, rfl, rfl, SqT.of (sB _ _ hax), (rfl : atI (kyV l) 0 = some (nV l.1)), _, rfl, rfl, _, rfl, ?_⟩
          rw [dec_nV]
          exact kB
        · rintro x l HB QB ⟨ax, rfl, hax⟩ hl sB kB
          exact ⟨_, rfl, ax, _, _, _, rfl, rfl, SqT.of (sB _ _ hax), (rfl : atI (kyV l) 1 = some (nV l.2)), kB⟩
        intro HB sB hDB
        have eD : (((keysL (B u)).filter fun k => decide (k.1 = h)).map fun k => nV k.2) = nsV (List.range ((keysL (B u)).filter fun k => decide (k.1 = h)).length) := by
          rw [← la.std.nums hu h]
          unfold nsV
          rw [List.map_map] <;> rfl
        rw [eD] at hDB
        have hbB := sB _ _ hbA
        have pbB := kysMono sB.tups pbA
        refine ⟨_, rfl, b, rfl, ⟨xs, SqL.of hbB⟩, fun D3 hD3 => ?_⟩
        refine lcKeep (R := KyAt HB) (ls := keysL (B u)) (n := xs.length) walk_list rfl pbB (fun k => decide (k.1 = h)) (fun H' s => s.seq (SqL.of hbB)) hD3 (by omega) (by show 13 < 15; omega) (fun _ => rfl) ?_ ?_
        · rintro x l HC QC ⟨ax, rfl, hax⟩ hl sC kC
          refine ⟨_, rfl, ax, _, _, _, rfl, rfl, SqT.of (sC _ _ hax), (rfl : atI (kyV l) 0 = some (nV l.1)), _, rfl, rfl, _, rfl, ?_⟩
          rw [dec_nV]
          exact kC HC (L2.Same.refl _)
        intro HC ws sC hDC pw
        have lw := Paired.length pw
        have lf := List.length_filter_le (fun k : Ky => decide (k.1 = h)) (keysL (B u))
        rw [kl u] at lf
        refine ⟨D3, ws, rfl, .inl (SqL.of hDC), (ws.length : Int), rfl, RgOk.of_le (by decide) (by omega) (by decide) (by omega), fun l hl => ?_⟩
        rw [rgV_nat, lw]
        refine ⟨_, _, .lst (SqL.of (((sC.newr hl)) _ _ hDB)) (nsV_dp _), .lst (SqL.of upd_same) (nsV_dp _), intDs_shaped _, intDs_shaped _, _, rfl, ?_⟩
        rw [eqv_ints, decide_eq_true rfl]
        exact iteF ⟨_, rfl, (L2.Same.trans (L2.Same.trans sA sB) sC).newr hl⟩
      · rintro σ HA ⟨v11', rfl, sA⟩
        have hbA := sA _ _ hb9
        have pbA := kysMono sA.tups pb9
        have s0A := L2.Same.trans s09 sA
        refine ⟨_, rfl, b, rfl, ⟨xs, SqL.of hbA⟩, fun D1 hD1 => ?_⟩
        refine lcKeep (R := KyAt HA) (ls := keysL (B u)) (n := xs.length) walk_list rfl pbA (fun _ => false) (fun H' s => s.seq (SqL.of hbA)) hD1 (by omega) (by show 13 < 15; omega) (fun _ => rfl) ?_ ?_
        · rintro x l HB QB ⟨ax, rfl, hax⟩ hl sB kB
          have haxB := sB _ _ hax
          obtain ⟨hl1, hway⟩ := la.std.wayKeys hu hl
          have s0B := L2.Same.trans s0A sB
          obtain ⟨_, zs, hzw, lzw, azw⟩ := (la.same s0B).ways
          obtain ⟨b2, ws2, g1, _, g3, g4, g5⟩ := azw l.1 hl1
          obtain ⟨c2, k1, _, k3⟩ := g5 u hu
          refine ⟨_, rfl, _, rfl, ax, _, _, _, rfl, rfl, SqT.of haxB, (rfl : atI (kyV l) 0 = some (nV l.1)), a.wy, _, _, _, rfl, rfl, SqL.of hzw, atI_nat g1, _, rfl, b2, _, _, _, rfl, rfl, SqL.of g3, atI_nat k1, c2, rfl, ⟨_, SqL.of k3⟩, fun D4 hD4 => ?_⟩
          have lW := nodup_len (la.tree.wnd l.1 u hl1 hu) (la.tree.lts l.1 u hl1 hu)
          refine lcKeep (R := fun x h => x = nV h) (ls := W l.1 u) (n := (nsV (W l.1 u)).length) walk_list rfl (Paired.of_map (F := fun x k => x = nV k) (f := nV) (fun _ => rfl) _) (fun _ => false) (fun H' s => s.seq (SqL.of k3)) hD4 (by rw [List.length_map]; omega) (by show 14 < 15; omega) (fun _ => rfl) ?_ ?_
          · rintro x h HC QC rfl hh sC kC
            have hhn := la.tree.lts l.1 u hl1 hu h hh
            obtain ⟨tsC, hTC, _, atC⟩ := (told6.same (L2.Same.trans s7 (L2.Same.trans s78 (L2.Same.trans s9 (L2.Same.trans sA (L2.Same.trans sB sC))))))
            obtain ⟨bC, xsC, euC, hbC, pbC⟩ := atC h hhn
            refine ⟨_, rfl, _, rfl, _, rfl, TL, tsC, _, _, rfl, rfl, SqL.of hTC, atI_nat euC, ky_not ⟨ax, rfl, sC _ _ haxB⟩ hbC pbC ⟨_, rfl, ?_⟩⟩
            rw [decide_eq_false (not_not_intro (hway h hh))]
            exact kC HC (L2.Same.refl _)
          intro HC ws sC hDC pw
          rw [filter_none (fun _ _ => rfl)] at pw
          cases pw
          refine ⟨(by decide : 0 ≤ sizeLine), fun e he => ky_nil hDC he ⟨false, rfl, kB _ (sC.newr he)⟩⟩
        intro HB ws sB hDB pw
        rw [filter_none (fun _ _ => rfl)] at pw
        cases pw
        refine ⟨(by decide : 0 ≤ sizeLine), fun e he => ky_nil hDB he ⟨false, rfl, ?_⟩⟩
        exact iteF ⟨_, _, _, rfl, (L2.Same.trans s7 (L2.Same.trans s78 (L2.Same.trans s9 (L2.Same.trans sA sB)))).newr he⟩
    · rintro σ H7 ⟨v8', v10, v11, rfl, s7⟩
      have s07 := L2.Same.trans s06 s7
      have la7 := la.same s07
      obtain ⟨kvs, hnt7, pn7⟩ := la7.notes
      refine ⟨_, rfl, _, rfl, ro, TL, a.nt, n, (fun u => keysL (B u)), kvs, ns, rfl, told6.same s7, hnt7, pn7, fun x hx => la.std.apart la.tree hx, fun H8 s8 => ⟨true, rfl, iteT ?_⟩⟩
      exact ⟨_, rfl, _, rfl, _, rfl, _, rfl, ro, a, TL, n, R, many, near, W, B, q, ns, c, nd, rfl, la7.same s8, (told6.same s7).same s8, fun H9 s9 => k H9 (L2.Same.trans s07 (L2.Same.trans s8 s9))⟩
end
end K9
end

section
set_option Elab.async false
set_option linter.all false
set_option maxRecDepth 100000
set_option maxHeartbeats 1000000
namespace K9
open PySem PySem.Spec PyProof.Rows L2
/-! the law's begun -/
abbrev scHouse : Scope := { kind := .function, names := [(".0", .local), ("_law_house", .cell), ("len", .globalImplicit), ("_law_world_here", .free)], isGenerator := false, isCoroutine := false }
section
variable {P : Program} {w : World} {K : PySem.W.Frag} {mg : Str → Option Value} {base : Heap}
theorem two_lists {b : Bool} {H : Hp} {G : V → Hp → Prop} {σ : L2.St} {i j x y : Nat} (e1 : σ[i]? = some (some (nV x))) (e2 : σ[j]? = some (some (nV y)))
    (h : ∀ u1 u2, ((u1 = x ∧ u2 = y) ∨ (u1 = y ∧ u2 = x)) → ∀ p, H p = none → G (.ref p) (upd H p (.lst (nsV [u1, u2])))) : if b = true then tLst (tCons (tVar i) (tCons (tVar j) tNil)) σ H G else tLst (tCons (tVar j) (tCons (tVar i) tNil)) σ H G := by
  refine ite2 (fun _ => ?_) (fun _ => ?_)
  · exact ⟨_, e1, _, e2, (by decide : 2 ≤ sizeLine), fun p hp => h x y (.inl ⟨rfl, rfl⟩) p hp⟩
  · exact ⟨_, e2, _, e1, (by decide : 2 ≤ sizeLine), fun p hp => h y x (.inr ⟨rfl, rfl⟩) p hp⟩
theorem ends_test {ro : Ro} {H : Hp} {a : LA} {n : Nat} {R : List Ky} {many : Nat} {near : Nat → List Nat} {W : Nat → Nat → List Nat} {B : Nat → List Line} {q : Nat → Nat → List Line} {ns : Notes} {c nd : Nat}
    (h : LawAt K ro H a n R many near W B q ns c nd) {u : Nat} {σ : L2.St} (e1 : σ[1]? = some (some (.ref a.wd))) (e6 : ∀ v, ((wipe σ [13]).set 13 (some v))[6]? = some (some (nV u))) (e13 : ∀ v, ((wipe σ [13]).set 13 (some v))[13]? = some (some v)) (hw : ∀ v, wipe ((wipe σ [13]).set 13 (some v)) [13] = wipe σ [13])
    {Q : Bool → Hp → Prop} (k : ∀ H', Same H H' → Q (decide (degOf R u = 1)) H') : tTest (tOp rEq (tCB (rLenK K) (tCons (tLc (iList K (tOp (rIxL K) (tVar 1) (tC (.int 1)))) (gName 13) (tTest (tOp (rIn K false) (tVar 6) (tVar 13))) (tC (.int 1)) [13]) tNil)) (tC (.int 1))) σ H Q := by
  obtain ⟨rs, hrs, prs⟩ := h.roads
  have lr := Paired.length prs
  have hlen := h.town.len
  have hn := h.nbig
  refine ⟨_, e1, a.wd, _, _, _, rfl, rfl, SqL.of h.world, (rfl : atI [nV n, V.ref a.rl, nV many] 1 = some (.ref a.rl)), a.rl, rfl, ⟨rs, SqL.of hrs⟩, fun D hD => ?_⟩
  refine lcSel (R := KyAt H) (ls := R) (n := rs.length) walk_list rfl prs (fun r => decide (u = r.1 ∨ u = r.2)) (fun _ => V.int 1) (fun H' s => s.seq (SqL.of hrs)) hD (by omega) hw ?_ ?_ ?_
  · rintro x r H2 Q2 ⟨ax, rfl, hax⟩ hr s2 k2
    refine ⟨_, e6 _, _, e13 _, ax, kyV r, rfl, .inr (SqT.of (s2 _ _ hax)), rfl, nsV_flat [r.1, r.2], _, rfl, ?_⟩
    show Q2 (inV (nV u) (nsV [r.1, r.2])) H2
    rw [inV_nat]
    have e : decide (u ∈ [r.1, r.2]) = decide (u = r.1 ∨ u = r.2) := by simp
    rw [e]
    exact k2
  · rintro x r H2 Q2 _ hr s2 k2
    exact k2
  · intro H2 s2 hD2
    refine ⟨D, _, rfl, .inl (SqL.of hD2), rfl, _, rfl, ?_⟩
    rw [List.length_map]
    show Q (decide (nV (degOf R u) = nV 1)) H2
    rw [dec_nV]
    exact k H2 s2
def spBegun (K : PySem.W.Frag) : Sp := fun vs H Q _ => ∃ (ro : Ro) (a : LA) (n : Nat) (R : List Ky) (many : Nat) (near : Nat → List Nat) (W : Nat → Nat → List Nat) (c : Nat),
  vs = [.ref a.bx, .ref a.wd, .ref a.p, .ref a.wy, .ref a.bk, .ref a.nt] ∧ LawAt K ro H a n R many near W (fun _ => []) (fun _ _ => []) [] c 0 ∧ 2 ≤ n ∧ c ≤ 10000 ∧
  ∀ H' B q ns c' nd', St0 ro H H' → LawAt K ro H' a n R many near W B q ns c' nd' → ns.length ≤ 3 → nd' ≤ 20 → c' ≤ c + 20 → Q (.bl true) H'
theorem h_l_begun (T : Top K mg) : HasG P w K mg base 9 (He.ga K "_law_begun") A_l_begun (spBegun K) := by
  refine hasG_of T.f_l_begun sc_l_begun (fun _ _ _ _ _ _ us hl => match us, hl with | [_, _, _, _, _, _], _ => rfl) (fun vs H Q E h => ?_) (fun cdv A outer s H vs Q E hg hr h => ?_)
  · obtain ⟨ro, a, n, R, many, near, W, c, rfl, _⟩ := h
    rfl
  · obtain ⟨ro, a, n, R, many, near, W, c, rfl, la, hn2, hc, k⟩ := h
    have hr1 : Room 1 _ := hr.mono (by decide)
    have hr6 : Room 6 _ := hr.mono (by decide)
    refine ⟨_, pss_cons (ps_setLc (i := 7) (own := [("_law_house", 6)]) (g := gName 6) (tt := tTest (tOp rEq (tCB (rLenK K) (tCons (tLc (iList K (tOp (rIxL K) (tVar 1) (tC (.int 1)))) (gName 13) (tTest (tOp (rIn K false) (tVar 6) (tVar 13))) (tC (.int 1)) [13]) tNil)) (tC (.int 1)))) rfl sc_l_begun.nd rfl rfl (sw_true rfl rfl rfl (by decide +kernel))
          (pi_range1 (by rfl) T.z_range (pa_cons (pe_ix ix_list (pv 1) pe_int (fun _ _ => rfl)) pa_nil)) (blkOk_by (N := N_l_begun) (sc := defScope s_l_begun) (by decide +kernel)) (fun _ _ _ _ _ => pg_name (i := 6) sc_l_begun.nd rfl (Or.inr rfl))
          (fun _ _ _ _ _ => pts_one (pt_cmpR op_eq (pe_blt (r := rLenK K) call_len_seq T.z_len (pa_cons (pe_lc (own := [("_law_road", 13)]) (g := gName 13) (tt := tTest (tOp (rIn K false) (tVar 6) (tVar 13))) rfl sc_l_begun.nd
              (pi_list (pe_ix (r := rIxL K) ix_list (pv 1) pe_int (fun _ _ => rfl)) : PI _ _ _ (iList K _)) (blkOk_by (N := N_l_begun) (sc := relS scHouse (defScope s_l_begun)) (by decide +kernel)) (fun _ _ _ _ _ => pg_name (i := 13) sc_l_begun.nd rfl (Or.inl rfl))
              (fun _ _ _ _ _ => pts_one (pt_cmpR (r := rIn K false) op_in_seq (pv 6) (pv 13) rfl)) (fun _ _ _ _ _ => pe_int)) pa_nil)) pe_int (nomark _)))
          (fun _ _ _ _ _ => pv 6))
      (pss_cons (ps_set (i := 8) sc_l_begun.nd rfl (Or.inr rfl) (pe_ix ix_list (pv 7) (pe_use (h_l_take T) hr1 T.g_l_take (pa_cons (pv 0) (pa_cons (pe_blt call_len_seq T.z_len (pa_cons (pv 7) pa_nil)) pa_nil))) (fun _ _ => rfl)))
      (pss_cons (ps_set (i := 9) sc_l_begun.nd rfl (Or.inl rfl) (pe_ix ix_list (pe_lc (own := [("_law_house", 6)]) (g := gName 6) (tt := tTest (tOp rNe (tVar 6) (tVar 8))) rfl sc_l_begun.nd (pi_list (pv 7)) (blkOk_by (N := N_l_begun) (sc := defScope s_l_begun) (by decide +kernel)) (fun _ _ _ _ _ => pg_name (i := 6) sc_l_begun.nd rfl (Or.inl rfl))
            (fun _ _ _ _ _ => pts_one (pt_cmpR op_ne (pv 6) (pv 8) (nomark _))) (fun _ _ _ _ _ => pv 6))
          (pe_use (h_l_take T) hr1 T.g_l_take (pa_cons (pv 0) (pa_cons (pe_op op_sub (pe_blt call_len_seq T.z_len (pa_cons (pv 7) pa_nil)) pe_int) pa_nil))) (fun _ _ => rfl)))
      (pss_cons (ps_set (i := 10) sc_l_begun.nd rfl (Or.inl rfl) (pe_ix ix_list (pe_ix ix_list (pv 3) (pv 8) (fun _ _ => rfl)) (pv 9) (fun _ _ => rfl)))
      (pss_cons (ps_if (pt_not (pt_val (pe_useG (h_l_make T) hg hr6 T.g_l_make (pa_cons (pv 0) (pa_cons (pv 2) (pa_cons (pv 4) (pa_cons (pv 5) (pa_cons (pv 8) pa_nil)))))))) (pss_one (ps_ret pe_bl)) pss_nil)
      (pss_cons (ps_for PassesOwn.never rfl (pi_range1 (by rfl) T.z_range (pa_cons (pe_op op_sub (pe_blt call_len_seq T.z_len (pa_cons (pv 10) pa_nil)) pe_int) pa_nil)) (pg_name (i := 11) sc_l_begun.nd rfl (Or.inl rfl))
        (pss_one (ps_if (pt_not (pt_val (pe_useG (h_l_hand T) hg hr T.g_l_hand (pa_cons (pv 2) (pa_cons (pv 4) (pa_cons (pv 3) (pa_cons (pe_ix ix_list (pv 10) (pv 11) (fun _ _ => rfl)) (pa_cons (pe_ix ix_list (pv 10) (pe_op op_add (pv 11) pe_int) (fun _ _ => rfl)) pa_nil)))))))) (pss_one (ps_ret pe_bl)) pss_nil)))
      (pss_cons (ps_set (i := 12) sc_l_begun.nd rfl (Or.inl rfl) (pe_ifExp (pt_cmpR op_eq (pe_use (h_l_take T) hr1 T.g_l_take (pa_cons (pv 0) (pa_cons pe_int pa_nil))) pe_int (nomark _)) (pe_lst (pa_cons (pv 9) (pa_cons (pv 8) pa_nil))) (pe_lst (pa_cons (pv 8) (pa_cons (pv 9) pa_nil)))))
      (pss_cons (ps_for PassesOwn.never rfl (pi_list (pv 12)) (pg_name (i := 6) sc_l_begun.nd rfl (Or.inl rfl))
        (pss_one (ps_if (pt_not (pt_val (pe_useG (h_l_make T) hg hr6 T.g_l_make (pa_cons (pv 0) (pa_cons (pv 2) (pa_cons (pv 4) (pa_cons (pv 5) (pa_cons (pv 6) pa_nil)))))))) (pss_one (ps_ret pe_bl)) pss_nil)))
      (pss_one (ps_ret pe_bl))))))))), ?_⟩
    have hn6 := la.nbig
    have en : ((n : Int)).toNat = n := by omega
    refine ⟨_, rfl, a.wd, _, _, _, rfl, rfl, SqL.of la.world, (rfl : atI [nV n, V.ref a.rl, nV many] 0 = some (nV n)), (n : Int), rfl, by omega, by omega, fun D hD => ?_⟩
    rw [en]
    refine lcKeep (R := fun x k => x = nV k) (ls := List.range n) (n := n) (walk_nats n) (by simp) (Paired.of_map (F := fun x k => x = nV k) (f := nV) (fun _ => rfl) _) (fun h => decide (degOf R h = 1)) (fun _ _ => trivial) hD (by omega) (by show 6 < 14; omega) (fun _ => rfl) ?_ ?_
    · rintro x u H2 Q2 rfl hu s2 k2
      exact ends_test (la.same s2) rfl (fun _ => rfl) (fun _ => rfl) (fun _ => rfl) k2
    intro H2 zs s2 hz pz
    have hzs : zs = nsV (endsOf n R) := nat_list pz
    subst hzs
    obtain ⟨el, end_, elt⟩ := la.town.ends hn2
    have ele : (endsOf n R).length ≤ 6 := Nat.le_trans (nodup_len end_ elt) hn6
    have la2 := la.same s2
    have rD : (ro D).1 = 0 := la.lv D hD
    refine ⟨_, rfl, _, rfl, _, rfl, D, _, rfl, .inl (SqL.of hz), a.bx, (endsOf n R).length, c, by rw [List.length_map], la2.box, by omega, by omega, by omega, fun d H3 hd b3 al3 hb3 => ?_⟩
    have st3 := (St0.of s2).trans (la2.st b3)
    have la3 := la2.drawn b3 al3 hb3 (by omega)
    have hz3 := (la2.st b3).keep _ _ rD hz
    obtain ⟨one, eo⟩ : ∃ one, (endsOf n R)[d]? = some one := ⟨(endsOf n R)[d], List.getElem?_eq_getElem hd⟩
    have hone := elt one (List.mem_of_getElem? eo)
    refine ⟨D, _, _, _, rfl, rfl, SqL.of hz3, atI_nat (show (nsV (endsOf n R))[d]? = some (nV one) by rw [List.getElem?_map, eo] <;> rfl), ?_⟩
    refine ⟨_, rfl, D, rfl, ⟨_, SqL.of hz3⟩, fun D2 hD2 => ?_⟩
    refine lcKeep (R := fun x k => x = nV k) (ls := endsOf n R) (n := (nsV (endsOf n R)).length) walk_list rfl (Paired.of_map (F := fun x k => x = nV k) (f := nV) (fun _ => rfl) _) (fun h => decide (h ≠ one)) (fun H' s => s.seq (SqL.of hz3)) hD2 (by rw [List.length_map]; omega) (by show 6 < 14; omega) (fun _ => rfl) ?_ ?_
    · rintro x u H4 Q4 rfl hu s4 k4
      refine ⟨_, rfl, _, rfl, rfl, _, rfl, ?_⟩
      rw [dec_nV]
      have e : (!decide (u = one)) = decide (u ≠ one) := by by_cases h : u = one <;> simp [h]
      rw [e]
      exact k4 H4 (L2.Same.refl _)
    intro H4 ws s4 hw4 pw4
    have hws : ws = nsV ((endsOf n R).filter fun h => decide (h ≠ one)) := nat_list pw4
    subst hws
    have lne := filter_ne_len end_ (List.mem_of_getElem? eo)
    have la4 := la3.same s4
    have rD2 : (ro D2).1 = 0 := la3.lv D2 hD2
    have hz4 := s4 _ _ hz3
    refine ⟨_, rfl, _, rfl, D, _, rfl, .inl (SqL.of hz4), _, _, rfl, rfl, a.bx, (endsOf n R).length - 1, c + 1, by rw [List.length_map]; exact congrArg (fun z => [V.ref a.bx, V.int z]) (by omega), la4.box, by omega, by omega, by omega, fun d5 H5 hd5 b5 al5 hb5 => ?_⟩
    have la5 := la4.drawn b5 al5 hb5 (by omega)
    have st5 := (st3.trans (St0.of s4)).trans (la4.st b5)
    have hw5 := (la4.st b5).keep _ _ rD2 hw4
    obtain ⟨other, eot⟩ : ∃ o, ((endsOf n R).filter fun h => decide (h ≠ one))[d5]? = some o := ⟨_, List.getElem?_eq_getElem (by omega)⟩
    have hother : other < n := elt other (List.mem_filter.mp (List.mem_of_getElem? eot)).1
    refine ⟨D2, _, _, _, rfl, rfl, SqL.of hw5, atI_nat (show (nsV ((endsOf n R).filter fun h => decide (h ≠ one)))[d5]? = some (nV other) by rw [List.getElem?_map, eot] <;> rfl), ?_⟩
    obtain ⟨_, yz, hyz, lyz, ayz⟩ := la5.ways
    obtain ⟨b2, ys, g1, _, g3, g4, g5⟩ := ayz one hone
    obtain ⟨c2, k1, rc2, k3⟩ := g5 other hother
    refine ⟨_, rfl, _, rfl, a.wy, _, _, _, rfl, rfl, SqL.of hyz, atI_nat g1, _, rfl, b2, _, _, _, rfl, rfl, SqL.of g3, atI_nat k1, ?_⟩
    refine ⟨_, rfl, _, rfl, _, rfl, _, rfl, _, rfl, ro, a, n, R, many, near, W, _, _, [], c + 1 + 1, 0, one, rfl, la5, hone, by decide, by decide, by omega, fun z t H6 st6 la6 => ⟨true, rfl, ?_⟩⟩
    refine iteF ?_
    have st06 := st5.trans st6
    have hc2 := st6.keep _ _ rc2 k3
    have lW := nodup_len (la.tree.wnd one other hone hother) (la.tree.lts one other hone hother)
    have hW0 := la.tree.head one other hone hother
    have lW1 : 1 ≤ (W one other).length := by
      have := (List.getElem?_eq_some_iff.mp hW0).1
      omega
    refine ⟨_, rfl, c2, _, rfl, .inl (SqL.of hc2), _, _, rfl, rfl, (((W one other).length : Nat) : Int) - 1, by rw [List.length_map], by omega, by omega, ?_⟩
    have eW : ((((W one other).length : Nat) : Int) - 1).toNat = (W one other).length - 1 := by omega
    rw [eW]
    refine for_range (fun i σ H' => ∃ v11 B q nd, σ = [some (.ref a.bx), some (.ref a.wd), some (.ref a.p), some (.ref a.wy), some (.ref a.bk), some (.ref a.nt), none, some (.ref D), some (nV one), some (nV other), some (.ref c2), v11, none, none] ∧ St0 ro H6 H' ∧
        LawAt K ro H' a n R many near W B q ([] ++ [((newLine (fun _ => []) one z t).key, keysL [])]) (c + 1 + 1 + 2) nd ∧ nd = 1 + i ∧ (∃ x, (W one other)[i]? = some x ∧ B x ≠ []) ∧ ∀ v, v < n → v ∉ (W one other).take (i + 1) → B v = [])
      ⟨_, _, _, _, rfl, St0.refl ro H6, la6, rfl, ⟨one, hW0, by rw [upB_same]; simp⟩, fun v hv hm => by
        by_cases zz : v = one
        · refine (hm ?_).elim
          rw [zz]
          have e := List.getElem?_eq_some_iff.mp hW0
          rw [List.take_add_one, hW0]
          simp
        · rw [upB_ne zz]⟩ ?_ ?_
    · rintro i σ H7 hi ⟨v11, B, q, nd, rfl, st7, la7, rfl, ⟨x, ex, hBx⟩, hB0⟩
      have ei : V.int (0 + (i : Int)) = nV i := congrArg V.int (by omega)
      rw [ei]
      obtain ⟨y, ey⟩ : ∃ y, (W one other)[i + 1]? = some y := ⟨(W one other)[i + 1]'(by omega), List.getElem?_eq_getElem (by omega)⟩
      obtain ⟨ad, xin⟩ := la.tree.steps one other hone hother i x y ex ey
      obtain ⟨hx, hy⟩ := la.tree.lt ad
      have hyt : y ∉ (W one other).take (i + 1) := fun hm => by
        obtain ⟨j, hj, e⟩ := List.getElem_of_mem hm
        rw [List.length_take] at hj
        have e2 : (W one other)[j]? = some y := by
          rw [List.getElem_take] at e
          rw [← e]
          exact List.getElem?_eq_getElem _
        have := nd_ix (la.tree.wnd one other hone hother) e2 ey
        omega
      have hBy := hB0 y hy hyt
      have hq : q x y ≠ [] := by
        obtain ⟨l0, rest0, e0⟩ : ∃ l0 r, B x = l0 :: r := by
          cases e : B x with
          | nil => exact (hBx e).elim
          | cons l0 r => exact ⟨l0, r, rfl⟩
        have hm0 : l0 ∈ B x := by rw [e0]; exact List.mem_cons_self
        have hk := la7.std.noted hx hm0
        have hh : l0.home = one := by
          simp at hk
          exact congrArg Prod.fst hk
        have : l0 ∈ (B x).filter fun l => decide (l ∉ B y) && decide (x ∈ W l.home y) := List.mem_filter.mpr ⟨hm0, by rw [hBy, hh]; simp [xin]⟩
        rw [la7.std.ready la7.tree ad] at this
        intro e
        rw [e] at this
        exact (List.not_mem_nil this).elim
      obtain ⟨l', rest, eq⟩ : ∃ l0 r, q x y = l0 :: r := by
        cases e : q x y with
        | nil => exact (hq e).elim
        | cons l0 r => exact ⟨l0, r, rfl⟩
      have hc7 := st7.keep _ _ rc2 hc2
      have ex' : (nsV (W one other))[i]? = some (nV x) := by rw [List.getElem?_map, ex] <;> rfl
      have ey' : (nsV (W one other))[i + 1]? = some (nV y) := by rw [List.getElem?_map, ey] <;> rfl
      refine ⟨_, rfl, _, rfl, _, rfl, _, rfl, _, rfl, c2, _, _, _, rfl, rfl, SqL.of hc7, atI_nat ex', _, rfl, _, rfl, _, _, rfl, rfl, c2, _, _, _, rfl, rfl, SqL.of hc7, at_of (j := i + 1) (by omega) ey', ro, a, n, R, many, near, W, B, q, _, _, _, x, y, l', rest, rfl, la7, ad, eq, by omega, fun H8 st8 la8 => ⟨true, rfl, ?_⟩⟩
      refine iteF ⟨_, _, _, _, rfl, st7.trans st8, la8, by omega, ⟨y, ey, by rw [upB_same]; simp⟩, fun v hv hm => ?_⟩
      have vy : v ≠ y := fun e => hm (by rw [List.take_add_one, ey]; simp [e])
      rw [upB_ne vy]
      exact hB0 v hv fun w => hm (by rw [List.take_add_one]; exact List.mem_append_left _ w)
    rintro σ H7 ⟨v11, B, q, nd, rfl, st7, la7, hnd, _, _⟩
    refine ⟨_, rfl, a.bx, 2, c + 1 + 1 + 2, rfl, la7.box, by omega, by decide, by decide, fun d8 H8 hd8 b8 al8 hb8 => ⟨rfl, _, rfl, ?_⟩⟩
    have la8 := la7.drawn b8 al8 hb8 (by omega)
    have st08 := (st06.trans st7).trans (la7.st b8)
    refine two_lists (x := other) (y := one) rfl rfl fun u1 u2 hu p hp => ?_
    have hu1 : u1 < n ∧ u2 < n := by
      rcases hu with ⟨rfl, rfl⟩ | ⟨rfl, rfl⟩
      · exact ⟨hother, hone⟩
      · exact ⟨hone, hother⟩
    have rp : (ro p).1 = 0 := la8.lv p hp
    have la9 := la8.same (Same.new (o := .lst (nsV [u1, u2])) hp)
    have st09 := st08.trans (St0.of (Same.new (o := .lst (nsV [u1, u2])) hp))
    have hp9 : upd H8 p (.lst (nsV [u1, u2])) p = some (.lst (nsV [u1, u2])) := upd_same
    show Ends.nx _ _ (upd H8 p (.lst (nsV [u1, u2])))
    generalize upd H8 p (.lst (nsV [u1, u2])) = H9 at la9 st09 hp9
    refine ⟨_, rfl, p, rfl, ⟨_, SqL.of hp9⟩, ?_⟩
    refine for_list (xs := nsV [u1, u2]) (fun i σ H' => ∃ v6 B q ns cc nd', σ = [some (.ref a.bx), some (.ref a.wd), some (.ref a.p), some (.ref a.wy), some (.ref a.bk), some (.ref a.nt), v6, some (.ref D), some (nV one), some (nV other), some (.ref c2), v11, some (.ref p), none] ∧ St0 ro H9 H' ∧
        LawAt K ro H' a n R many near W B q ns cc nd' ∧ ns.length = 1 + i ∧ nd' = nd + i ∧ cc = c + 5 + 2 * i)
      ⟨_, _, _, _, _, _, rfl, St0.refl ro H9, la9, rfl, rfl, by omega⟩ (fun i σ H' _ ⟨_, _, _, _, _, _, _, s, _⟩ => SqL.of (s.keep _ _ rp hp9)) ?_ ?_
    · rintro i x σ HA hx ⟨v6, B', q', ns', cc, nd', rfl, stA, laA, hns, hnd', hcc⟩
      obtain ⟨u, eu, rfl⟩ : ∃ u, [u1, u2][i]? = some u ∧ x = nV u := by
        rw [List.getElem?_map] at hx
        cases e : [u1, u2][i]? with
        | none => rw [e] at hx; cases hx
        | some o => rw [e] at hx; exact ⟨o, rfl, (Option.some.inj hx).symm⟩
      have hi2 : i < 2 := (List.getElem?_eq_some_iff.mp eu).1
      have hu : u < n := by
        have := List.mem_of_getElem? eu
        simp at this
        rcases this with rfl | rfl
        · exact hu1.1
        · exact hu1.2
      refine ⟨_, rfl, _, rfl, _, rfl, _, rfl, _, rfl, ro, a, n, R, many, near, W, B', q', ns', cc, nd', u, rfl, laA, hu, by omega, by omega, by omega, fun z2 t2 HB stB laB => ⟨true, rfl, ?_⟩⟩
      exact iteF ⟨_, _, _, _, _, _, rfl, stA.trans stB, laB, by rw [List.length_append]; show _ + 1 = _; omega, by omega, by omega⟩
    · rintro σ HA ⟨v6, B', q', ns', cc, nd', rfl, stA, laA, hns, hnd', hcc⟩
      have l2 : (nsV [u1, u2]).length = 2 := rfl
      rw [l2] at hns hnd' hcc
      exact k HA B' q' ns' cc nd' (st09.trans stA) laA (by omega) (by omega) (by omega)
end
end K9
end

section
set_option Elab.async false
set_option linter.all false
set_option maxRecDepth 100000
set_option maxHeartbeats 1000000
namespace K9
open PySem PySem.Spec PyProof.Rows L2
/-! the law's right -/
abbrev scA : Scope := { kind := .function, names := [(".0", .local), ("_law_a", .cell), ("range", .globalImplicit), ("_law_world_here", .free)], isGenerator := false, isCoroutine := false }
section
variable {P : Program} {w : World} {K : PySem.W.Frag} {mg : Str → Option Value} {base : Heap}
theorem made_here {ro : Ro} {H : Hp} {a : LA} {n : Nat} {R : List Ky} {many : Nat} {near : Nat → List Nat} {W : Nat → Nat → List Nat} {B : Nat → List Line} {q : Nat → Nat → List Line} {ns : Notes} {c nd : Nat}
    (la : LawAt K ro H a n R many near W B q ns c nd) (hc : c + 1 ≤ 10000) {left : Nat} {σ : L2.St} (e7 : σ[7]? = some (some (nV left))) (e0 : σ[0]? = some (some (.ref a.bx))) {Q : VK}
    (k : ∀ (mh : Bool) H' c', (mh = true → 0 < left) → St0 ro H H' → LawAt K ro H' a n R many near W B q ns c' nd → c' ≤ c + 1 → Q (.bl mh) H') :
    tAndV (tOp (rI0 fun i j => .bl (decide (j < i))) (tVar 7) (tC (.int 0))) (tOp rEq (tUse spLtake (tCons (tVar 0) (tCons (tC (.int 3)) tNil))) (tC (.int 0))) σ H Q := by
  refine ⟨_, e7, _, _, rfl, rfl, _, rfl, ?_⟩
  by_cases h : 0 < left
  · rw [decide_eq_true (show (0 : Int) < (left : Int) by omega)]
    refine iteT ?_
    refine ⟨_, e0, a.bx, 3, c, rfl, la.box, by omega, by decide, by decide, fun d H3 hd b3 al3 hb3 => ⟨rfl, ?_⟩⟩
    exact k _ H3 (c + 1) (fun _ => h) (la.st b3) (la.drawn b3 al3 hb3 (by omega)) (Nat.le_refl _)
  · rw [decide_eq_false (show ¬ (0 : Int) < (left : Int) by omega)]
    exact iteF (k false H c (fun z => by cases z) (St0.refl ro H) la (by omega))
theorem cond_make {H : Hp} {r : Addr} {ys : List V} {E : List Ky} (hr : H r = some (.lst ys)) (px : Paired (KyAt H) ys E) {left : Nat} {mh : Bool} (hm : mh = true → 0 < left) {σ : L2.St} (e7 : σ[7]? = some (some (nV left))) (e9 : σ[9]? = some (some (.ref r))) (e10 : σ[10]? = some (some (.bl mh))) {Q : Bool → Hp → Prop}
    (k : ∀ (cb : Bool) H', Same H H' → (cb = true → 0 < left) → (cb = false → E ≠ [] ∨ left = 0) → Q cb H') :
    tOr (tB (tVar 10)) (tAnd (tTest (tOp (rEqD K) (tVar 9) (tLst tNil))) (tTest (tOp (rI0 fun i j => .bl (decide (j < i))) (tVar 7) (tC (.int 0))))) σ H Q := by
  refine ⟨_, e10, mh, rfl, ?_⟩
  cases mh with
  | true => exact iteT (k true H (L2.Same.refl H) hm (fun z => by cases z))
  | false =>
    refine iteF ?_
    refine ⟨_, e9, (by decide : 0 ≤ sizeLine), fun e he => ?_⟩
    have s1 : Same H (upd H e (.lst [])) := Same.new he
    refine ⟨.list (E.map kyD), .list [], .lst (SqL.of (s1 _ _ hr)) (dpAll_of (fun v y h => KyAt.dp h) (kysMono s1.tups px)), .lst (SqL.of upd_same) .nil, kyDs_shaped E, nil_shaped, _, rfl, ?_⟩
    rw [eqv_nil]
    cases E with
    | nil =>
      refine iteT ?_
      refine ⟨_, e7, _, _, rfl, rfl, _, rfl, ?_⟩
      by_cases h : 0 < left
      · rw [decide_eq_true (show (0 : Int) < (left : Int) by omega)]
        exact k true _ s1 (fun _ => h) (fun z => by cases z)
      · rw [decide_eq_false (show ¬ (0 : Int) < (left : Int) by omega)]
        exact k false _ s1 (fun z => by cases z) (fun _ => .inr (by omega))
    | cons x l => exact iteF (k false _ s1 (fun z => by cases z) (fun _ => .inl (by simp)))
theorem check_now {ro : Ro} {H : Hp} {a : LA} {n : Nat} {R : List Ky} {many : Nat} {near : Nat → List Nat} {W : Nat → Nat → List Nat} {B : Nat → List Line} {q : Nat → Nat → List Line} {ns : Notes} {c nd : Nat}
    (la : LawAt K ro H a n R many near W B q ns c nd) (hc : c + 1 ≤ 10000) {σ : L2.St} (e0 : σ[0]? = some (some (.ref a.bx))) (e2 : σ[2]? = some (some (.ref a.wd))) (e3 : σ[3]? = some (some (.ref a.p))) (e4 : σ[4]? = some (some (.ref a.bk))) (e5 : σ[5]? = some (some (.ref a.nt))) (e6 : σ[6]? = some (some (.ref a.wy))) {D : Ends}
    (k : ∀ H' c', St0 ro H H' → LawAt K ro H' a n R many near W B q ns c' nd → c' ≤ c + 1 → D.nx σ H') :
    tIfS (tAnd (tTest (tOp rEq (tUse spLtake (tCons (tVar 0) (tCons (tC (.int 6)) tNil))) (tC (.int 0)))) (tNot (tB (tUse (spRightNow K) (tCons (tVar 2) (tCons (tVar 3) (tCons (tVar 6) (tCons (tVar 4) (tCons (tVar 5) tNil)))))))))
      (tRet (tC (.bl false))) tNext D σ H := by
  refine ⟨_, e0, a.bx, 6, c, rfl, la.box, by omega, by decide, by decide, fun d H3 hd b3 al3 hb3 => ⟨rfl, _, rfl, ?_⟩⟩
  have la3 := la.drawn b3 al3 hb3 (by omega)
  refine ite2 (fun _ => ?_) (fun _ => iteF (k H3 (c + 1) (la.st b3) la3 (Nat.le_refl _)))
  refine ⟨_, e2, _, e3, _, e6, _, e4, _, e5, ro, a, n, R, many, near, W, B, q, ns, c + 1, nd, rfl, la3, fun H4 s4 => ⟨true, rfl, ?_⟩⟩
  exact iteF (k H4 (c + 1) ((la.st b3).trans (St0.of s4)) (la3.same s4) (Nat.le_refl _))
theorem book_refs {ro : Ro} {H : Hp} {a : LA} {n : Nat} {R : List Ky} {many : Nat} {near : Nat → List Nat} {W : Nat → Nat → List Nat} {B : Nat → List Line} {q : Nat → Nat → List Line} {ns : Notes} {c nd : Nat}
    (la : LawAt K ro H a n R many near W B q ns c nd) : H a.bk = some (.lst (a.lbs.map V.ref)) ∧ Paired (fun (x : V) u => ∃ b xs, x = .ref b ∧ H b = some (.lst xs) ∧ xs.length = (B u).length) (a.lbs.map V.ref) (List.range n) := by
  obtain ⟨fB, rB, pB⟩ := la.books
  refine ⟨rB.top, ?_⟩
  have pR : ∀ l : List Nat, (∀ u ∈ l, u < n) → Paired (fun (x : V) u => ∃ b xs, x = .ref b ∧ H b = some (.lst xs) ∧ xs.length = (B u).length) (l.map fun u => V.ref (a.lbs.getD u 0)) l := by
    intro l
    induction l with
    | nil => intro _; exact .nil
    | cons u l ih =>
      intro hl
      refine .cons ?_ (ih fun z hz => hl z (List.mem_cons_of_mem _ hz))
      obtain ⟨b, eb, _, hb⟩ := rB.get (hl u List.mem_cons_self)
      exact ⟨b, fB u, by show V.ref (a.lbs.getD u 0) = V.ref b; rw [List.getD_eq_getElem?_getD, eb] <;> rfl, hb, Paired.length (pB u (hl u List.mem_cons_self))⟩
  have eL : a.lbs.map V.ref = (List.range n).map fun u => V.ref (a.lbs.getD u 0) := by
    apply List.ext_getElem?
    intro j
    rw [List.getElem?_map, List.getElem?_map]
    by_cases hj : j < n
    · rw [List.getElem?_range hj, List.getElem?_eq_getElem (by rw [rB.len]; exact hj)]
      simp [List.getD_eq_getElem?_getD, List.getElem?_eq_getElem (show j < a.lbs.length by rw [rB.len]; exact hj)]
    · rw [List.getElem?_eq_none (by rw [rB.len]; omega), List.getElem?_eq_none (by rw [List.length_range]; omega)] <;> rfl
  rw [eL]
  exact pR _ fun u hu => List.mem_range.mp hu
theorem begun_if {ro : Ro} {H : Hp} {a : LA} {n : Nat} {R : List Ky} {many : Nat} {near : Nat → List Nat} {W : Nat → Nat → List Nat} {c : Nat}
    (la : LawAt K ro H a n R many near W (fun _ => []) (fun _ _ => []) [] c 0) (hc : c ≤ 150) {pl : Bool} {σ : L2.St} (e0 : σ[0]? = some (some (.ref a.bx))) (e1 : σ[1]? = some (some (.bl pl))) (e2 : σ[2]? = some (some (.ref a.wd))) (e3 : σ[3]? = some (some (.ref a.p))) (e4 : σ[4]? = some (some (.ref a.bk))) (e5 : σ[5]? = some (some (.ref a.nt))) (e6 : σ[6]? = some (some (.ref a.wy))) {D : Ends}
    (k : ∀ H' B q ns c' nd, St0 ro H H' → LawAt K ro H' a n R many near W B q ns c' nd → ns.length ≤ 3 → nd ≤ 20 → c' ≤ 200 → D.nx σ H') :
    tIfS (tAnd (tB (tVar 1)) (tAnd (tTest (tOp (rI0 fun i j => .bl (decide (j < i))) (tOp (rIxL K) (tVar 2) (tC (.int 0))) (tC (.int 1)))) (tNot (tB (tUse (spBegun K) (tCons (tVar 0) (tCons (tVar 2) (tCons (tVar 3) (tCons (tVar 6) (tCons (tVar 4) (tCons (tVar 5) tNil)))))))))))
      (tRet (tC (.bl false))) tNext D σ H := by
  have base : D.nx σ H := k H _ _ [] c 0 (St0.refl ro H) la (by simp) (by omega) (by omega)
  refine ⟨_, e1, pl, rfl, ?_⟩
  refine ite2 (fun _ => ?_) (fun _ => iteF base)
  refine ⟨_, e2, a.wd, _, _, _, rfl, rfl, SqL.of la.world, (rfl : atI [nV n, V.ref a.rl, nV many] 0 = some (nV n)), _, _, rfl, rfl, _, rfl, ?_⟩
  by_cases h : 1 < n
  · rw [decide_eq_true (show (1 : Int) < (n : Int) by omega)]
    refine iteT ?_
    refine ⟨_, e0, _, e2, _, e3, _, e6, _, e4, _, e5, ro, a, n, R, many, near, W, c, rfl, la, by omega, by omega, fun H' B q ns c' nd' st la' l1 l2 l3 => ⟨true, rfl, ?_⟩⟩
    exact iteF (k H' B q ns c' nd' st la' l1 l2 (by omega))
  · rw [decide_eq_false (show ¬ (1 : Int) < (n : Int) by omega)]
    exact iteF (iteF base)
def spLright : Sp := fun vs H Q _ => ∃ (b : Addr), vs = [.ref b] ∧ BoxAt H b 0 ∧ ∀ H', But b H H' → Q (.bl true) H'
theorem h_l_right (T : Top K mg) : HasG P w K mg base 10 (He.ga K "_law_right") A_l_right spLright := by
  refine hasG_of T.f_l_right sc_l_right (fun _ _ _ _ _ _ us hl => match us, hl with | [_], _ => rfl) (fun vs H Q E h => ?_) (fun cdv A outer s H vs Q E hg hr h => ?_)
  · obtain ⟨b, rfl, _⟩ := h
    rfl
  · obtain ⟨bx, rfl, hbx, k⟩ := h
    have hr1 : Room 1 _ := hr.mono (by decide)
    have hr2 : Room 2 _ := hr.mono (by decide)
    have hr3 : Room 3 _ := hr.mono (by decide)
    have hr6 : Room 6 _ := hr.mono (by decide)
    have hr8 : Room 8 _ := hr.mono (by decide)
    obtain ⟨fdE, FE, bE, kpE⟩ := h_Tree_eq (P := P) (w := w) (base := base) T
    refine ⟨_, pss_cons (ps_set (i := 1) sc_l_right.nd rfl (Or.inl rfl) (pe_cmpR op_eq (pe_use (h_l_take T) hr1 T.g_l_take (pa_cons (pv 0) (pa_cons pe_int pa_nil))) pe_int (nomark _)))
      (pss_cons (ps_set (i := 2) sc_l_right.nd rfl (Or.inr rfl) (pe_use (h_l_world T) hr3 T.g_l_world (pa_cons (pv 0) pa_nil)))
      (pss_cons (ps_asg (pe_tup (pa_cons (pe_useMk T.mk_Plain (h_Plain_init T) hr2 T.g_Plain (pa_cons (pe_useMk T.mk_Tree (h_Tree_init T) hr6 T.g_Tree (pa_cons (pe_ix ix_list (pv 2) pe_int (fun _ _ => rfl)) (pa_cons (pe_ix ix_list (pv 2) pe_int (fun _ _ => rfl)) pa_nil))) pa_nil))
          (pa_cons (pe_lc (own := [("_law_house", 15)]) (g := gName 15) (tt := tYes) rfl sc_l_right.nd (pi_range1 (by rfl) T.z_range (pa_cons (pe_ix ix_list (pv 2) pe_int (fun _ _ => rfl)) pa_nil)) (blkOk_by (N := N_l_right) (sc := defScope s_l_right) (by decide +kernel)) (fun _ _ _ _ _ => pg_name (i := 15) sc_l_right.nd rfl (Or.inl rfl)) (fun _ _ _ _ _ => pts_nil) (fun _ _ _ _ _ => pe_lst pa_nil))
          (pa_cons pe_dnewT pa_nil)))) (pg_tup rfl (pgs_cons (pg_name (i := 3) sc_l_right.nd rfl (Or.inl rfl)) (pgs_cons (pg_name (i := 4) sc_l_right.nd rfl (Or.inl rfl)) (pgs_cons (pg_name (i := 5) sc_l_right.nd rfl (Or.inr rfl)) pgs_nil)))))
      (pss_cons (ps_setLc (i := 6) (own := [("_law_a", 14)]) (g := gName 14) (tt := tYes) (te := tLc (iRng1 (tCons (tOp (rIxL K) (tVar 2) (tC (.int 0))) tNil)) (gName 16) tYes (tUse spLway (tCons (tVar 2) (tCons (tVar 14) (tCons (tVar 16) tNil)))) [16]) rfl sc_l_right.nd rfl rfl (sw_true rfl rfl rfl (by decide +kernel)) (pi_range1 (by rfl) T.z_range (pa_cons (pe_ix ix_list (pv 2) pe_int (fun _ _ => rfl)) pa_nil)) (blkOk_by (N := N_l_right) (sc := defScope s_l_right) (by decide +kernel))
          (fun _ _ _ _ _ => pg_name (i := 14) sc_l_right.nd rfl (Or.inr rfl)) (fun _ _ _ _ _ => pts_nil)
          (fun _ _ _ _ _ => pe_lc (own := [("_law_b", 16)]) (g := gName 16) (tt := tYes) rfl sc_l_right.nd (pi_range1 (by rfl) T.z_range (pa_cons (pe_ix (r := rIxL K) ix_list (pv 2) pe_int (fun _ _ => rfl)) pa_nil)) (blkOk_by (N := N_l_right) (sc := relS scA (defScope s_l_right)) (by decide +kernel))
            (fun _ _ _ _ _ => pg_name (i := 16) sc_l_right.nd rfl (Or.inl rfl)) (fun _ _ _ _ _ => pts_nil) (fun _ _ _ _ _ => pe_use (h_l_way T) hr1 T.g_l_way (pa_cons (pv 2) (pa_cons (pv 14) (pa_cons (pv 16) pa_nil))))))
      (pss_cons (ps_if (PW.pt (pw_and (pt_val (pv 1)) (pw_and (pt_cmpR op_gt (pe_ix ix_list (pv 2) pe_int (fun _ _ => rfl)) pe_int (nomark _)) (pw_and1 (pt_not (pt_val (pe_useG (h_l_begun T) hg hr T.g_l_begun (pa_cons (pv 0) (pa_cons (pv 2) (pa_cons (pv 3) (pa_cons (pv 6) (pa_cons (pv 4) (pa_cons (pv 5) pa_nil)))))))))))))  (pss_one (ps_ret pe_bl)) pss_nil)
      (pss_cons (ps_set (i := 7) sc_l_right.nd rfl (Or.inl rfl) (pe_ix ix_list (pv 2) pe_int (fun _ _ => rfl)))
      (pss_cons (ps_for PassesOwn.never rfl (pi_range1 (by rfl) T.z_range (pa_cons (pe_op op_mul (pe_ix ix_list (pv 2) pe_int (fun _ _ => rfl)) (pe_op op_add (pe_ix ix_list (pv 2) pe_int (fun _ _ => rfl)) pe_int)) pa_nil)) (pg_name (i := 8) sc_l_right.nd rfl (Or.inl rfl))
        (pss_cons (ps_set (i := 9) sc_l_right.nd rfl (Or.inl rfl) (pe_use (h_l_ready T) hr2 T.g_l_ready (pa_cons (pv 2) (pa_cons (pv 4) (pa_cons (pv 6) pa_nil)))))
        (pss_cons (ps_set (i := 10) sc_l_right.nd rfl (Or.inl rfl) (pe_and (pe_cmpR op_gt (pv 7) pe_int (nomark _)) (pe_one (pe_cmpR op_eq (pe_use (h_l_take T) hr1 T.g_l_take (pa_cons (pv 0) (pa_cons pe_int pa_nil))) pe_int (nomark _)))))
        (pss_cons (ps_if (PW.pt (pw_or (pt_val (pv 10)) (pw_or1 (PW.pt (pw_and (pt_cmpR (op_eqD hr.units) (pv 9) (pe_lst pa_nil) (nomark _)) (pw_and1 (pt_cmpR op_gt (pv 7) pe_int (nomark _))))))))
            (pss_cons (ps_set (i := 7) sc_l_right.nd rfl (Or.inl rfl) (pe_op op_sub (pv 7) pe_int))
            (pss_one (ps_if (pt_not (pt_val (pe_useG (h_l_make T) hg hr6 T.g_l_make (pa_cons (pv 0) (pa_cons (pv 3) (pa_cons (pv 4) (pa_cons (pv 5) (pa_cons (pe_use (h_l_take T) hr1 T.g_l_take (pa_cons (pv 0) (pa_cons (pe_ix ix_list (pv 2) pe_int (fun _ _ => rfl)) pa_nil))) pa_nil)))))))) (pss_one (ps_ret pe_bl)) pss_nil)))
            (pss_one (ps_if (pt_cmpR (op_neD hr.units) (pv 9) (pe_lst pa_nil) (nomark _))
              (pss_cons (ps_asg (pe_ix ix_list (pv 9) (pe_use (h_l_take T) hr1 T.g_l_take (pa_cons (pv 0) (pa_cons (pe_blt call_len_seq T.z_len (pa_cons (pv 9) pa_nil)) pa_nil))) (fun _ _ => rfl)) (pg_tup rfl (pgs_cons (pg_name (i := 11) sc_l_right.nd rfl (Or.inl rfl)) (pgs_cons (pg_name (i := 12) sc_l_right.nd rfl (Or.inl rfl)) pgs_nil))))
              (pss_one (ps_if (pt_not (pt_val (pe_useG (h_l_hand T) hg hr8 T.g_l_hand (pa_cons (pv 3) (pa_cons (pv 4) (pa_cons (pv 6) (pa_cons (pv 11) (pa_cons (pv 12) pa_nil)))))))) (pss_one (ps_ret pe_bl)) pss_nil))) pss_nil)))
        (pss_one (ps_if (PW.pt (pw_and (pt_cmpR op_eq (pe_use (h_l_take T) hr1 T.g_l_take (pa_cons (pv 0) (pa_cons pe_int pa_nil))) pe_int (nomark _)) (pw_and1 (pt_not (pt_val (pe_use (h_l_right_now T) hr8 T.g_l_right_now (pa_cons (pv 2) (pa_cons (pv 3) (pa_cons (pv 6) (pa_cons (pv 4) (pa_cons (pv 5) pa_nil)))))))))))
            (pss_one (ps_ret pe_bl)) pss_nil))))))
      (pss_cons (ps_set (i := 13) sc_l_right.nd rfl (Or.inl rfl) (pe_cmpR (op_eqD hr.units) (pe_lc (own := [("_law_book", 17)]) (g := gName 17) (tt := tTest (tOp (rI0 fun i j => .bl (decide (i < j))) (tCB (rLenK K) (tCons (tVar 17) tNil)) (tCB rLenT (tCons (tVar 5) tNil)))) rfl sc_l_right.nd (pi_list (pv 4)) (blkOk_by (N := N_l_right) (sc := defScope s_l_right) (by decide +kernel)) (fun _ _ _ _ _ => pg_name (i := 17) sc_l_right.nd rfl (Or.inl rfl))
            (fun _ _ _ _ _ => pts_one (pt_cmpR op_lt (pe_blt (r := rLenK K) call_len_seq T.z_len (pa_cons (pv 17) pa_nil)) (pe_blt call_len_dT T.z_len (pa_cons (pv 5) pa_nil)) (nomark _))) (fun _ _ _ _ _ => pe_int)) (pe_lst pa_nil) (nomark _)))
      (pss_one (ps_ret (pe_and (pv 13) (pe_and (pe_use (h_l_right_now T) hr8 T.g_l_right_now (pa_cons (pv 2) (pa_cons (pv 3) (pa_cons (pv 6) (pa_cons (pv 4) (pa_cons (pv 5) pa_nil)))))) (pe_one (pe_cmpR (op_eqG (rcG_ins FE T.m_Tree_eq.at_ T.m_Tree_eq.fn bE pass0) hr1) (pe_fld (pv 3) rfl)
          (pe_useMk T.mk_Tree (h_Tree_init T) hr6 T.g_Tree (pa_cons (pe_ix ix_list (pv 2) pe_int (fun _ _ => rfl)) (pa_cons (pe_ix ix_list (pv 2) pe_int (fun _ _ => rfl)) pa_nil))) (nomark _)))))))))))))), ?_⟩
    obtain ⟨g0, g1, g2, g3, hb0, _⟩ := id hbx
    refine ⟨_, rfl, bx, 2, 0, rfl, hbx, by omega, by decide, by decide, fun d0 H1 hd0 b1 al1 hb1 => ⟨rfl, ?_⟩⟩
    refine ⟨_, rfl, bx, 0 + 1, rfl, hb1, by omega, fun wd n R many H2 hwd b2 al2 hb2 hw hn6 hm1 hm8 ok tw => ?_⟩
    obtain ⟨rl, xs, hrl1, hwd2, hrl2, px2⟩ := hw
    have b02 := b1.trans b2
    have al02 := al1.trans al2
    obtain ⟨_, _, _, _, hb10, _⟩ := id hb1
    obtain ⟨_, _, _, _, hb20, _⟩ := id hb2
    have hwdb : wd ≠ bx := fun z => by rw [z, hb10] at hwd; cases hwd
    have hrlb : rl ≠ bx := fun z => by rw [z, hb10] at hrl1; cases hrl1
    have n1 := tw.pos
    have w0 : atI [nV n, V.ref rl, nV many] 0 = some (nV n) := rfl
    have w1 : atI [nV n, V.ref rl, nV many] 1 = some (.ref rl) := rfl
    have w2 : atI [nV n, V.ref rl, nV many] 2 = some (nV many) := rfl
    refine ⟨_, rfl, wd, _, _, _, rfl, rfl, SqL.of hwd2, w0, _, rfl, wd, _, _, _, rfl, rfl, SqL.of hwd2, w1, fun t dt ht hdt hne => ?_⟩
    have s3 : Same H2 (upd (upd H2 dt (.own t)) t (.ins (He.ga K "Tree") dt [])) := (Same.new hdt).newr (by rw [upd_ne (Ne.symm hne)]; exact ht)
    refine ⟨t, dt, rl, xs, n, R, rfl, upd_same, s3 _ _ hrl2, kysMono s3.tups px2, ok, tw, fun near H3 b3 tr3 pn => ⟨rfl, ?_⟩⟩
    have s23 : Same H2 H3 := fun x o e => b3 x o (fun z => by rw [z, ht] at e; cases e) (s3 _ _ e)
    intro p dp hp hdp hnep
    have s4 : Same H3 (upd (upd H3 dp (.own p)) p (.ins (He.ga K "Plain") dp [])) := (Same.new hdp).newr (by rw [upd_ne (Ne.symm hnep)]; exact hp)
    have hb3 := s23 _ _ hb20
    have htb : t ≠ bx := fun z => by rw [z, hb20] at ht; cases ht
    have hpb : p ≠ bx := fun z => by rw [z, hb3] at hp; cases hp
    have nb : ∀ u, u < n → (near u).Nodup ∧ ∀ v ∈ near u, v < n ∧ v ≠ u := fun u hu => by
      refine ⟨(pn u hu).nodup_iff.mpr (met_nodup u tw.nodup (fun r hr => (tw.lt r hr).1)), fun v hv => ?_⟩
      rcases mem_met.mp ((pn u hu).mem_iff.mp hv) with z | z
      · have := tw.lt _ z
        exact ⟨this.2, Nat.ne_of_gt this.1⟩
      · have := tw.lt _ z
        exact ⟨Nat.lt_trans this.1 this.2, Nat.ne_of_lt this.1⟩
    have lv4 : Lv (fun x => if x = bx then (5, 0, 0) else (0, 0, 0)) (upd (upd H3 dp (.own p)) p (.ins (He.ga K "Plain") dp [])) := fun x e => by
      by_cases z : x = bx
      · rw [z, s4 _ _ hb3] at e; cases e
      · show (if x = bx then ((5, 0, 0) : Nat × Nat × Nat) else (0, 0, 0)).1 = 0
        rw [if_neg z]
    refine ⟨fun x => if x = bx then (5, 0, 0) else (0, 0, 0), p, dp, t, n, R, near, rfl, upd_same, tr3.same s4, by omega, nb, lv4, by show (if p = bx then ((5, 0, 0) : Nat × Nat × Nat) else (0, 0, 0)).1 = 0; rw [if_neg hpb], by show (if t = bx then ((5, 0, 0) : Nat × Nat × Nat) else (0, 0, 0)).1 = 0; rw [if_neg htb], fun ro pa H5 b5 al5 ex5 lv5 pl5 => ⟨rfl, ?_⟩⟩
    have s25 : Same H2 H5 := fun x o e => b5 x o (fun z => by rw [z] at e; rw [s23 _ _ e] at hp; cases hp) (s4 _ _ (s23 _ _ e))
    have rbx5 : ro bx = (5, 0, 0) := by
      rw [ex5 _ _ (s4 _ _ hb3)]
      exact if_pos rfl
    have r0 : ∀ x o, x ≠ bx → H2 x = some o → (ro x).1 = 0 := fun x o hx e => by
      rw [ex5 _ _ (s4 _ _ (s23 _ _ e))]
      show (if x = bx then ((5, 0, 0) : Nat × Nat × Nat) else (0, 0, 0)).1 = 0
      rw [if_neg hx]
    have en : ((n : Int)).toNat = n := by omega
    refine ⟨_, rfl, wd, _, _, _, rfl, rfl, SqL.of (s25 _ _ hwd2), w0, (n : Int), rfl, by omega, by omega, fun bk hbk => ?_⟩
    rw [en]
    refine rows_new hbk (by omega) (fun _ => rfl) fun H6 as s6 r6 fr => ?_
    intro nt hnt
    have s67 : Same H6 (upd H6 nt (.dT [])) := Same.new hnt
    have hnt7 : upd H6 nt (.dT []) nt = some (.dT []) := upd_same
    have ex6 : ExtR H5 ro (listR ro 7 as) := ExtR.list fr
    have lv6 : Lv (listR ro 7 as) H6 := (lv5.same s6).list fun b hb => by
      obtain ⟨j, hj, e⟩ := List.getElem_of_mem hb
      exact ⟨_, r6.at_ j b (by rw [List.getElem?_eq_getElem hj, e])⟩
    have rbk6 : (listR ro 7 as bk).1 = 0 := by
      unfold listR
      rw [if_neg r6.ne]
      exact lv5 bk hbk
    have ras6 : ∀ (u : Nat) (b : Addr), as[u]? = some b → listR ro 7 as b = (7, u, 0) := fun u b e => listR_at r6.nd e
    have pl6 := (pl5.reRo ex6).same s6
    have ex7 : ExtR H6 (listR ro 7 as) (setR (listR ro 7 as) nt (6, 0, 0)) := ExtR.set hnt
    have lv7 : Lv (setR (listR ro 7 as) nt (6, 0, 0)) (upd H6 nt (.dT [])) := Lv.set lv6
    have rnt7 : setR (listR ro 7 as) nt (6, 0, 0) nt = (6, 0, 0) := if_pos rfl
    have pl7 := (pl6.reRo ex7).same s67
    have exA : ExtR H5 ro (setR (listR ro 7 as) nt (6, 0, 0)) := ExtR.tr s6.al ex6 ex7
    have r7 := r6.same s67
    have rbk7 : (setR (listR ro 7 as) nt (6, 0, 0) bk).1 = 0 := by rw [ex7 _ _ r6.top]; exact rbk6
    have ras7 : ∀ (u : Nat) (b : Addr), as[u]? = some b → setR (listR ro 7 as) nt (6, 0, 0) b = (7, u, 0) := fun u b e => by rw [ex7 _ _ (r6.at_ u b e)]; exact ras6 u b e
    have rbx7 : setR (listR ro 7 as) nt (6, 0, 0) bx = (5, 0, 0) := by rw [exA _ _ (s25 _ _ hb20)]; exact rbx5
    have r70 : ∀ x o, x ≠ bx → H2 x = some o → (setR (listR ro 7 as) nt (6, 0, 0) x).1 = 0 := fun x o hx e => by rw [exA _ _ (s25 _ _ e)]; exact r0 x o hx e
    have s27 : Same H2 (upd H6 nt (.dT [])) := (L2.Same.trans s25 s6).newr hnt
    refine ⟨(by decide : 3 ≤ sizeLine), fun tp htp => ?_⟩
    refine ⟨tp, _, rfl, SqT.of upd_same, rfl, _, _, rfl, _, _, rfl, _, _, rfl, rfl, ?_⟩
    have s78 : Same (upd H6 nt (.dT [])) (upd (upd H6 nt (.dT [])) tp (.tup [.ref p, .ref bk, .ref nt])) := Same.new htp
    show Ends.nx _ _ (upd (upd H6 nt (.dT [])) tp (.tup [.ref p, .ref bk, .ref nt]))
    have hnt8 := s78 _ _ hnt7
    have lv8 := lv7.same s78
    have pl8 := pl7.same s78
    have r8 := r7.same s78
    have s28 := L2.Same.trans s27 s78
    generalize upd (upd H6 nt (.dT [])) tp (.tup [.ref p, .ref bk, .ref nt]) = H8 at hnt8 lv8 pl8 r8 s28
    generalize setR (listR ro 7 as) nt (6, 0, 0) = rF at rnt7 rbk7 ras7 rbx7 r70 lv8 pl8
    obtain ⟨S, ts⟩ := tw.tree
    obtain ⟨W, hW⟩ : ∃ W : Nat → Nat → List Nat, ∀ u, u < n → ∀ v, v < n → Way (RdAdj R) u v (W u v) :=
      choose_fn fun u hu => choose_fn fun v hv => ts.way hu hv
    have hwd8 := s28 _ _ hwd2
    refine ⟨_, rfl, wd, _, _, _, rfl, rfl, SqL.of hwd8, w0, (n : Int), rfl, by omega, by omega, fun wy hwy => ?_⟩
    rw [en]
    refine lcEach (R := fun x k => x = nV k) (ls := List.range n) (R2 := fun H y u => ∃ b ys, y = V.ref b ∧ b ≠ wy ∧ (rF b).1 = 0 ∧ H b = some (.lst ys) ∧ ys.length = n ∧ ∀ v, v < n → ∃ c, ys[v]? = some (.ref c) ∧ c ≠ wy ∧ (rF c).1 = 0 ∧ H c = some (.lst (nsV (W u v))))
      (n := n) (walk_nats n) (by simp) (Paired.of_map (F := fun x k => x = nV k) (f := nV) (fun _ => rfl) _) id (fun _ _ => trivial) hwy (by omega) (fun _ => rfl) ?_ ?_ ?_
    · rintro G G' y u kk ⟨b, ys, e, h1, h2, h3, h4, h5⟩
      refine ⟨b, ys, e, h1, h2, kk b _ h1 h3, h4, fun v hv => ?_⟩
      obtain ⟨c, k1, k2, k3, k4⟩ := h5 v hv
      exact ⟨c, k1, k2, k3, kk c _ k2 k4⟩
    · rintro x u H9 Q9 rfl hu s9 ⟨ws, hws⟩ k9
      have hun := List.mem_range.mp hu
      refine ⟨_, rfl, wd, _, _, _, rfl, rfl, SqL.of (s9 _ _ hwd8), w0, (n : Int), rfl, by omega, by omega, fun D2 hD2 => ?_⟩
      rw [en]
      refine lcEach (R := fun x k => x = nV k) (ls := List.range n) (R2 := fun H y v => ∃ c, y = V.ref c ∧ c ≠ D2 ∧ c ≠ wy ∧ (rF c).1 = 0 ∧ H c = some (.lst (nsV (W u v))))
        (n := n) (walk_nats n) (by simp) (Paired.of_map (F := fun x k => x = nV k) (f := nV) (fun _ => rfl) _) id (fun _ _ => trivial) hD2 (by omega) (fun _ => rfl) ?_ ?_ ?_
      · rintro G G' y v kk ⟨c, e, h1, h2, h3, h4⟩
        exact ⟨c, e, h1, h2, h3, kk c _ h1 h4⟩
      · rintro x v H10 Q10 rfl hv s10 ⟨ws2, hws2⟩ k10
        have hvn := List.mem_range.mp hv
        have s2x := L2.Same.trans s28 (L2.Same.trans s9 s10)
        refine ⟨_, rfl, _, rfl, _, rfl, wd, n, R, many, u, v, rfl, ⟨rl, xs, s2x _ _ hwd2, s2x _ _ hrl2, kysMono s2x.tups px2⟩, tw, hn6, hun, hvn, fun r pth H11 hr11 s11 hr way => ?_⟩
        have e := way.uniq ts hun (hW u hun v hvn)
        rw [e] at hr
        exact k10 _ H11 s11 ⟨r, rfl, fun z => ne_of_none hws2 hr11 z.symm, fun z => ne_of_none (s10 _ _ hws) hr11 z.symm, lv8.same (L2.Same.trans s9 s10) r hr11, hr⟩
      · intro H10 ys s10 hys pys
        rw [List.map_id] at pys
        have ly := Paired.length pys
        rw [List.length_range] at ly
        refine k9 _ H10 s10 ⟨D2, ys, rfl, fun z => ne_of_none hws hD2 z.symm, lv8.same s9 D2 hD2, hys, ly, fun v hv => ?_⟩
        obtain ⟨y, ey, c, rfl, h1, h2, h3, h4⟩ := Paired.at' pys (List.getElem?_range hv)
        exact ⟨c, ey, h2, h3, h4⟩
    intro H9 ws s9 hws pws
    rw [List.map_id] at pws
    have lws := Paired.length pws
    rw [List.length_range] at lws
    have s29 := L2.Same.trans s28 s9
    have waysA : WaysAt rF H9 wy n W := ⟨lv8 wy hwy, ws, hws, lws, fun u hu => by
      obtain ⟨y, ey, b, ys, rfl, h1, h2, h3, h4, h5⟩ := Paired.at' pws (List.getElem?_range hu)
      refine ⟨b, ys, ey, h2, h3, h4, fun v hv => ?_⟩
      obtain ⟨c, k1, k2, k3, k4⟩ := h5 v hv
      exact ⟨c, k1, k3, k4⟩⟩
    have la9 : LawAt K rF H9 ⟨bx, wd, p, bk, nt, wy, rl, pa, as⟩ n R many near W (fun _ => []) (fun _ _ => []) [] (0 + 1 + 100) 0 :=
      ⟨r70 wd _ hwdb hwd2, r70 rl _ hrlb hrl2, s29 _ _ hwd2, ⟨xs, s29 _ _ hrl2, kysMono s29.tups px2⟩, (pl8.same s9).congrM fun _ _ => rfl, ⟨fun _ => [], r8.same s9, fun _ _ => .nil⟩, rbk7, ras7, waysA, hb2.same s29, rbx7, ⟨[], s9 _ _ hnt8, .nil⟩, rnt7, lv8.same s9,
        fun _ _ l hl => (List.not_mem_nil hl).elim, fun u hu v => (pn u hu).mem_iff.trans mem_met, tw, ts.toW (fun a b ha hb => hW a ha b hb), Std.empty trivial, hn6, hm8, by simp, by omega, by omega⟩
    have btF : ∀ H', St0 rF H9 H' → But bx H H' := fun H' st x o hx e => st.keep x o (by
      exact r70 x _ hx (b02 x o hx e)) (s29 _ _ (b02 x o hx e))
    clear waysA pws hws lws ex5 ex6 ex7 exA lv4 lv5 lv6 lv7 pl5 pl6 pl7 pl8 r6 r7 r8 ras6 rbk6 fr
    refine begun_if la9 (by omega) rfl rfl rfl rfl rfl rfl rfl fun HA B0 q0 ns0 c0 nd0 stA laA ln0 ld0 lc0 => ?_
    refine ⟨_, rfl, wd, _, _, _, rfl, rfl, SqL.of laA.world, w2, ?_⟩
    have e66 : n * (many + 3) ≤ 66 := Nat.mul_le_mul hn6 (by omega : many + 3 ≤ 11)
    have eM : V.int ((n : Int) * ((many : Int) + 3)) = nV (n * (many + 3)) := congrArg V.int (by rw [Int.natCast_mul] <;> rfl)
    refine ⟨_, rfl, wd, _, _, _, rfl, rfl, SqL.of laA.world, w0, _, rfl, wd, _, _, _, rfl, rfl, SqL.of laA.world, w2, _, _, rfl, rfl, _, _, rfl, rfl, .inl ⟨by omega, by omega⟩, ((n * (many + 3) : Nat) : Int), by show [V.int ((n : Int) * ((many : Int) + 3))] = _; rw [eM], by omega, by omega, ?_⟩
    have e6 : (((n * (many + 3) : Nat)) : Int).toNat = n * (many + 3) := by omega
    rw [e6]
    refine for_range (fun i σ H' => i ≤ n * (many + 3) ∧ ∃ left B q ns c nd v1 v8 v9 v10 v11 v12, σ = [some (.ref bx), v1, some (.ref wd), some (.ref p), some (.ref bk), some (.ref nt), some (.ref wy), some (nV left), v8, v9, v10, v11, v12, none, none, none, none, none] ∧ St0 rF H9 H' ∧
        LawAt K rF H' ⟨bx, wd, p, bk, nt, wy, rl, pa, as⟩ n R many near W B q ns c nd ∧ Far n (RdAdj R) B q ns (many + 3) left i ∧ ns.length + left ≤ many + 3 ∧ nd ≤ 20 + i ∧ c ≤ 200 + 5 * i)
      ⟨Nat.zero_le _, many, B0, q0, ns0, c0, nd0, _, _, _, _, _, _, rfl, stA, laA, Far.start (by omega), by omega, by omega, by omega⟩ ?_ ?_
    · rintro i σ HB hi ⟨_, left, B, q, ns, c, nd, v1, v8, v9, v10, v11, v12, rfl, stB, laB, far, hl, hnd, hcc⟩
      refine ⟨_, rfl, _, rfl, _, rfl, rF, _, n, R, many, near, W, B, q, ns, c, nd, rfl, laB, fun r ys E HC sC hr0 hrC pE hE1 hE2 lE => ?_⟩
      have laC := laB.same sC
      have rr : (rF r).1 = 0 := laB.lv r hr0
      have stC := stB.trans (St0.of sC)
      have ly := Paired.length pE
      refine made_here laC (by omega) rfl rfl fun mh HD cD hmh stD laD hcD => ?_
      have hrD := stD.keep _ _ rr hrC
      have pED := kysMono stD.tups pE
      refine cond_make hrD pED hmh rfl rfl rfl fun cb HE sE hcb1 hcb2 => ?_
      have laE := laD.same sE
      have stE := (stC.trans stD).trans (St0.of sE)
      have hrE := sE _ _ hrD
      have pEE := kysMono sE.tups pED
      cases cb with
      | true =>
        refine iteT ?_
        obtain ⟨left', rfl⟩ : ∃ l, left = l + 1 := ⟨left - 1, by have := hcb1 rfl; omega⟩
        have eL : V.int (((left' + 1 : Nat) : Int) - 1) = nV left' := congrArg V.int (by omega)
        refine ⟨_, rfl, _, _, rfl, rfl, ?_⟩
        show Ends.nx _ (List.set _ 7 (some (V.int (((left' + 1 : Nat) : Int) - 1)))) HE
        rw [eL]
        refine ⟨_, rfl, _, rfl, _, rfl, _, rfl, _, rfl, _, rfl, wd, _, _, _, rfl, rfl, SqL.of laE.world, w0, bx, n, cD, rfl, laE.box, by omega, by omega, by omega, fun h HF hh bF alF hbF => ?_⟩
        have laF := laE.drawn bF alF hbF (by omega)
        refine ⟨rF, _, n, R, many, near, W, B, q, ns, cD + 1, nd, h, rfl, laF, hh, by omega, by omega, by omega, fun z t HG stG laG => ⟨true, rfl, ?_⟩⟩
        refine iteF ?_
        refine check_now laG (by omega) rfl rfl rfl rfl rfl rfl fun HX cX stX laX hcX => ?_
        exact ⟨by omega, left', _, _, _, cX, _, _, _, _, _, _, _, rfl, (((stE.trans (laE.st bF)).trans stG).trans stX), laX, far.make hh _, by rw [List.length_append]; show _ + 1 + _ ≤ _; omega, by omega, by omega⟩
      | false =>
        refine iteF ?_
        refine ⟨_, rfl, (by decide : 0 ≤ sizeLine), fun e he => ?_⟩
        have s1 : Same HE (upd HE e (.lst [])) := Same.new he
        refine ⟨.list (E.map kyD), .list [], .lst (SqL.of (s1 _ _ hrE)) (dpAll_of (fun v y h => KyAt.dp h) (kysMono s1.tups pEE)), .lst (SqL.of upd_same) .nil, kyDs_shaped E, nil_shaped, _, rfl, ?_⟩
        rw [ne_nilD]
        have laE' := laE.same s1
        have stE' := stE.trans (St0.of s1)
        have hrE' := s1 _ _ hrE
        have pEE' := kysMono s1.tups pEE
        show ite _ _ _
        generalize upd HE e (.lst []) = HE' at laE' stE' hrE' pEE' s1
        by_cases hEe : E = []
        · rw [decide_eq_false (not_not_intro hEe)]
          refine iteF ?_
          refine check_now laE' (by omega) rfl rfl rfl rfl rfl rfl fun HX cX stX laX hcX => ?_
          have hl0 : left = 0 := by
            rcases hcb2 rfl with h | h
            · exact (h hEe).elim
            · exact h
          exact ⟨by omega, left, B, q, ns, cX, nd, _, _, _, _, _, _, rfl, stE'.trans stX, laX, .inl ⟨hl0, hE2 hEe⟩, by omega, by omega, by omega⟩
        · rw [decide_eq_true hEe]
          refine iteT ?_
          have hEl : 0 < E.length := List.length_pos_iff.mpr hEe
          refine ⟨_, rfl, _, rfl, _, rfl, r, ys, rfl, .inl (SqL.of hrE'), bx, E.length, cD, by rw [ly], laE'.box, by omega, hEl, by omega, fun d HF hd bF alF hbF => ?_⟩
          have laF := laE'.drawn bF alF hbF (by omega)
          have stF := laE'.st bF
          obtain ⟨⟨u, v⟩, euv⟩ : ∃ x, E[d]? = some x := ⟨E[d], List.getElem?_eq_getElem hd⟩
          obtain ⟨yv, eyv, tt, rfl, htt⟩ := Paired.at' pEE' euv
          obtain ⟨ad, hq⟩ := hE1 _ (List.mem_of_getElem? euv)
          obtain ⟨l', rest, eq⟩ : ∃ l0 r, q u v = l0 :: r := by
            cases e : q u v with
            | nil => exact (hq e).elim
            | cons l0 r => exact ⟨l0, r, rfl⟩
          refine ⟨r, ys, _, _, rfl, rfl, SqL.of (stF.keep _ _ rr hrE'), atI_nat eyv, tt, _, rfl, SqT.of (stF.tups _ _ htt), rfl, _, _, rfl, _, _, rfl, rfl, ?_⟩
          refine ⟨_, rfl, _, rfl, _, rfl, _, rfl, _, rfl, rF, _, n, R, many, near, W, B, q, ns, cD + 1, nd, u, v, l', rest, rfl, laF, ad, eq, by omega, fun HG stG laG => ⟨true, rfl, ?_⟩⟩
          refine iteF ?_
          refine check_now laG (by omega) rfl rfl rfl rfl rfl rfl fun HX cX stX laX hcX => ?_
          exact ⟨by omega, left, _, _, ns, cX, _, _, _, _, _, _, _, rfl, ((stE'.trans stF).trans stG).trans stX, laX, far.hand ad (laF.tree.lt ad).2 l' eq, by omega, by omega, by omega⟩
    rintro σ HB ⟨_, left, B, q, ns, c, nd, v1, v8, v9, v10, v11, v12, rfl, stB, laB, far, hl, hnd, hcc⟩
    obtain ⟨hbk1, pbk⟩ := book_refs laB
    have fin := Far.end_ tw.pos laB.std laB.tree far
    obtain ⟨kvs, hntB, pnB⟩ := laB.notes
    have lkv := Paired.length pnB
    have lbk := Paired.length pbk
    rw [List.length_range] at lbk
    refine ⟨_, rfl, bk, rfl, ⟨_, SqL.of hbk1⟩, fun D hD => ?_⟩
    refine lcSel (ls := List.range n) (n := (as.map V.ref).length) walk_list rfl pbk (fun _ => false) (fun _ => V.int 1) (fun H' s => s.seq (SqL.of hbk1)) hD (by show (as.map V.ref).length ≤ 1000; have e : (as.map V.ref).length = n := lbk; omega) (fun _ => rfl) ?_ ?_ ?_
    · rintro x u H2 Q2 ⟨b, xs', rfl, hb, lx⟩ hu s2 k2
      refine ⟨_, rfl, b, xs', rfl, .inl (SqL.of (s2 _ _ hb)), _, rfl, nt, kvs, rfl, s2 _ _ hntB, _, _, rfl, rfl, _, rfl, ?_⟩
      have := fin u (List.mem_range.mp hu)
      rw [decide_eq_false (show ¬ ((xs'.length : Nat) : Int) < ((kvs.length : Nat) : Int) by omega)]
      exact k2
    · rintro x u H2 Q2 _ hu s2 k2
      exact k2
    intro HC sC hDC
    rw [filter_none (fun _ _ => rfl)] at hDC
    refine ⟨(by decide : 0 ≤ sizeLine), fun e he => ?_⟩
    have sD : Same HB (upd HC e (.lst [])) := sC.newr he
    refine ⟨.list [], .list [], .lst (SqL.of (by rw [upd_ne (ne_of_none hDC he)]; exact hDC)) .nil, .lst (SqL.of upd_same) .nil, nil_shaped, nil_shaped, ?_⟩
    have ee : PyData.eqv (.list []) (.list []) = true := by rw [eqv_nil] <;> rfl
    rw [ee]
    have laD := laB.same sD
    have stD := stB.trans (St0.of sD)
    show Ends.nx _ _ (upd HC e (.lst []))
    generalize upd HC e (.lst []) = HD at sD laD stD
    refine ⟨_, rfl, true, rfl, ?_⟩
    refine iteT ?_
    refine ⟨_, rfl, _, rfl, _, rfl, _, rfl, _, rfl, rF, _, n, R, many, near, W, B, q, ns, c, nd, rfl, laD, fun HE sE => ⟨true, rfl, ?_⟩⟩
    refine iteT ?_
    have laE := laD.same sE
    have stE := stD.trans (St0.of sE)
    obtain ⟨rs, hrsE, prsE⟩ := laE.roads
    refine ⟨_, rfl, p, _, _, _, _, rfl, laE.plain.ins, T.cl_Plain, T.n_Plain_tree, rfl, ?_⟩
    refine ⟨_, rfl, wd, _, _, _, rfl, rfl, SqL.of laE.world, w0, _, rfl, wd, _, _, _, rfl, rfl, SqL.of laE.world, w1, fun t2 dt2 ht2 hdt2 hne2 => ?_⟩
    have s3' : Same HE (upd (upd HE dt2 (.own t2)) t2 (.ins (He.ga K "Tree") dt2 [])) := (Same.new hdt2).newr (by rw [upd_ne (Ne.symm hne2)]; exact ht2)
    refine ⟨t2, dt2, rl, rs, n, R, rfl, upd_same, s3' _ _ hrsE, kysMono s3'.tups prsE, ok, tw, fun near2 HF bF trF pnF => ⟨rfl, ?_⟩⟩
    have sEF : Same HE HF := fun x o e => bF x o (fun z => by rw [z, ht2] at e; cases e) (s3' _ _ e)
    have trE := laE.plain.tree.same sEF
    obtain ⟨dxa, _, _, _, _, hia, _⟩ := id trE
    obtain ⟨dxb, _, _, _, _, hib, _⟩ := id trF
    refine ⟨⟨_, _, dxa, dxb, _, _, rfl, rfl, hia, hib, n, R, near, near2, trE, trF⟩, fun HG eG => ?_⟩
    exact k HG (fun x o hx e => eG x o (sEF x o (btF HE stE x o hx e)))
end
end K9
end

section
set_option Elab.async false
set_option linter.all false
set_option maxRecDepth 100000
set_option maxHeartbeats 1000000
namespace K9
open PySem PySem.Spec PyProof.Rows L2
/-! the law itself; its call from outside -/
section
variable {P : Program} {w : World} {K : PySem.W.Frag} {mg : Str → Option Value} {base : Heap}
def spLaw (K : PySem.W.Frag) : Sp := fun vs H Q _ => ∃ (a : Addr) (ns : List Int), vs = [.ref a] ∧ SqL K H a (ns.map V.int) ∧ ∀ H', Q (.bl true) H'
theorem h_law (T : Top K mg) {fd : FuncData} (F : FunD K "law" "law" (defArgs s_law) (defBody s_law) (defScope s_law) [] [] (He.ga K "law") fd) : FnG P w K mg base CX0 11 (He.ga K "law") fd A_law (spLaw K) := by
  refine fnG_of F sc_law (fun vs H Q E h => ?_) (fun cdv A outer s H vs Q E hg hr h => ?_)
  · obtain ⟨a, ns, rfl, _⟩ := h
    rfl
  · obtain ⟨a, ns, rfl, ha, k⟩ := h
    have hr1 : Room 1 _ := hr.mono (by decide)
    suffices hb : ∃ t, PSs (cxOf CX0 P w K mg base N_law "law" (defScope s_law) (He.ga K "law") cdv A outer s H E).nox (defBody s_law) t ∧ t (endOf Q) (L2.start N_law [.ref a]) H by
      obtain ⟨t, h1, h2⟩ := hb
      exact ⟨t, h1.nox, h2⟩
    refine ⟨_, pss_cons (ps_for PassesOwn.never rfl (pi_range1 (by rfl) T.z_range (pa_cons (pe_blt (call_max2 rfl) T.z_max (pa_cons pe_int (pa_cons (pe_blt (call_min2 rfl) T.z_min (pa_cons pe_int (pa_cons (pe_blt call_len_seq T.z_len (pa_cons (pv 0) pa_nil)) pa_nil))) pa_nil))) pa_nil)) (pg_name (i := 1) sc_law.nd rfl (Or.inl rfl))
        (pss_one (ps_if (pt_not (pt_val (pe_useG (h_l_right T) hg hr T.g_l_right (pa_cons (pe_use (h_l_box T) hr1 T.g_l_box (pa_cons (pe_use (h_l_cell T) hr1 T.g_l_cell (pa_cons (pv 0) (pa_cons (pv 1) pa_nil))) pa_nil)) pa_nil)))) (pss_one (ps_ret pe_bl)) pss_nil)))
      (pss_one (ps_ret pe_bl)), ?_⟩
    refine ⟨_, rfl, a, _, rfl, .inl ha, 4, _, rfl, 2, _, rfl, ?_⟩
    rw [List.length_map]
    obtain ⟨m, em, hm⟩ : ∃ m : Nat, (if (if ((ns.length : Nat) : Int) < 4 then ((ns.length : Nat) : Int) else 4) > 2 then (if ((ns.length : Nat) : Int) < 4 then ((ns.length : Nat) : Int) else 4) else 2) = (m : Int) ∧ m ≤ 4 := by
      by_cases h1 : ((ns.length : Nat) : Int) < 4
      · rw [if_pos h1]
        by_cases h2 : ((ns.length : Nat) : Int) > 2
        · exact ⟨ns.length, by rw [if_pos h2], by omega⟩
        · exact ⟨2, by rw [if_neg h2] <;> rfl, by decide⟩
      · rw [if_neg h1]
        exact ⟨4, by rw [if_pos (by decide)] <;> rfl, by decide⟩
    refine ⟨(m : Int), congrArg (fun z => [V.int z]) em, by omega, by omega, ?_⟩
    have e2 : ((m : Int)).toNat = m := by omega
    rw [e2]
    refine for_range (fun i σ H' => ∃ v1, σ = [some (.ref a), v1] ∧ Same H H') ⟨none, rfl, L2.Same.refl H⟩ ?_ ?_
    · rintro i σ H1 hi ⟨v1, rfl, s1⟩
      have ei : V.int (0 + (i : Int)) = nV i := congrArg V.int (by omega)
      rw [ei]
      refine ⟨_, rfl, _, rfl, a, ns, i, rfl, s1.seq ha, by omega, fun g H2 s2 => ?_⟩
      refine ⟨g, rfl, fun b hb H3 hb3 s3 bx => ?_⟩
      refine ⟨b, rfl, bx, fun H4 b4 => ⟨true, rfl, ?_⟩⟩
      exact iteF ⟨_, rfl, L2.Same.trans s1 (L2.Same.trans s2 fun x o e => b4 x o (fun z => by rw [z, hb] at e; cases e) (s3 x o e))⟩
    · rintro σ H1 ⟨v1, rfl, s1⟩
      exact k H1
end
/-! ### the call -/
section
variable {P : Program} {w : World} {K : PySem.W.Frag} {mg mb : Str → Option Value} {CX : CXT} {k : Nat} {fa a : Addr} {fd : FuncData} {x : Str} {sp : Sp} {s : Shared} {vs : List Value} {ns : List Int}
/-- what is asked of the heap that the script stands in -/
structure Door (K : PySem.W.Frag) (mg mb : Str → Option Value) (s : Shared) (a : Addr) (vs : List Value) : Prop where
  kin : K.In s.heap
  top : s.heap.Ns mainGlobals mg
  blt : s.heap.Ns builtinsNs mb
  boot : ∀ y : Str, y ≠ "__name__" → mb y = bootBuiltins y
  lim : s.heap.NoLimit
  gens : s.gens = #[]
  scr : s.heap.get? a = some { cls := .type "list", data := .seq vs.toArray }
theorem door_core (d : Door K mg mb s a vs) (hr : Room k callerA) (F : ∀ base : Heap, K.In base → base.Ns mainGlobals mg → FnG P w K mg base CX k fa fd [x] sp) (hbind : Binds K fd [x] [])
    (hCX : ∀ H e s', CX [] H s (fun _ _ _ => False) e s' → False) {H : Hp} (only : Only H) (hsp : sp [.ref a] H (fun v _ => v = .bl true) fun _ _ _ => False) (hok : HOk P w H s.heap) (hA : ∀ b, H b ≠ none → b = a) (hK : H a ≠ none → K.lookup a = none) :
    codeAny (model P w) callerA (.call (.ref fa) ⟨[.ref a], []⟩) (fun r s' => r = .ok (.ret (.bool true)) ∧ OldK s.heap s'.heap ∧ s'.os = s.os ∧ AllBare s'.gens) s := by
  have free : ∀ {b : Addr}, b ≠ a → H b = none := fun {b} hb => by
    cases q : H b with
    | none => rfl
    | some u => exact (hb (hA b (by rw [q]; exact fun z => nomatch z))).elim
  have ns_ok : ∀ {b : Addr} {m : Str → Option Value}, s.heap.Ns b m → (hidT s.heap H).Ns b m := by
    rintro b m ⟨o, es, ep, e, dd, r⟩
    refine ⟨o, es, ep, hidT_get e (free fun z => ?_), dd, r⟩
    rw [z, d.scr] at e
    cases e
    have d' : Data.seq vs.toArray _ = Data.dict es ep := dd
    cases d'
  have kin : K.In (hidT s.heap H) := fun b o e => by
    refine hidT_get (d.kin b o e) ?_
    by_cases hb : b = a
    · cases q : H b with
      | none => rfl
      | some u =>
        subst hb
        rw [hK (by rw [q]; exact fun z => nomatch z)] at e
        cases e
    · exact free hb
  have md : Mod K mg (hidT s.heap H) := ⟨kin, ns_ok d.top, ⟨mb, ns_ok d.blt, d.boot⟩, by
    obtain ⟨mc, h1, h2⟩ := d.lim
    exact ⟨mc, ns_ok h1, h2⟩⟩
  have en : Env0 P w K mg (hidT s.heap H) callerA [] s H :=
    ⟨rfl, md, fun _ _ e => of_hidT e, Nat.le_of_eq (hidT_size _ _), trivial, fun b hb => (List.not_mem_nil (show b ∈ ([] : List Addr) from hb)).elim, hok, .of_eq d.gens⟩
  have run := (F _ kin (ns_ok d.top)).run callerA [] s H ⟨[.ref a], []⟩ [.ref a] [.ref a] _ _ rfl hr en (hbind s [.ref a] d.kin rfl) (.cons rfl .nil) hsp
  refine codeAny_mono run ?_
  rintro (e | fl) s' h
  · exact (hCX H e s' h).elim
  · cases fl with
    | next => exact h.elim
    | brk => exact h.elim
    | cont => exact h.elim
    | ret u =>
      obtain ⟨v, H', hos, bare, un, hok', rv, qv⟩ := h
      obtain rfl : v = .bl true := qv
      obtain rfl : u = Value.bool true := rv
      refine ⟨rfl, OldK.of_keep fun b o e => ?_, hos, bare⟩
      cases q : H b with
      | none => exact un.keep b o e q (fun z => List.not_mem_nil (show b ∈ ([] : List Addr) from z)) (by simp)
      | some u =>
        obtain ⟨ob, xs, z⟩ := (only b).resolve_left (by rw [q]; exact fun z => nomatch z)
        have g1 := (hok b _ z).1
        have g2 := (hok' b _ (un.frzs b ob _ z)).1
        rw [e] at g1
        rw [Option.some.inj g1]
        exact g2
theorem door_call (d : Door K mg mb s a vs) (hi : IntsAre vs ns) (hl : ns.length ≤ sizeLine) (hr : Room k callerA) (F : ∀ base : Heap, K.In base → base.Ns mainGlobals mg → FnG P w K mg base CX k fa fd [x] sp) (hbind : Binds K fd [x] [])
    (hsp : ∀ H : Hp, SqL K H a (ns.map V.int) → sp [.ref a] H (fun v _ => v = .bl true) fun _ _ _ => False) (hCX : ∀ H e s', CX [] H s (fun _ _ _ => False) e s' → False) :
    codeAny (model P w) callerA (.call (.ref fa) ⟨[.ref a], []⟩) (fun r s' => r = .ok (.ret (.bool true)) ∧ OldK s.heap s'.heap ∧ s'.os = s.os ∧ AllBare s'.gens) s := by
  have rv := vals_ints hi
  cases hk : K.lookup a with
  | some o =>
    have e := d.kin a o hk
    rw [d.scr] at e
    cases e
    have sq : SqL K (fun _ => none) a (ns.map V.int) := .inr ⟨_, vs.toArray, _, hk, rfl, rfl, rfl, by rw [List.size_toArray, hi.length]; exact hl, by simpa using rv⟩
    exact door_core d hr F hbind hCX (H := fun _ => none) (fun _ => .inl rfl) (hsp _ sq) (fun b u z => nomatch (show (none : Option HO) = some u from z)) (fun b z => (z rfl).elim) fun z => (z rfl).elim
  | none =>
    have at_a : (fun b => if b = a then some (HO.frz { cls := .type "list", data := .seq vs.toArray } (.lst (ns.map V.int))) else none) a = some (HO.frz { cls := .type "list", data := .seq vs.toArray } (.lst (ns.map V.int))) := if_pos rfl
    have off : ∀ b, b ≠ a → (fun b => if b = a then some (HO.frz { cls := .type "list", data := .seq vs.toArray } (.lst (ns.map V.int))) else none) b = none := fun b hb => if_neg hb
    generalize (fun b => if b = a then some (HO.frz { cls := .type "list", data := .seq vs.toArray } (.lst (ns.map V.int))) else none) = H at at_a off
    refine door_core d hr F hbind hCX (H := H) (fun b => ?_) (hsp _ (.inl (.inr ⟨_, at_a⟩))) (fun b u z => ?_) (fun b z => ?_) fun _ => hk
    · by_cases hb : b = a
      · exact .inr ⟨_, _, by rw [hb]; exact at_a⟩
      · exact .inl (off b hb)
    · by_cases hb : b = a
      · rw [hb, at_a] at z
        obtain rfl := Option.some.inj z
        rw [hb]
        exact ⟨d.scr, by rw [List.length_map]; exact hl, vs, _, rv, d.scr⟩
      · rw [off b hb] at z
        cases z
    · by_cases hb : b = a
      · exact hb
      · exact (z (off b hb)).elim
end
theorem walk_G {l : PySem.W.OpenLaw} {n k : Nat} {q : Program} {loose : List Str} {XP : (Str → Option Value) → Heap → Prop} {YP : World → Heap → Prop} {d : DefRec} {CX : CXT} {x : Str} (hn : l.most = some n) (hn2 : n ≤ sizeLine) (hdf : d.params.defaults = []) (hr : Room k callerA)
    (F : ∀ (w : World) (mg : Str → Option Value) (fa : Addr) (h : Heap), YP w h → h.Ns mainGlobals mg → mg d.name = some (.ref fa) →
      ∃ (K : PySem.W.Frag) (fd : FuncData) (sp : Sp), K.In h ∧ Binds K fd [x] [] ∧ (∀ (H : Hp) (a : Addr) (ns : List Int), SqL K H a (ns.map V.int) → sp [.ref a] H (fun v _ => v = .bl true) fun _ _ _ => False) ∧
        ∀ base : Heap, K.In base → base.Ns mainGlobals mg → FnG l.prog w K mg base CX k fa fd [x] sp)
    (hCX : ∀ (H : Hp) (s : Shared) (e : Value) (s' : Shared), CX [] H s (fun _ _ _ => False) e s' → False) : PySem.W.WalkO q loose XP YP l.row.toRowW d [] (fun f vs => PySem.call f vs) := by
  refine Att.attach_call hn hdf fun w s₀ s₁ mg mb fa o pm cd doc a vs ns G Y ho hd hcd hmg hobj hints hlen hg => ?_
  obtain ⟨K, fd, sp, kx, hb, hsp, hF⟩ := F w mg fa _ Y G.T.g hmg
  exact door_call ⟨kx, G.T.g, G.T.b, G.T.builtins, G.T.nolimit, hg, hobj⟩ hints (Nat.le_trans hlen hn2) hr hF hb (fun H hS => hsp H a ns hS) fun H e s' => hCX H s₁ e s'
end K9
end

section
set_option Elab.async false
set_option linter.all false
set_option maxRecDepth 100000
set_option maxHeartbeats 0
open PySem PySem.W PySem.Calls PyProof.Rows
theorem PySem.Challenge.cw_neverunsaid_k09_whole_causes_holds : PySem.Challenge.rw_neverunsaid_k09_whole_causes.Holds := by
  w_on; o_law
  refine HandSHeadRun.head_any (r := OpenLaw.row PySem.Challenge.rw_neverunsaid_k09_whole_causes) (q := view K9.R.prog [50]) (H := K9.hkX) (ob := K9.obX) (M := 6000) (loose := K9.lo1 ++ K9.lo2) (d := HandSHeadRun.topDef K9.R.prog 50) (kwd := []) K9.obX_eq
    (by kernel_rfl) (fun s => by kernel_rfl) K9.runX (by kernel_rfl) (by kernel_rfl) (by kernel_rfl) (by rfl) (by first | assumption | decide +kernel) (by decide +kernel) ⟨rfl, rfl, rfl, rfl, rfl, by decide +kernel⟩ ?hw ?hc
  case hw => w_witness2
  case hc =>
    refine K9.walk_G (l := PySem.Challenge.rw_neverunsaid_k09_whole_causes) (n := 63) (k := 11) (x := "_law_script") (CX := L2.CX0) rfl (by decide) (by kernel_rfl) ⟨rfl, by decide, by decide⟩ ?F (fun _ _ _ _ z => z)
    intro w mg fa h Y G hmg0
    obtain ⟨K, KX, c⟩ := Y
    have hmg : mg ("law" : PySem.Str) = some (.ref fa) := by
      have e : (HandSHeadRun.topDef K9.R.prog 50).name = ("law" : PySem.Str) := by kernel_rfl
      rw [← e]
      exact hmg0
    have T : K9.Top K mg := ⟨c, h, KX, G⟩
    have ef := hmg.symm.trans T.g_law
    cases ef
    obtain ⟨fd, F⟩ := T.f_law
    have hb : L2.Binds K fd ["_law_script"] [] := F.bindsN (fun _ _ _ _ _ _ us hl => match us, hl with | [_], _ => rfl)
    exact ⟨K, fd, K9.spLaw K, KX, hb, fun H a ns hS => ⟨a, ns, rfl, hS, fun _ => rfl⟩, fun base _ _ => K9.h_law T F⟩
end
