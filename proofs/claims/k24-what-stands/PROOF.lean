import PyProof.Rows.All
import Wide.All
import OpenK.AllK
import Wide.FinOn
import HandS.ForMost
import HandS.Evl
import HandS.Conv
import HandS.Deep
import HandS.Walk
import KE.GoesMore
import PySem.Challenge.RW_ringbase_k24_whole_what_stands_is_right
set_option Elab.async false
set_option linter.all false
set_option maxRecDepth 100000
/-! RBA: webs, trails, rings. Plain Lean, no program in sight. -/
namespace RB
structure Tie where
  a : Nat
  b : Nat
  l : Int
structure Web where
  n : Nat
  ts : List Tie
def Web.m (W : Web) : Nat := W.ts.length
def Web.t (W : Web) (k : Nat) : Tie := W.ts.getD k ⟨0, 0, 0⟩
def Web.a (W : Web) (k : Nat) : Nat := (W.t k).a
def Web.b (W : Web) (k : Nat) : Nat := (W.t k).b
def Web.l (W : Web) (k : Nat) : Int := (W.t k).l
structure Web.Good (W : Web) : Prop where
  n1 : 1 ≤ W.n
  n5 : W.n ≤ 5
  m6 : W.m ≤ 6
  an : ∀ k, k < W.m → W.a k < W.n
  bn : ∀ k, k < W.m → W.b k < W.n
  ab : ∀ k, k < W.m → W.a k ≠ W.b k
  l1 : ∀ k, k < W.m → 1 ≤ W.l k
def inc (W : Web) (k p : Nat) : Bool := decide (W.a k = p) || decide (W.b k = p)
def oth (W : Web) (k p : Nat) : Nat := if W.a k = p then W.b k else W.a k
def Trail (W : Web) : Nat → List Nat → Nat → Prop
  | u, [], v => u = v
  | u, k :: ks, v => k < W.m ∧ inc W k u = true ∧ Trail W (oth W k u) ks v
def srcs (W : Web) : Nat → List Nat → List Nat
  | _, [] => []
  | u, k :: ks => u :: srcs W (oth W k u) ks
def stops (W : Web) : Nat → List Nat → List Nat
  | _, [] => []
  | u, k :: ks => oth W k u :: stops W (oth W k u) ks
def par (M : Nat) : List Nat → Bool
  | [] => false
  | k :: ks => xor (M.testBit k) (par M ks)
def len (W : Web) : List Nat → Int
  | [] => 0
  | k :: ks => W.l k + len W ks
def tiesOf (W : Web) (x : Nat) : List Nat := (List.range W.m).filter fun k => x.testBit k

section
variable {W : Web} {u v w p k : Nat} {ks xs ys : List Nat} {M : Nat}
theorem inc_iff : inc W k p = true ↔ W.a k = p ∨ W.b k = p := by
  unfold inc; rw [Bool.or_eq_true, decide_eq_true_iff, decide_eq_true_iff]
theorem inc_oth (h : inc W k p = true) : inc W k (oth W k p) = true := by
  rw [inc_iff] at h ⊢; unfold oth; split
  · exact .inr rfl
  · exact .inl rfl
theorem oth_oth (h : inc W k p = true) (ne : W.a k ≠ W.b k) : oth W k (oth W k p) = p := by
  rw [inc_iff] at h
  unfold oth
  by_cases e : W.a k = p
  · rw [if_pos e, if_neg (fun z => ne z), e]
  · rw [if_neg e, if_pos rfl]
    exact h.resolve_left e
theorem oth_ne (h : inc W k p = true) (ne : W.a k ≠ W.b k) : oth W k p ≠ p := by
  rw [inc_iff] at h
  unfold oth
  by_cases e : W.a k = p
  · rw [if_pos e]; intro z; exact ne (e.trans z.symm)
  · rw [if_neg e]; exact e
theorem oth_lt (g : W.Good) (hk : k < W.m) : oth W k p < W.n := by
  unfold oth; split
  · exact g.bn k hk
  · exact g.an k hk
theorem inc_lt (g : W.Good) (hk : k < W.m) (h : inc W k p = true) : p < W.n := by
  rw [inc_iff] at h
  rcases h with rfl | rfl
  · exact g.an k hk
  · exact g.bn k hk
theorem inc_two (h : inc W k u = true) (ne : W.a k ≠ W.b k) (p : Nat) : inc W k p = true ↔ p = u ∨ p = oth W k u := by
  rw [inc_iff] at h ⊢
  unfold oth
  by_cases e : W.a k = u
  · rw [if_pos e]
    constructor
    · rintro (z | z)
      · exact .inl (z.symm.trans e)
      · exact .inr z.symm
    · rintro (z | z)
      · exact .inl (e.trans z.symm)
      · exact .inr z.symm
  · rw [if_neg e]
    have hb := h.resolve_left e
    constructor
    · rintro (z | z)
      · exact .inr z.symm
      · exact .inl (z.symm.trans hb)
    · rintro (z | z)
      · exact .inr (hb.trans z.symm)
      · exact .inl z.symm
theorem trail_append : ∀ {xs : List Nat} {u : Nat}, Trail W u (xs ++ ys) v ↔ ∃ w, Trail W u xs w ∧ Trail W w ys v
  | [], u => by simp [Trail]
  | k :: xs, u => by
    show (k < W.m ∧ inc W k u = true ∧ Trail W (oth W k u) (xs ++ ys) v) ↔ _
    rw [trail_append (xs := xs)]
    constructor
    · rintro ⟨h1, h2, w, h3, h4⟩; exact ⟨w, ⟨h1, h2, h3⟩, h4⟩
    · rintro ⟨w, ⟨h1, h2, h3⟩, h4⟩; exact ⟨h1, h2, w, h3, h4⟩
theorem trail_inj : ∀ {ks : List Nat} {u v w : Nat}, Trail W u ks v → Trail W u ks w → v = w
  | [], u, v, w, h, h' => h.symm.trans h'
  | k :: ks, u, v, w, h, h' => trail_inj h.2.2 h'.2.2
theorem stops_append : ∀ {xs : List Nat} {u : Nat}, Trail W u xs w → stops W u (xs ++ ys) = stops W u xs ++ stops W w ys
  | [], u, h => by cases h; rfl
  | k :: xs, u, h => by
    show oth W k u :: stops W _ (xs ++ ys) = (oth W k u :: stops W _ xs) ++ _
    rw [stops_append h.2.2]; rfl
theorem srcs_append : ∀ {xs : List Nat} {u : Nat}, Trail W u xs w → srcs W u (xs ++ ys) = srcs W u xs ++ srcs W w ys
  | [], u, h => by cases h; rfl
  | k :: xs, u, h => by
    show u :: srcs W _ (xs ++ ys) = (u :: srcs W _ xs) ++ _
    rw [srcs_append h.2.2]; rfl
theorem par_append : par M (xs ++ ys) = xor (par M xs) (par M ys) := by
  induction xs with
  | nil => simp [par]
  | cons k xs ih => simp only [List.cons_append, par, ih, Bool.xor_assoc]
theorem len_append : len W (xs ++ ys) = len W xs + len W ys := by
  induction xs with
  | nil => simp [len]
  | cons k xs ih => simp only [List.cons_append, len, ih]; omega
theorem trail_lt : ∀ {ks : List Nat} {u : Nat}, Trail W u ks v → ∀ k ∈ ks, k < W.m
  | [], _, _, _, h => nomatch h
  | k :: ks, u, h, j, hj => by
    rcases List.mem_cons.mp hj with rfl | hj
    · exact h.1
    · exact trail_lt h.2.2 j hj
theorem len_nonneg (g : W.Good) : ∀ {ks : List Nat}, (∀ k ∈ ks, k < W.m) → 0 ≤ len W ks
  | [], _ => Int.le_refl 0
  | k :: ks, h => by
    have h1 := g.l1 k (h k List.mem_cons_self)
    have h2 := len_nonneg g (ks := ks) fun j hj => h j (List.mem_cons_of_mem _ hj)
    show 0 ≤ W.l k + len W ks
    omega
theorem par_perm (h : xs.Perm ys) : par M xs = par M ys := by
  induction h with
  | nil => rfl
  | cons x _ ih => simp only [par, ih]
  | swap x y l => simp only [par]; cases M.testBit x <;> cases M.testBit y <;> cases par M l <;> rfl
  | trans _ _ h1 h2 => exact h1.trans h2
theorem len_perm (h : xs.Perm ys) : len W xs = len W ys := by
  induction h with
  | nil => rfl
  | cons x _ ih => simp only [len, ih]
  | swap x y l => simp only [len]; omega
  | trans _ _ h1 h2 => exact h1.trans h2

/-! ### degrees -/
def deg (W : Web) (ks : List Nat) (p : Nat) : Nat := ks.countP fun k => inc W k p
theorem deg_nil : deg W [] p = 0 := rfl
theorem deg_cons : deg W (k :: ks) p = deg W ks p + if inc W k p = true then 1 else 0 := by
  unfold deg; rw [List.countP_cons]
theorem deg_append : deg W (xs ++ ys) p = deg W xs p + deg W ys p := by
  unfold deg; rw [List.countP_append]
theorem deg_perm (h : xs.Perm ys) : deg W xs p = deg W ys p := h.countP_eq _
theorem deg_count (g : W.Good) (p : Nat) : ∀ {ks : List Nat} {u : Nat}, Trail W u ks v → deg W ks p = (srcs W u ks).count p + (stops W u ks).count p
  | [], _, _ => rfl
  | k :: ks, u, h => by
    have ih := deg_count g p h.2.2
    have ne := g.ab k h.1
    have hi := inc_two h.2.1 ne p
    have ho := oth_ne h.2.1 ne
    rw [deg_cons, ih]
    show _ = (u :: srcs W (oth W k u) ks).count p + (oth W k u :: stops W (oth W k u) ks).count p
    rw [List.count_cons, List.count_cons]
    by_cases e1 : u = p
    · subst e1
      rw [if_pos (hi.mpr (.inl rfl)), if_pos (by simp), if_neg (by simpa using ho)]; omega
    · by_cases e2 : oth W k u = p
      · rw [if_pos (hi.mpr (.inr e2.symm)), if_neg (by simpa using e1), if_pos (by simpa using e2)]; omega
      · rw [if_neg (fun z => (hi.mp z).elim (fun q => e1 q.symm) fun q => e2 q.symm), if_neg (by simpa using e1), if_neg (by simpa using e2)]; omega
theorem srcs_stops (p : Nat) : ∀ {ks : List Nat} {u : Nat}, Trail W u ks v → (srcs W u ks).count p + (if p = v then 1 else 0) = (if p = u then 1 else 0) + (stops W u ks).count p
  | [], u, h => by
    cases h
    show 0 + _ = _ + 0
    omega
  | k :: ks, u, h => by
    have ih := srcs_stops p h.2.2
    show (u :: srcs W (oth W k u) ks).count p + _ = _ + (oth W k u :: stops W (oth W k u) ks).count p
    rw [List.count_cons, List.count_cons]
    have e1 : (if (u == p) = true then 1 else 0) = if p = u then 1 else 0 := by
      by_cases e : p = u
      · rw [if_pos e, if_pos (by simpa using e.symm)]
      · rw [if_neg e, if_neg (by simpa using fun z => e (Eq.symm z))]
    have e2 : (if (oth W k u == p) = true then 1 else 0) = if p = oth W k u then 1 else 0 := by
      by_cases e : p = oth W k u
      · rw [if_pos e, if_pos (by simpa using e.symm)]
      · rw [if_neg e, if_neg (by simpa using fun z => e (Eq.symm z))]
    rw [e1, e2]
    omega
theorem closed_deg (g : W.Good) (h : Trail W u ks u) : deg W ks p = 2 * (stops W u ks).count p := by
  have h1 := deg_count g p h
  have h2 := srcs_stops p h
  omega
theorem deg_pos : 0 < deg W ks p ↔ ∃ k ∈ ks, inc W k p = true := by
  unfold deg; rw [List.countP_pos_iff]

/-! ### Nodup lists and what they have in common -/
theorem nodup_le : ∀ {xs ys : List Nat}, xs.Nodup → (∀ x ∈ xs, x ∈ ys) → xs.length ≤ ys.length
  | [], ys, _, _ => Nat.zero_le _
  | x :: xs, ys, hn, hs => by
    have hx : x ∈ ys := hs x List.mem_cons_self
    have parts := List.nodup_cons.mp hn
    have ih := nodup_le (xs := xs) (ys := ys.erase x) parts.2 fun z hz => by
      have hzx : z ≠ x := fun e => parts.1 (e ▸ hz)
      exact (List.mem_erase_of_ne hzx).mpr (hs z (List.mem_cons_of_mem _ hz))
    rw [List.length_erase_of_mem hx] at ih
    have : 0 < ys.length := List.length_pos_of_mem hx
    show xs.length + 1 ≤ ys.length
    omega
theorem nodup_full {xs ys : List Nat} (hx : xs.Nodup) (hs : ∀ x ∈ xs, x ∈ ys) (hl : ys.length ≤ xs.length) : ∀ y ∈ ys, y ∈ xs := by
  intro y hy
  apply Classical.byContradiction
  intro hn
  have := nodup_le (xs := y :: xs) (ys := ys) (List.nodup_cons.mpr ⟨hn, hx⟩) fun z hz => by
    rcases List.mem_cons.mp hz with here | later
    · exact here ▸ hy
    · exact hs z later
  have h2 : xs.length + 1 ≤ ys.length := this
  omega
theorem deg_le (hx : xs.Nodup) (hs : ∀ x ∈ xs, x ∈ ys) : deg W xs p ≤ deg W ys p := by
  unfold deg
  rw [List.countP_eq_length_filter, List.countP_eq_length_filter]
  refine nodup_le (hx.filter _) fun z hz => ?_
  rw [List.mem_filter] at hz ⊢
  exact ⟨hs z hz.1, hz.2⟩
theorem deg_full (hx : xs.Nodup) (hs : ∀ x ∈ xs, x ∈ ys) (hl : deg W ys p ≤ deg W xs p) (hk : k ∈ ys) (hi : inc W k p = true) : k ∈ xs := by
  unfold deg at hl
  rw [List.countP_eq_length_filter, List.countP_eq_length_filter] at hl
  have := nodup_full (xs := xs.filter fun k => inc W k p) (ys := ys.filter fun k => inc W k p) (hx.filter _) (fun z hz => by
    rw [List.mem_filter] at hz ⊢
    exact ⟨hs z hz.1, hz.2⟩) hl k (List.mem_filter.mpr ⟨hk, hi⟩)
  exact (List.mem_filter.mp this).1
theorem tiesOf_nodup (x : Nat) : (tiesOf W x).Nodup := List.nodup_range.filter _
theorem mem_tiesOf {x : Nat} : k ∈ tiesOf W x ↔ k < W.m ∧ x.testBit k = true := by
  unfold tiesOf; rw [List.mem_filter, List.mem_range]

/-! ### rings -/
structure Simple (W : Web) (u : Nat) (ks : List Nat) : Prop where
  tr : Trail W u ks u
  ne : ks ≠ []
  kn : ks.Nodup
  sn : (stops W u ks).Nodup
/-- the set x is a ring: a closed trail that comes to no point twice goes through just its ties -/
def IsRing (W : Web) (x : Nat) : Prop := ∃ u ks, Simple W u ks ∧ ∀ k, k ∈ ks ↔ k ∈ tiesOf W x
theorem ring_perm {x : Nat} (s : Simple W u ks) (h : ∀ k, k ∈ ks ↔ k ∈ tiesOf W x) : ks.Perm (tiesOf W x) := (List.perm_ext_iff_of_nodup s.kn (tiesOf_nodup x)).mpr h
/-- the degrees that the walk asks for -/
def Deg02 (W : Web) (x : Nat) : Prop := tiesOf W x ≠ [] ∧ ∀ p, p < W.n → deg W (tiesOf W x) p = 0 ∨ deg W (tiesOf W x) p = 2
theorem Simple.deg (g : W.Good) (s : Simple W u ks) (p : Nat) : RB.deg W ks p = if p ∈ stops W u ks then 2 else 0 := by
  rw [closed_deg g s.tr, s.sn.count]
  split <;> rfl
theorem IsRing.deg02 (g : W.Good) {x : Nat} (h : IsRing W x) : Deg02 W x := by
  obtain ⟨u, ks, s, hm⟩ := h
  have hp := ring_perm s hm
  refine ⟨fun e => ?_, fun p _ => ?_⟩
  · rw [e] at hp
    exact s.ne hp.eq_nil
  · rw [← deg_perm hp, s.deg g]
    split
    · exact .inr rfl
    · exact .inl rfl
/-- both ends of a closed trail's tie are come to -/
theorem Simple.ends (g : W.Good) (s : Simple W u ks) (hk : k ∈ ks) (hi : inc W k p = true) : p ∈ stops W u ks := by
  have h1 : 0 < RB.deg W ks p := deg_pos.mpr ⟨k, hk, hi⟩
  rw [s.deg g] at h1
  split at h1
  · assumption
  · omega
theorem start_mem (h : Trail W u ks v) (hne : ks ≠ []) : v ∈ stops W u ks := by
  induction ks generalizing u with
  | nil => exact absurd rfl hne
  | cons k ks ih =>
    show v ∈ oth W k u :: stops W (oth W k u) ks
    cases ks with
    | nil =>
      have : oth W k u = v := h.2.2
      rw [this]; exact List.mem_cons_self
    | cons j ks => exact List.mem_cons_of_mem _ (ih h.2.2 (by simp))
theorem trail_ends (g : W.Good) : ∀ {ks : List Nat} {u : Nat}, Trail W u ks v → ∀ p ∈ stops W u ks, ∃ k ∈ ks, inc W k p = true
  | [], _, _, _, h => nomatch h
  | k :: ks, u, h, p, hp => by
    rcases List.mem_cons.mp (show p ∈ oth W k u :: stops W (oth W k u) ks from hp) with rfl | hp
    · exact ⟨k, List.mem_cons_self, inc_oth h.2.1⟩
    · obtain ⟨j, hj, hi⟩ := trail_ends g h.2.2 p hp
      exact ⟨j, List.mem_cons_of_mem _ hj, hi⟩

/-! ### the law's walk -/
structure Going (W : Web) (x u : Nat) (ks : List Nat) (v : Nat) : Prop where
  tr : Trail W u ks v
  ne : ks ≠ []
  kn : ks.Nodup
  sub : ∀ k ∈ ks, k ∈ tiesOf W x
  sn : (stops W u ks).Nodup
  st : u ∈ stops W u ks → v = u
theorem Going.simple {x : Nat} (h : Going W x u ks u) : Simple W u ks := ⟨h.tr, h.ne, h.kn, h.sn⟩
theorem Going.first (g : W.Good) {x : Nat} (hk : k ∈ tiesOf W x) : Going W x (W.a k) [k] (W.b k) := by
  have hm := (mem_tiesOf.mp hk).1
  have e : oth W k (W.a k) = W.b k := if_pos rfl
  have es : stops W (W.a k) [k] = [W.b k] := by show [oth W k (W.a k)] = _; rw [e]
  refine ⟨⟨hm, inc_iff.mpr (.inl rfl), e⟩, by simp, by simp, fun j hj => ?_, by rw [es]; simp, fun h => ?_⟩
  · rw [List.mem_singleton.mp hj]; exact hk
  · rw [es] at h
    exact absurd (List.mem_singleton.mp h) (g.ab k hm)
/-- under way there is just one tie of the trail at the point come to: the last one -/
theorem Going.one (g : W.Good) {x : Nat} (h : Going W x u ks v) (hv : v ≠ u) : deg W ks v = 1 := by
  have hu : u ∉ stops W u ks := fun z => hv (h.st z)
  have h1 := deg_count g v h.tr
  have h2 := srcs_stops v h.tr
  have h3 : (stops W u ks).count v = 1 := by rw [h.sn.count, if_pos (start_mem h.tr h.ne)]
  rw [if_pos rfl, if_neg hv] at h2
  omega
theorem last_inc (g : W.Good) {x : Nat} (h : Trail W u (xs ++ [k]) v) : inc W k v = true := by
  obtain ⟨w, h1, h2⟩ := trail_append.mp h
  have e : oth W k w = v := h2.2.2
  rw [← e]; exact inc_oth h2.2.1
theorem Going.next (g : W.Good) {x z : Nat} (h : Going W x u ks v) (hv : v ≠ u) (c : Deg02 W x) (hz : z ∈ tiesOf W x) (hi : inc W z v = true) (hn : z ∉ ks) : Going W x u (ks ++ [z]) (oth W z v) := by
  have hm := (mem_tiesOf.mp hz).1
  have ne := g.ab z hm
  have hu : u ∉ stops W u ks := fun q => hv (h.st q)
  have kn : (ks ++ [z]).Nodup := by
    rw [List.nodup_append]
    refine ⟨h.kn, by simp, fun a ha b hb e => ?_⟩
    rw [List.mem_singleton.mp hb] at e
    exact hn (e ▸ ha)
  have sub : ∀ k ∈ ks ++ [z], k ∈ tiesOf W x := fun k hk => by
    rcases List.mem_append.mp hk with old | last
    · exact h.sub k old
    · rw [List.mem_singleton.mp last]; exact hz
  have tr : Trail W u (ks ++ [z]) (oth W z v) := trail_append.mpr ⟨v, h.tr, hm, hi, rfl⟩
  have es : stops W u (ks ++ [z]) = stops W u ks ++ [oth W z v] := stops_append h.tr
  refine ⟨tr, by simp, kn, sub, ?_, fun hs => ?_⟩
  · rw [es, List.nodup_append]
    refine ⟨h.sn, by simp, fun a ha b hb e => ?_⟩
    rw [List.mem_singleton.mp hb] at e
    subst e
    have hp : oth W z v < W.n := oth_lt g hm
    have h1 := deg_count g (oth W z v) h.tr
    have h2 := srcs_stops (oth W z v) h.tr
    have h3 : (stops W u ks).count (oth W z v) = 1 := by rw [h.sn.count, if_pos ha]
    have h4 : oth W z v ≠ v := oth_ne hi ne
    have h5 : oth W z v ≠ u := fun q => hu (q ▸ ha)
    rw [if_neg h4, if_neg h5] at h2
    have h6 : deg W (ks ++ [z]) (oth W z v) = 3 := by
      rw [deg_append, deg_cons, if_pos (inc_oth hi), deg_nil]; omega
    have h7 := deg_le (W := W) (p := oth W z v) kn sub
    rcases c.2 _ hp with q | q <;> omega
  · rw [es] at hs
    rcases List.mem_append.mp hs with q | q
    · exact absurd q hu
    · exact (List.mem_singleton.mp q).symm
/-- two ties at the point: the one behind the last one is the other one -/
theorem Going.other (g : W.Good) {x : Nat} (h : Going W x u (xs ++ [k]) v) (hv : v ≠ u) (c : Deg02 W x) :
    ∃ z, ((tiesOf W x).filter fun j => inc W j v).Perm [k, z] ∧ z ∈ tiesOf W x ∧ inc W z v = true ∧ z ∉ xs ++ [k] := by
  have hk : k ∈ xs ++ [k] := by simp
  have hki : inc W k v = true := last_inc g (x := x) h.tr
  have hkx := h.sub k hk
  have hm := (mem_tiesOf.mp hkx).1
  have d2 : deg W (tiesOf W x) v = 2 := by
    rcases c.2 v (inc_lt g hm hki) with q | q
    · have : 0 < deg W (tiesOf W x) v := deg_pos.mpr ⟨k, hkx, hki⟩
      omega
    · exact q
  have fn : ((tiesOf W x).filter fun j => inc W j v).Nodup := (tiesOf_nodup x).filter _
  have hkf : k ∈ (tiesOf W x).filter fun j => inc W j v := List.mem_filter.mpr ⟨hkx, hki⟩
  have hl : ((tiesOf W x).filter fun j => inc W j v).length = 2 := by
    have := d2
    unfold deg at this
    rwa [List.countP_eq_length_filter] at this
  have hp := List.perm_cons_erase hkf
  have hl2 : (((tiesOf W x).filter fun j => inc W j v).erase k).length = 1 := by
    rw [List.length_erase_of_mem hkf, hl]
  obtain ⟨z, ez⟩ := List.length_eq_one_iff.mp hl2
  rw [ez] at hp
  have hzf : z ∈ (tiesOf W x).filter fun j => inc W j v := hp.mem_iff.mpr (by simp)
  have hzk : z ≠ k := fun e => by
    have := hp.nodup_iff.mp fn
    rw [e] at this
    simp at this
  obtain ⟨hz1, hz2⟩ := List.mem_filter.mp hzf
  refine ⟨z, hp, hz1, hz2, fun hzin => ?_⟩
  have h1 := h.one g hv
  have h2 : deg W [k, z] v ≤ deg W (xs ++ [k]) v := deg_le (by simp [Ne.symm hzk]) fun q hq => by
    rcases List.mem_cons.mp hq with here | there'
    · exact here ▸ hk
    · rw [List.mem_singleton.mp there']; exact hzin
  rw [deg_cons, deg_cons, if_pos hki, if_pos hz2, deg_nil] at h2
  omega
theorem Going.len_le {x : Nat} (h : Going W x u ks v) : ks.length ≤ (tiesOf W x).length := nodup_le h.kn h.sub
/-- a trail that begins at a point of V goes through ties of ks alone -/
theorem trail_within {ks : List Nat} {V : List Nat} {x : Nat} (hV : ∀ k p, k ∈ tiesOf W x → p ∈ V → inc W k p = true → k ∈ ks ∧ oth W k p ∈ V) :
    ∀ {js : List Nat} {u : Nat}, u ∈ V → Trail W u js v → (∀ j ∈ js, j ∈ tiesOf W x) → ∀ j ∈ js, j ∈ ks
  | [], _, _, _, _, _, h => nomatch h
  | j :: js, u, hu, ht, hs, i, hi => by
    obtain ⟨h1, h2⟩ := hV j u (hs j List.mem_cons_self) hu ht.2.1
    rcases List.mem_cons.mp hi with rfl | hi
    · exact h1
    · exact trail_within hV h2 ht.2.2 (fun q hq => hs q (List.mem_cons_of_mem _ hq)) i hi
/-- the walk's end: it has all ties just where the set is a ring -/
theorem Going.done (g : W.Good) {x : Nat} (h : Going W x u ks u) (c : Deg02 W x) : ks.length = (tiesOf W x).length ↔ IsRing W x := by
  have s := h.simple
  constructor
  · intro e
    exact ⟨u, ks, s, fun k => ⟨h.sub k, nodup_full h.kn h.sub (by omega) k⟩⟩
  · rintro ⟨u', js, s', hm⟩
    have hV : ∀ k p, k ∈ tiesOf W x → p ∈ stops W u ks → inc W k p = true → k ∈ ks ∧ oth W k p ∈ stops W u ks := fun k p hk hp hi => by
      have hkm := (mem_tiesOf.mp hk).1
      have d : deg W ks p = 2 := by rw [s.deg g, if_pos hp]
      have hd : deg W (tiesOf W x) p ≤ deg W ks p := by
        rcases c.2 p (inc_lt g hkm hi) with q | q <;> omega
      have hkk := deg_full h.kn h.sub hd hk hi
      exact ⟨hkk, s.ends g hkk (inc_oth hi)⟩
    obtain ⟨k0, ks', e0⟩ := List.exists_cons_of_ne_nil h.ne
    have hk0 : k0 ∈ ks := by rw [e0]; exact List.mem_cons_self
    have hk0' : k0 ∈ js := (hm k0).mpr (h.sub k0 hk0)
    obtain ⟨xs, ys, ej⟩ := List.append_of_mem hk0'
    have ht := s'.tr
    rw [ej] at ht
    obtain ⟨w, t1, t2⟩ := trail_append.mp ht
    have hw : w ∈ stops W u ks := s.ends g hk0 t2.2.1
    have rot : Trail W w ((k0 :: ys) ++ xs) w := trail_append.mpr ⟨u', t2, t1⟩
    have all := trail_within (ks := ks) hV hw rot fun j hj => (hm j).mp (by
      rw [ej]
      rcases List.mem_append.mp hj with q | q
      · exact List.mem_append_right _ q
      · exact List.mem_append_left _ q)
    have le : (tiesOf W x).length ≤ ks.length := nodup_le (tiesOf_nodup x) fun k hk => by
      have := (hm k).mpr hk
      rw [ej] at this
      refine all k ?_
      rcases List.mem_append.mp this with q | q
      · exact List.mem_append_right _ q
      · exact List.mem_append_left _ q
    have := h.len_le
    omega
end
end RB
/-! RBB: odd trails, worths, the search's rounds, pieces, cuts. Plain Lean. -/
namespace RB
section
variable {W : Web} {u v w p k : Nat} {ks xs ys zs : List Nat} {M : Nat}

/-! ### a set of a list's ties -/
theorem exists_set : ∀ {ks : List Nat} {m : Nat}, (∀ k ∈ ks, k < m) → ∃ x, x < 2 ^ m ∧ ∀ k, x.testBit k = true ↔ k ∈ ks
  | [], m, _ => ⟨0, Nat.two_pow_pos m, fun k => by simp⟩
  | j :: ks, m, h => by
    obtain ⟨x, hx, hk⟩ := exists_set (ks := ks) (m := m) fun k hk => h k (List.mem_cons_of_mem _ hk)
    refine ⟨x ||| 2 ^ j, Nat.or_lt_two_pow hx (Nat.pow_lt_pow_right (by decide) (h j List.mem_cons_self)), fun k => ?_⟩
    rw [Nat.testBit_or, Nat.testBit_two_pow, Bool.or_eq_true, decide_eq_true_iff, hk k, List.mem_cons]
    constructor
    · rintro (z | z)
      · exact .inr z
      · exact .inl z.symm
    · rintro (z | z)
      · exact .inr z.symm
      · exact .inl z

/-! ### lists with an item twice -/
theorem not_nodup : ∀ {ks : List Nat}, ¬ ks.Nodup → ∃ xs k ys zs, ks = xs ++ k :: (ys ++ k :: zs)
  | [], h => absurd List.nodup_nil h
  | j :: ks, h => by
    by_cases hj : j ∈ ks
    · obtain ⟨ys, zs, e⟩ := List.append_of_mem hj
      exact ⟨[], j, ys, zs, by rw [e]; rfl⟩
    · have hn : ¬ ks.Nodup := fun z => h (List.nodup_cons.mpr ⟨hj, z⟩)
      obtain ⟨xs, k, ys, zs, e⟩ := not_nodup hn
      exact ⟨j :: xs, k, ys, zs, by rw [e]; rfl⟩
theorem trail_first (h : Trail W u (k :: ks) v) : inc W k u = true := h.2.1
/-- a closed trail that comes to no point twice and bears the marks oddly goes no tie twice -/
theorem nodup_of (g : W.Good) (h : Trail W u ks u) (hs : (stops W u ks).Nodup) (ho : par M ks = true) : ks.Nodup := by
  apply Classical.byContradiction
  intro hn
  obtain ⟨xs, k, ys, zs, e⟩ := not_nodup hn
  have h' := h
  rw [e] at h'
  obtain ⟨w, t1, t2⟩ := trail_append.mp h'
  have rot : Trail W w ((k :: (ys ++ k :: zs)) ++ xs) w := trail_append.mpr ⟨u, t2, t1⟩
  have hd : ∀ p, deg W ((k :: (ys ++ k :: zs)) ++ xs) p ≤ 2 := fun p => by
    have e1 : deg W ((k :: (ys ++ k :: zs)) ++ xs) p = deg W ks p := by
      rw [e]; exact deg_perm List.perm_append_comm
    rw [e1, closed_deg g h]
    have := List.nodup_iff_count.mp hs p
    omega
  have hi : inc W k w = true := rot.2.1
  have hi2 : inc W k (oth W k w) = true := inc_oth hi
  have t3 : Trail W (oth W k w) ((ys ++ k :: zs) ++ xs) w := rot.2.2
  cases ys with
  | cons y ys =>
    have hy : inc W y (oth W k w) = true := t3.2.1
    have := hd (oth W k w)
    rw [deg_append, deg_cons, List.cons_append, deg_cons, deg_append, deg_cons, if_pos hi2, if_pos hy] at this
    omega
  | nil =>
    have t4 : Trail W (oth W k (oth W k w)) (zs ++ xs) w := t3.2.2
    rw [oth_oth hi (g.ab k rot.1)] at t4
    have e2 : zs ++ xs = [] := by
      cases q : zs ++ xs with
      | nil => rfl
      | cons y ys =>
        rw [q] at t4
        have hy : inc W y w = true := t4.2.1
        have := hd w
        rw [show (k :: ([] ++ k :: zs)) ++ xs = k :: k :: (zs ++ xs) from rfl, q, deg_cons, deg_cons, deg_cons, if_pos hi, if_pos hy] at this
        omega
    have e3 := List.append_eq_nil_iff.mp e2
    rw [e, e3.1, e3.2] at ho
    revert ho
    show ¬ (xor (M.testBit k) (xor (M.testBit k) false)) = true
    cases M.testBit k <;> decide
theorem stops_split : ∀ {P : List Nat} {ks : List Nat} {u : Nat} {Q : List Nat}, Trail W u ks v → stops W u ks = P ++ p :: Q → ∃ k1 k2, ks = k1 ++ k2 ∧ k1 ≠ [] ∧ Trail W u k1 p ∧ Trail W p k2 v ∧ stops W p k2 = Q
  | P, [], u, Q, _, e => by
    have e' : ([] : List Nat) = P ++ p :: Q := e
    cases P <;> cases e'
  | [], k :: ks, u, Q, h, e => by
    have e' : oth W k u :: stops W (oth W k u) ks = p :: Q := e
    injection e' with e1 e2
    subst e1
    exact ⟨[k], ks, rfl, by simp, ⟨h.1, h.2.1, rfl⟩, h.2.2, e2⟩
  | q :: P, k :: ks, u, Q, h, e => by
    have e' : oth W k u :: stops W (oth W k u) ks = q :: (P ++ p :: Q) := e
    injection e' with e1 e2
    obtain ⟨k1, k2, a, _, c, d, f⟩ := stops_split h.2.2 e2
    exact ⟨k :: k1, k2, by rw [a]; rfl, by simp, ⟨h.1, h.2.1, c⟩, d, f⟩
/-- in an odd closed trail lies an odd ring that is no longer -/
theorem odd_ring (g : W.Good) : ∀ (n : Nat) {ks : List Nat} {u : Nat}, ks.length ≤ n → Trail W u ks u → par M ks = true →
    ∃ x, x < 2 ^ W.m ∧ IsRing W x ∧ par M (tiesOf W x) = true ∧ len W (tiesOf W x) ≤ len W ks
  | 0, ks, u, hn, h, ho => by
    have : ks = [] := List.length_eq_zero_iff.mp (by omega)
    subst this
    cases ho
  | n + 1, ks, u, hn, h, ho => by
    by_cases hs : (stops W u ks).Nodup
    · have kn := nodup_of g h hs ho
      have hne : ks ≠ [] := fun e => by subst e; cases ho
      obtain ⟨x, hx, hk⟩ := exists_set (trail_lt h)
      have hm : ∀ k, k ∈ ks ↔ k ∈ tiesOf W x := fun k => by
        rw [mem_tiesOf, hk k]
        exact ⟨fun z => ⟨trail_lt h k z, z⟩, fun z => z.2⟩
      have hp := ring_perm ⟨h, hne, kn, hs⟩ hm
      exact ⟨x, hx, ⟨u, ks, ⟨h, hne, kn, hs⟩, hm⟩, by rw [← par_perm hp]; exact ho, by rw [← len_perm hp]; exact Int.le_refl _⟩
    · obtain ⟨P, p, Q, R, e⟩ := not_nodup hs
      obtain ⟨k1, k23, e1, ne1, t1, t23, s23⟩ := stops_split h e
      obtain ⟨k2, k3, e2, ne2, t2, t3, _⟩ := stops_split t23 s23
      subst e2 e1
      have l1 := List.length_pos_iff.mpr ne1
      have l2 := List.length_pos_iff.mpr ne2
      simp only [List.length_append] at hn
      have n1 := len_nonneg g (trail_lt t1)
      have n2 := len_nonneg g (trail_lt t2)
      have n3 := len_nonneg g (trail_lt t3)
      rw [par_append, par_append] at ho
      rw [len_append, len_append]
      cases h2 : par M k2 with
      | true =>
        obtain ⟨x, a, b, c, d⟩ := odd_ring g n (ks := k2) (by omega) t2 h2
        exact ⟨x, a, b, c, by omega⟩
      | false =>
        obtain ⟨x, a, b, c, d⟩ := odd_ring g n (ks := k1 ++ k3) (u := u) (by simp only [List.length_append]; omega) (trail_append.mpr ⟨p, t1, t3⟩) (by
          rw [par_append]
          rw [h2] at ho
          simpa using ho)
        rw [len_append] at d
        exact ⟨x, a, b, c, by omega⟩

/-! ### worths -/
abbrev Far := Nat → Bool → Option Int
def pairB : Option Int → Option Int → Int → Bool
  | some d, some e, l => decide ((if d - e < 0 then -(d - e) else d - e) ≤ l)
  | none, none, _ => true
  | _, _, _ => false
def Stand (W : Web) (M : Nat) (F : Nat → Far) : Prop := ∀ v, v < W.n → F v v false = some 0 ∧ ∀ k, k < W.m → ∀ s, pairB (F v (W.a k) s) (F v (W.b k) (xor s (M.testBit k))) (W.l k) = true
theorem pairB_iff {x y : Option Int} {l : Int} : pairB x y l = true ↔ (x = none ∧ y = none) ∨ ∃ d e, x = some d ∧ y = some e ∧ d - e ≤ l ∧ e - d ≤ l := by
  cases x with
  | none => cases y <;> simp [pairB]
  | some d =>
    cases y with
    | none => simp [pairB]
    | some e =>
      simp only [pairB, decide_eq_true_iff]
      constructor
      · intro h
        refine .inr ⟨d, e, rfl, rfl, ?_⟩
        split at h <;> omega
      · rintro (⟨h, _⟩ | ⟨d', e', h1, h2, h3, h4⟩)
        · cases h
        · cases h1; cases h2
          split <;> omega
/-- along a tie, either way -/
theorem stand_step {f : Far} {u : Nat} (h : ∀ s, pairB (f (W.a k) s) (f (W.b k) (xor s (M.testBit k))) (W.l k) = true) (hi : inc W k u = true) (ne : W.a k ≠ W.b k) {s : Bool} {d : Int} (e : f u s = some d) :
    ∃ d', f (oth W k u) (xor s (M.testBit k)) = some d' ∧ d' ≤ d + W.l k := by
  rcases inc_iff.mp hi with a | b
  · have eo : oth W k u = W.b k := if_pos a
    rw [eo]
    rcases pairB_iff.mp (h s) with ⟨z, _⟩ | ⟨d1, e1, z1, z2, z3, z4⟩
    · rw [a, e] at z; cases z
    · rw [a, e] at z1; cases z1
      exact ⟨e1, z2, by omega⟩
  · have eo : oth W k u = W.a k := if_neg (fun z => ne (z.trans b.symm))
    rw [eo]
    have hb := h (xor s (M.testBit k))
    rw [show xor (xor s (M.testBit k)) (M.testBit k) = s by cases s <;> cases M.testBit k <;> rfl] at hb
    rcases pairB_iff.mp hb with ⟨_, z⟩ | ⟨d1, e1, z1, z2, z3, z4⟩
    · rw [b, e] at z; cases z
    · rw [b, e] at z2; cases z2
      exact ⟨d1, z1, by omega⟩
theorem stand_trail (g : W.Good) {f : Far} (h : ∀ k, k < W.m → ∀ s, pairB (f (W.a k) s) (f (W.b k) (xor s (M.testBit k))) (W.l k) = true) :
    ∀ {ks : List Nat} {u : Nat} {s : Bool} {d : Int}, Trail W u ks v → f u s = some d → ∃ d', f v (xor s (par M ks)) = some d' ∧ d' ≤ d + len W ks
  | [], u, s, d, t, e => by
    have t' : u = v := t
    subst t'
    refine ⟨d, ?_, ?_⟩
    · show f u (xor s false) = _
      rw [Bool.xor_false]; exact e
    · show d ≤ d + 0
      omega
  | k :: ks, u, s, d, t, e => by
    obtain ⟨d1, e1, l1⟩ := stand_step (h k t.1) t.2.1 (g.ab k t.1) e
    obtain ⟨d2, e2, l2⟩ := stand_trail g h t.2.2 e1
    refine ⟨d2, ?_, ?_⟩
    · show f v (xor s (xor (M.testBit k) (par M ks))) = _
      rw [← Bool.xor_assoc]; exact e2
    · show d2 ≤ d + (W.l k + len W ks)
      omega

/-! ### the search: rounds over all ties -/
def leastO : Option Int → Int → Int
  | none, x => x
  | some y, x => if x < y then x else y
def Le (x : Option Int) (d : Int) : Prop := ∃ e, x = some e ∧ e ≤ d
theorem Le.mono {x : Option Int} {d e : Int} (h : Le x d) (l : d ≤ e) : Le x e := let ⟨c, a, b⟩ := h; ⟨c, a, by omega⟩
theorem leastO_le1 {x : Option Int} {y : Int} : leastO x y ≤ y := by
  cases x with
  | none => exact Int.le_refl _
  | some z => show (if y < z then y else z) ≤ y; split <;> omega
theorem leastO_le2 {x : Option Int} {y d : Int} (h : Le x d) : leastO x y ≤ d := by
  obtain ⟨e, rfl, l⟩ := h
  show (if y < e then y else e) ≤ d
  split <;> omega
theorem leastO_or (x : Option Int) (y : Int) : leastO x y = y ∨ x = some (leastO x y) := by
  cases x with
  | none => exact .inl rfl
  | some z =>
    by_cases h : y < z
    · exact .inl (if_pos h)
    · right
      show some z = some (if y < z then y else z)
      rw [if_neg h]
def setF (f : Far) (b : Nat) (t : Bool) (x : Option Int) : Far := fun p s => if p = b ∧ s = t then x else f p s
theorem setF_same {f : Far} {b : Nat} {t : Bool} {x : Option Int} : setF f b t x b t = x := if_pos ⟨rfl, rfl⟩
/-- one end of a tie, the way it is gone: 0 from a to b, 1 from b to a -/
def fro (W : Web) (k i : Nat) : Nat := if i = 0 then W.a k else W.b k
def too (W : Web) (k i : Nat) : Nat := if i = 0 then W.b k else W.a k
def relax (W : Web) (M k i : Nat) (f : Far) (s : Bool) : Far :=
  match f (fro W k i) s with
  | none => f
  | some d => setF f (too W k i) (xor s (M.testBit k)) (some (leastO (f (too W k i) (xor s (M.testBit k))) (d + W.l k)))
def wayR (W : Web) (M k : Nat) (f : Far) (i : Nat) : Far := (List.range 2).foldl (fun f s => relax W M k i f (s == 1)) f
def tieR (W : Web) (M : Nat) (f : Far) (k : Nat) : Far := (List.range 2).foldl (wayR W M k) f
def roundR (W : Web) (M : Nat) (f : Far) (_ : Nat) : Far := (List.range W.m).foldl (tieR W M) f
def far0 (v : Nat) : Far := setF (fun _ _ => none) v false (some 0)
def farR (W : Web) (M v : Nat) : Far := (List.range (2 * W.n)).foldl (roundR W M) (far0 v)

/-- a property kept by each step is kept by all -/
theorem foldl_keep {α β : Type} {P : β → Prop} {F : β → α → β} (l : List α) (h : ∀ b a, a ∈ l → P b → P (F b a)) : ∀ b, P b → P (l.foldl F b) := by
  induction l with
  | nil => intro b hb; exact hb
  | cons a l ih => intro b hb; exact ih (fun b a ha => h b a (List.mem_cons_of_mem _ ha)) _ (h b a List.mem_cons_self hb)
theorem tieR_keep {P : Far → Prop} (h : ∀ f i s, i < 2 → P f → P (relax W M k i f s)) (f : Far) (hf : P f) : P (tieR W M f k) :=
  foldl_keep _ (fun f i hi hf => foldl_keep _ (fun f s _ hf => h f i (s == 1) (List.mem_range.mp hi) hf) f hf) f hf
theorem relax_none {f : Far} {s : Bool} {i : Nat} (h : f (fro W k i) s = none) : relax W M k i f s = f := by
  unfold relax; rw [h]
theorem relax_some {f : Far} {s : Bool} {i : Nat} {d : Int} (h : f (fro W k i) s = some d) : relax W M k i f s = setF f (too W k i) (xor s (M.testBit k)) (some (leastO (f (too W k i) (xor s (M.testBit k))) (d + W.l k))) := by
  unfold relax; rw [h]
theorem relax_le {f : Far} {x : Nat} {t s : Bool} {d : Int} {i : Nat} (h : Le (f x t) d) : Le (relax W M k i f s x t) d := by
  cases hd : f (fro W k i) s with
  | none => rw [relax_none hd]; exact h
  | some e0 =>
    rw [relax_some hd]
    unfold setF
    by_cases c : x = too W k i ∧ t = xor s (M.testBit k)
    · rw [if_pos c]
      refine ⟨_, rfl, leastO_le2 ?_⟩
      rw [← c.1, ← c.2]; exact h
    · rw [if_neg c]; exact h
theorem relax_hit {f : Far} {s : Bool} {d : Int} {i : Nat} (h : Le (f (fro W k i) s) d) : Le (relax W M k i f s (too W k i) (xor s (M.testBit k))) (d + W.l k) := by
  obtain ⟨e, he, l⟩ := h
  unfold relax
  rw [he]
  refine ⟨_, setF_same, ?_⟩
  have := leastO_le1 (x := f (too W k i) (xor s (M.testBit k))) (y := e + W.l k)
  omega
theorem tieR_eq (f : Far) : tieR W M f k = relax W M k 1 (relax W M k 1 (relax W M k 0 (relax W M k 0 f false) true) false) true := rfl
theorem tieR_hit {f : Far} {s : Bool} {d : Int} (g : W.Good) (hk : k < W.m) (hi : inc W k u = true) (h : Le (f u s) d) : Le (tieR W M f k (oth W k u) (xor s (M.testBit k))) (d + W.l k) := by
  rw [tieR_eq]
  rcases inc_iff.mp hi with a | b
  · have e1 : u = fro W k 0 := a.symm
    have e2 : oth W k u = too W k 0 := if_pos a
    rw [e2]
    rw [e1] at h
    cases s with
    | false => exact relax_le (relax_le (relax_le (relax_hit h)))
    | true => exact relax_le (relax_le (relax_hit (relax_le h)))
  · have e1 : u = fro W k 1 := b.symm
    have e2 : oth W k u = too W k 1 := if_neg (fun z => g.ab k hk (z.trans b.symm))
    rw [e2]
    rw [e1] at h
    cases s with
    | false => exact relax_le (relax_hit (relax_le (relax_le h)))
    | true => exact relax_hit (relax_le (relax_le (relax_le h)))
def Cov (W : Web) (M v i : Nat) (f : Far) : Prop := ∀ ks x, Trail W v ks x → ks.length ≤ i → Le (f x (par M ks)) (len W ks)
theorem roundR_le {f : Far} {x : Nat} {t : Bool} {d : Int} (h : Le (f x t) d) (l : List Nat) : Le (l.foldl (tieR W M) f x t) d :=
  foldl_keep (P := fun f => Le (f x t) d) l (fun f k _ hf => tieR_keep (P := fun f => Le (f x t) d) (fun f i s _ hf => relax_le hf) f hf) f h
theorem cov_round (g : W.Good) {f : Far} {i j : Nat} (h : Cov W M v i f) : Cov W M v (i + 1) (roundR W M f j) := by
  intro ks x t hl
  by_cases hi : ks.length ≤ i
  · exact roundR_le (h ks x t hi) _
  · rcases List.eq_nil_or_concat ks with e | ⟨js, k, e⟩
    · subst e; exact absurd (Nat.zero_le _) hi
    · rw [List.concat_eq_append] at e
      subst e
      obtain ⟨w, t1, t2⟩ := trail_append.mp t
      have hlen : js.length ≤ i := by simp at hl; omega
      have h1 := h js w t1 hlen
      have hx : x = oth W k w := t2.2.2.symm
      have hk := t2.1
      obtain ⟨pre, post, ep⟩ := List.append_of_mem (List.mem_range.mpr hk)
      unfold roundR
      rw [ep, List.foldl_append, List.foldl_cons, par_append, len_append, hx]
      refine roundR_le ?_ _
      have h2 := tieR_hit (M := M) g hk t2.2.1 (roundR_le (W := W) (M := M) h1 pre)
      have e1 : par M [k] = M.testBit k := by show xor (M.testBit k) false = _; rw [Bool.xor_false]
      have e2 : len W [k] = W.l k := by show W.l k + 0 = _; omega
      rw [e1, e2]
      exact h2
theorem cov_all (g : W.Good) : ∀ i, Cov W M v i ((List.range i).foldl (roundR W M) (far0 v))
  | 0 => fun ks x t hl => by
    have : ks = [] := List.length_eq_zero_iff.mp (by omega)
    subst this
    have t' : v = x := t
    subst t'
    exact ⟨0, show far0 v v false = some 0 from setF_same, Int.le_refl _⟩
  | i + 1 => by
    rw [List.range_succ, List.foldl_append, List.foldl_cons, List.foldl_nil]
    exact cov_round (j := i) g (cov_all g i)
/-- each number is the length of a way -/
def Sound (W : Web) (M v : Nat) (f : Far) : Prop := ∀ x t d, f x t = some d → ∃ ks, Trail W v ks x ∧ par M ks = t ∧ len W ks = d
theorem sound_relax (g : W.Good) {f : Far} {i : Nat} {s : Bool} (hk : k < W.m) (hi : i < 2) (h : Sound W M v f) : Sound W M v (relax W M k i f s) := by
  intro x t d e
  cases hd : f (fro W k i) s with
  | none => rw [relax_none hd] at e; exact h x t d e
  | some d0 =>
    rw [relax_some hd] at e
    unfold setF at e
    by_cases c : x = too W k i ∧ t = xor s (M.testBit k)
    · rw [if_pos c] at e
      have e' := Option.some.inj e
      rcases leastO_or (f (too W k i) (xor s (M.testBit k))) (d0 + W.l k) with q | q
      · obtain ⟨ks, t1, p1, l1⟩ := h _ _ _ hd
        have e1 : par M [k] = M.testBit k := by show xor (M.testBit k) false = _; rw [Bool.xor_false]
        have e2 : len W [k] = W.l k := by show W.l k + 0 = _; omega
        refine ⟨ks ++ [k], trail_append.mpr ⟨_, t1, hk, ?_, ?_⟩, ?_, ?_⟩
        · rw [inc_iff]; unfold fro; split
          · exact .inl rfl
          · exact .inr rfl
        · show oth W k (fro W k i) = x
          rw [c.1]
          unfold oth fro too
          by_cases z : i = 0
          · rw [if_pos z, if_pos z, if_pos rfl]
          · rw [if_neg z, if_neg z, if_neg (g.ab k hk)]
        · rw [par_append, p1, e1, c.2]
        · rw [len_append, l1, e2, ← e', q]
      · rw [e'] at q
        obtain ⟨ks, t1, p1, l1⟩ := h _ _ _ q
        exact ⟨ks, c.1 ▸ t1, c.2 ▸ p1, l1⟩
    · rw [if_neg c] at e
      exact h x t d e
theorem sound_far0 : Sound W M v (far0 v) := by
  intro x t d e
  unfold far0 setF at e
  split at e
  · rename_i c
    have e' := Option.some.inj e
    exact ⟨[], c.1.symm, c.2.symm, e'⟩
  · cases e
theorem sound_all (g : W.Good) : Sound W M v (farR W M v) :=
  foldl_keep _ (fun f j _ hf => foldl_keep _ (fun f k hk hf => tieR_keep (fun f i s hi hf => sound_relax g (List.mem_range.mp hk) hi hf) f hf) f hf) _ sound_far0

/-! ### ways are made short: there are 2 n states -/
def code (u : Nat) (s : Bool) : Nat := 2 * u + if s = true then 1 else 0
theorem code_inj {u v : Nat} {s t : Bool} (h : code u s = code v t) : u = v ∧ s = t := by
  unfold code at h
  cases s <;> cases t <;> simp at h ⊢ <;> omega
def sts (W : Web) (M : Nat) : Nat → Bool → List Nat → List Nat
  | u, s, [] => [code u s]
  | u, s, k :: ks => code u s :: sts W M (oth W k u) (xor s (M.testBit k)) ks
theorem sts_len : ∀ {ks : List Nat} {u : Nat} {s : Bool}, (sts W M u s ks).length = ks.length + 1
  | [], _, _ => rfl
  | k :: ks, u, s => by
    show (sts W M _ _ ks).length + 1 = _
    rw [sts_len]; rfl
theorem sts_lt (g : W.Good) : ∀ {ks : List Nat} {u : Nat} {s : Bool}, Trail W u ks v → u < W.n → ∀ c ∈ sts W M u s ks, c < 2 * W.n
  | [], u, s, _, hu, c, hc => by
    rw [List.mem_singleton.mp (show c ∈ [code u s] from hc)]
    unfold code; split <;> omega
  | k :: ks, u, s, t, hu, c, hc => by
    rcases List.mem_cons.mp (show c ∈ code u s :: sts W M _ _ ks from hc) with rfl | hc
    · unfold code; split <;> omega
    · exact sts_lt g t.2.2 (oth_lt g t.1) c hc
theorem sts_split : ∀ {P : List Nat} {ks : List Nat} {u : Nat} {s : Bool} {c : Nat} {Q : List Nat}, Trail W u ks v → sts W M u s ks = P ++ c :: Q →
    ∃ k1 k2 w, ks = k1 ++ k2 ∧ k1.length = P.length ∧ Trail W u k1 w ∧ Trail W w k2 v ∧ c = code w (xor s (par M k1)) ∧ sts W M w (xor s (par M k1)) k2 = c :: Q
  | [], ks, u, s, c, Q, t, e => by
    have e0 : sts W M u s ks = c :: Q := e
    have ec : c = code u s := by
      cases ks with
      | nil => injection e0 with a _; exact a.symm
      | cons k ks => injection e0 with a _; exact a.symm
    refine ⟨[], ks, u, rfl, rfl, rfl, t, ?_, ?_⟩
    · show c = code u (xor s false)
      rw [Bool.xor_false]; exact ec
    · show sts W M u (xor s false) ks = _
      rw [Bool.xor_false]; exact e0
  | q :: P, [], u, s, c, Q, t, e => by
    have e0 : [code u s] = q :: (P ++ c :: Q) := e
    injection e0 with _ b
    cases P <;> cases b
  | q :: P, k :: ks, u, s, c, Q, t, e => by
    have e0 : code u s :: sts W M (oth W k u) (xor s (M.testBit k)) ks = q :: (P ++ c :: Q) := e
    injection e0 with _ b
    obtain ⟨k1, k2, w, h1, h2, h3, h4, h5, h6⟩ := sts_split t.2.2 b
    refine ⟨k :: k1, k2, w, by rw [h1]; rfl, by simp [h2], ⟨t.1, t.2.1, h3⟩, h4, ?_, ?_⟩
    · show c = code w (xor s (xor (M.testBit k) (par M k1)))
      rw [← Bool.xor_assoc]; exact h5
    · show sts W M w (xor s (xor (M.testBit k) (par M k1))) k2 = _
      rw [← Bool.xor_assoc]; exact h6
theorem shorten (g : W.Good) : ∀ (n : Nat) {ks : List Nat}, ks.length ≤ n → Trail W u ks v → u < W.n → ∃ js, Trail W u js v ∧ js.length ≤ 2 * W.n ∧ par M js = par M ks ∧ len W js ≤ len W ks
  | 0, ks, hn, t, _ => ⟨ks, t, by omega, rfl, Int.le_refl _⟩
  | n + 1, ks, hn, t, hu => by
    by_cases hl : ks.length ≤ 2 * W.n
    · exact ⟨ks, t, hl, rfl, Int.le_refl _⟩
    · have hnd : ¬ (sts W M u false ks).Nodup := fun z => by
        have := nodup_le z (ys := List.range (2 * W.n)) fun c hc => List.mem_range.mpr (sts_lt g t hu c hc)
        rw [sts_len, List.length_range] at this
        omega
      obtain ⟨P, c, Q, R, e⟩ := not_nodup hnd
      obtain ⟨k1, k23, w, e1, _, t1, t23, c1, s1⟩ := sts_split t e
      obtain ⟨k2, k3, w2, e2, l2, t2, t3, c2, _⟩ := sts_split (P := c :: Q) t23 s1
      obtain ⟨ew, es⟩ := code_inj (c1.symm.trans c2)
      subst ew e2 e1
      have hp : par M k2 = false := by
        revert es
        cases par M k1 <;> cases par M k2 <;> simp
      have l2' : k2.length = Q.length + 1 := l2
      have n2 := len_nonneg g (trail_lt t2)
      obtain ⟨js, a, b, cc, d⟩ := shorten g n (ks := k1 ++ k3) (by simp only [List.length_append] at hn ⊢; omega) (trail_append.mpr ⟨w, t1, t3⟩) hu
      refine ⟨js, a, b, ?_, ?_⟩
      · rw [cc, par_append, par_append, par_append, hp, Bool.false_xor]
      · rw [len_append] at d
        rw [len_append, len_append]
        omega
theorem far_le (g : W.Good) (hv : v < W.n) {ks : List Nat} {x : Nat} (t : Trail W v ks x) : Le (farR W M v x (par M ks)) (len W ks) := by
  obtain ⟨js, a, b, c, d⟩ := shorten (M := M) g ks.length (Nat.le_refl _) t hv
  have := cov_all (M := M) g (2 * W.n) js x a b
  rw [c] at this
  exact this.mono d
/-- the right worths stand -/
theorem far_stand (g : W.Good) : Stand W M (farR W M) := by
  intro v hv
  refine ⟨?_, fun k hk s => ?_⟩
  · obtain ⟨e, h1, h2⟩ := far_le (M := M) g hv (ks := []) (x := v) rfl
    have h2' : e ≤ 0 := h2
    obtain ⟨ks, t, p, l⟩ := sound_all g v false e h1
    have := len_nonneg g (trail_lt t)
    have : e = 0 := by omega
    rw [← this]; exact h1
  · have step : ∀ u s d, inc W k u = true → farR W M v u s = some d → Le (farR W M v (oth W k u) (xor s (M.testBit k))) (d + W.l k) := fun u s d hi e => by
      obtain ⟨ks, t, p, l⟩ := sound_all g u s d e
      have := far_le (M := M) g hv (ks := ks ++ [k]) (x := oth W k u) (trail_append.mpr ⟨u, t, hk, hi, rfl⟩)
      have e1 : par M [k] = M.testBit k := by show xor (M.testBit k) false = _; rw [Bool.xor_false]
      have e2 : len W [k] = W.l k := by show W.l k + 0 = _; omega
      rw [par_append, len_append, p, l, e1, e2] at this
      exact this
    have ha : inc W k (W.a k) = true := inc_iff.mpr (.inl rfl)
    have hb : inc W k (W.b k) = true := inc_iff.mpr (.inr rfl)
    have oa : oth W k (W.a k) = W.b k := if_pos rfl
    have ob : oth W k (W.b k) = W.a k := if_neg (g.ab k hk)
    rw [pairB_iff]
    cases h1 : farR W M v (W.a k) s with
    | none =>
      cases h2 : farR W M v (W.b k) (xor s (M.testBit k)) with
      | none => exact Or.inl (And.intro rfl rfl)
      | some e =>
        obtain ⟨d, q, _⟩ := step _ _ _ hb h2
        rw [ob, show xor (xor s (M.testBit k)) (M.testBit k) = s by cases s <;> cases M.testBit k <;> rfl, h1] at q
        cases q
    | some d =>
      obtain ⟨e, q, l⟩ := step _ _ _ ha h1
      rw [oa] at q
      obtain ⟨d', q', l'⟩ := step _ _ _ hb q
      rw [ob, show xor (xor s (M.testBit k)) (M.testBit k) = s by cases s <;> cases M.testBit k <;> rfl, h1] at q'
      cases q'
      rw [q]
      exact .inr ⟨d, e, rfl, rfl, by omega, by omega⟩
end
end RB
/-! RBC: nearest rings, what stands is right, cuts, pieces, counting bits. Plain Lean. -/
namespace RB
section
variable {W : Web} {u v w p k : Nat} {ks xs ys zs : List Nat} {M : Nat}

/-! ### the nearest odd ring -/
noncomputable def ringB (W : Web) (x : Nat) : Bool := @decide (IsRing W x) (Classical.propDecidable _)
theorem ringB_iff {x : Nat} : ringB W x = true ↔ IsRing W x := by
  unfold ringB; exact @decide_eq_true_iff (IsRing W x) (Classical.propDecidable _)
def lenOf (W : Web) (x : Nat) : Int := len W (tiesOf W x)
def oddOf (W : Web) (M x : Nat) : Bool := par M (tiesOf W x)
noncomputable def nearStep (W : Web) (M : Nat) (acc : Option Int) (j : Nat) : Option Int :=
  if (oddOf W M (j + 1) && ringB W (j + 1)) = true then some (leastO acc (lenOf W (j + 1))) else acc
noncomputable def nearI (W : Web) (M i : Nat) : Option Int := (List.range i).foldl (nearStep W M) none
noncomputable def nearest (W : Web) (M : Nat) : Option Int := nearI W M (2 ^ W.m - 1)
theorem nearI_succ (i : Nat) : nearI W M (i + 1) = nearStep W M (nearI W M i) i := by
  unfold nearI; rw [List.range_succ, List.foldl_append]; rfl
theorem nearI_le : ∀ {i j : Nat}, j < i → IsRing W (j + 1) → oddOf W M (j + 1) = true → Le (nearI W M i) (lenOf W (j + 1))
  | i + 1, j, h, r, o => by
    rw [nearI_succ]
    unfold nearStep
    by_cases e : j = i
    · subst e
      rw [if_pos (by rw [o, ringB_iff.mpr r]; rfl)]
      exact ⟨_, rfl, leastO_le1⟩
    · have ih := nearI_le (i := i) (j := j) (by omega) r o
      split
      · exact ⟨_, rfl, leastO_le2 ih⟩
      · exact ih
theorem nearI_ex : ∀ {i : Nat} {d : Int}, nearI W M i = some d → ∃ j, j < i ∧ IsRing W (j + 1) ∧ oddOf W M (j + 1) = true ∧ lenOf W (j + 1) = d
  | 0, d, h => by cases h
  | i + 1, d, h => by
    rw [nearI_succ] at h
    unfold nearStep at h
    split at h
    · rename_i c
      rw [Bool.and_eq_true] at c
      have h' := Option.some.inj h
      rcases leastO_or (nearI W M i) (lenOf W (i + 1)) with q | q
      · exact ⟨i, by omega, ringB_iff.mp c.2, c.1, by rw [← h', q]⟩
      · rw [h'] at q
        obtain ⟨j, a, b, cc, e⟩ := nearI_ex q
        exact ⟨j, by omega, b, cc, e⟩
    · obtain ⟨j, a, b, cc, e⟩ := nearI_ex h
      exact ⟨j, by omega, b, cc, e⟩
theorem ring_pos {x : Nat} (h : IsRing W x) : 0 < x := by
  apply Nat.pos_of_ne_zero
  rintro rfl
  obtain ⟨u, ks, s, hm⟩ := h
  obtain ⟨k, r, e⟩ := List.exists_cons_of_ne_nil s.ne
  have := (mem_tiesOf.mp ((hm k).mp (by rw [e]; exact List.mem_cons_self))).2
  simp at this
theorem nearest_le {x : Nat} (hx : x < 2 ^ W.m) (r : IsRing W x) (o : oddOf W M x = true) : Le (nearest W M) (lenOf W x) := by
  have := ring_pos r
  obtain ⟨j, rfl⟩ : ∃ j, x = j + 1 := ⟨x - 1, by omega⟩
  exact nearI_le (by omega) r o
theorem nearest_ex {d : Int} (h : nearest W M = some d) : ∃ x, x < 2 ^ W.m ∧ IsRing W x ∧ oddOf W M x = true ∧ lenOf W x = d := by
  obtain ⟨j, a, b, c, e⟩ := nearI_ex h
  exact ⟨j + 1, by omega, b, c, e⟩
/-- the ring's own trail -/
theorem ring_trail {x : Nat} (h : IsRing W x) : ∃ u ks, Trail W u ks u ∧ ks ≠ [] ∧ par M ks = oddOf W M x ∧ len W ks = lenOf W x := by
  obtain ⟨u, ks, s, hm⟩ := h
  have hp := ring_perm s hm
  exact ⟨u, ks, s.tr, s.ne, par_perm hp, len_perm hp⟩
theorem trail_start_lt (g : W.Good) (h : Trail W u ks v) (hne : ks ≠ []) : u < W.n := by
  cases ks with
  | nil => exact absurd rfl hne
  | cons k ks => exact inc_lt g h.1 h.2.1

/-! ### what is taken is right -/
def Backs (W : Web) (F : Nat → Far) (d : Int) : Prop := ∀ v, v < W.n → ∀ e, F v v true = some e → d ≤ e
theorem sound (g : W.Good) {F : Nat → Far} {x : Nat} (hx : x < 2 ^ W.m) (r : IsRing W x) (o : oddOf W M x = true) (hF : Stand W M F) (hB : Backs W F (lenOf W x)) : nearest W M = some (lenOf W x) := by
  obtain ⟨e, h1, h2⟩ := nearest_le (M := M) hx r o
  obtain ⟨y, hy, ry, oy, ly⟩ := nearest_ex h1
  obtain ⟨u, ks, t, ne, p, l⟩ := ring_trail (M := M) ry
  have hu := trail_start_lt g t ne
  obtain ⟨s0, s1⟩ := hF u hu
  obtain ⟨d', q1, q2⟩ := stand_trail (f := F u) g s1 t s0
  rw [Bool.false_xor, p, oy] at q1
  have := hB u hu d' q1
  rw [h1]
  congr 1
  omega
/-- the right worths are taken with a nearest ring -/
theorem backs (g : W.Good) {x : Nat} (h : nearest W M = some (lenOf W x)) : Backs W (farR W M) (lenOf W x) := by
  intro v hv e he
  obtain ⟨ks, t, p, l⟩ := sound_all g v true e he
  obtain ⟨y, hy, ry, oy, ly⟩ := odd_ring g ks.length (Nat.le_refl _) t p
  obtain ⟨d, q1, q2⟩ := nearest_le (M := M) hy ry oy
  rw [h] at q1
  cases q1
  unfold lenOf at q2 ⊢
  omega

/-! ### cuts -/
def crosses (W : Web) (S : Nat → Bool) (k : Nat) : Bool := xor (S (W.a k)) (S (W.b k))
def cutI (W : Web) (S : Nat → Bool) : Nat → Nat
  | 0 => 0
  | i + 1 => if crosses W S i = true then cutI W S i + 2 ^ i else cutI W S i
theorem cutI_lt (S : Nat → Bool) : ∀ i, cutI W S i < 2 ^ i
  | 0 => by show 0 < 1; decide
  | i + 1 => by
    have ih := cutI_lt S i
    have : 2 ^ (i + 1) = 2 ^ i + 2 ^ i := by rw [Nat.pow_succ]; omega
    show (if crosses W S i = true then cutI W S i + 2 ^ i else cutI W S i) < _
    split <;> omega
theorem cutI_or (S : Nat → Bool) (i : Nat) : cutI W S i ||| 2 ^ i = cutI W S i + 2 ^ i := by
  have := Nat.two_pow_add_eq_or_of_lt (cutI_lt (W := W) S i) 1
  rw [Nat.mul_one] at this
  rw [Nat.or_comm, ← this, Nat.add_comm]
theorem cutI_bit (S : Nat → Bool) : ∀ i k, (cutI W S i).testBit k = (decide (k < i) && crosses W S k)
  | 0, k => by
    show Nat.testBit 0 k = _
    simp
  | i + 1, k => by
    have ih := cutI_bit S i k
    show Nat.testBit (if crosses W S i = true then cutI W S i + 2 ^ i else cutI W S i) k = _
    by_cases c : crosses W S i = true
    · rw [if_pos c, ← cutI_or, Nat.testBit_or, ih, Nat.testBit_two_pow]
      by_cases e : i = k
      · subst e; simp [c]
      · have : decide (k < i + 1) = decide (k < i) := by
          rw [decide_eq_decide]; omega
        simp [e, this]
    · rw [if_neg c, ih]
      by_cases e : i = k
      · subst e; simp [c]
      · have : decide (k < i + 1) = decide (k < i) := by
          rw [decide_eq_decide]; omega
        rw [this]
theorem cut_trail {S : Nat → Bool} (hM : M = cutI W S W.m) (ne : ∀ k, k < W.m → W.a k ≠ W.b k) : ∀ {ks : List Nat} {u : Nat}, Trail W u ks v → par M ks = xor (S u) (S v)
  | [], u, t => by
    have t' : u = v := t
    subst t'
    show false = _
    cases S u <;> rfl
  | k :: ks, u, t => by
    have ih := cut_trail hM ne t.2.2
    show xor (M.testBit k) (par M ks) = _
    rw [ih]
    have hb : M.testBit k = xor (S u) (S (oth W k u)) := by
      rw [hM, cutI_bit, decide_eq_true t.1, Bool.true_and]
      unfold crosses oth
      rcases inc_iff.mp t.2.1 with a | b
      · rw [if_pos a, a]
      · rw [if_neg (fun z => ne k t.1 (z.trans b.symm)), b, Bool.xor_comm]
    rw [hb]
    cases S u <;> cases S (oth W k u) <;> cases S v <;> rfl
theorem cut_none (g : W.Good) {S : Nat → Bool} (hM : cutI W S W.m = M) : nearest W M = none := by
  cases h : nearest W M with
  | none => rfl
  | some d =>
    obtain ⟨x, hx, r, o, _⟩ := nearest_ex h
    obtain ⟨u, ks, t, _, p, _⟩ := ring_trail (M := M) r
    have := cut_trail hM.symm g.ab t
    rw [p, o, Bool.xor_self] at this
    cases this

/-! ### pieces -/
def merge (W : Web) (f : Nat → Nat) (k : Nat) : Nat → Nat := fun x =>
  if f x = (if f (W.b k) > f (W.a k) then f (W.b k) else f (W.a k)) then (if f (W.b k) < f (W.a k) then f (W.b k) else f (W.a k)) else f x
def heads (W : Web) (ks : List Nat) : Nat → Nat := ks.foldl (merge W) fun x => x
structure Pcs (W : Web) (ks : List Nat) (f : Nat → Nat) : Prop where
  idem : ∀ x, f (f x) = f x
  tie : ∀ k, k ∈ ks → f (W.a k) = f (W.b k)
  out : ∀ x, (∀ k, k ∈ ks → inc W k x = false) → f x = x ∧ ∀ y, f y = x → y = x
  low : ∀ x, x < W.n → f x < W.n
theorem merge_eq (f : Nat → Nat) : ∃ lo hi, ((lo = f (W.a k) ∧ hi = f (W.b k)) ∨ (lo = f (W.b k) ∧ hi = f (W.a k))) ∧ merge W f k = fun x => if f x = hi then lo else f x := by
  by_cases h : f (W.b k) < f (W.a k)
  · refine ⟨f (W.b k), f (W.a k), .inr ⟨rfl, rfl⟩, ?_⟩
    funext x
    unfold merge
    rw [if_pos h, if_neg (show ¬ f (W.b k) > f (W.a k) by omega)]
  · by_cases h2 : f (W.b k) > f (W.a k)
    · refine ⟨f (W.a k), f (W.b k), .inl ⟨rfl, rfl⟩, ?_⟩
      funext x
      unfold merge
      rw [if_pos h2, if_neg h]
    · refine ⟨f (W.a k), f (W.b k), .inl ⟨rfl, rfl⟩, ?_⟩
      have e : f (W.a k) = f (W.b k) := by omega
      funext x
      unfold merge
      rw [if_neg h2, if_neg h, e]
theorem Pcs.merge (g : W.Good) {f : Nat → Nat} (h : Pcs W ks f) (hk : k < W.m) : Pcs W (ks ++ [k]) (merge W f k) := by
  obtain ⟨lo, hi, hlh, e⟩ := merge_eq (W := W) (k := k) f
  rw [e]
  have flo : f lo = lo := by rcases hlh with ⟨z, _⟩ | ⟨z, _⟩ <;> rw [z, h.idem]
  have fhi : f hi = hi := by rcases hlh with ⟨_, z⟩ | ⟨_, z⟩ <;> rw [z, h.idem]
  refine ⟨fun x => ?_, fun j hj => ?_, fun x hx => ?_, fun x hx => ?_⟩
  · show (if f (if f x = hi then lo else f x) = hi then lo else f (if f x = hi then lo else f x)) = if f x = hi then lo else f x
    by_cases c : f x = hi
    · rw [if_pos c, flo]
      split <;> rfl
    · rw [if_neg c, h.idem, if_neg c]
  · show (if f (W.a j) = hi then lo else f (W.a j)) = if f (W.b j) = hi then lo else f (W.b j)
    rcases List.mem_append.mp hj with q | q
    · rw [h.tie j q]
    · rw [List.mem_singleton.mp q]
      rcases hlh with ⟨z1, z2⟩ | ⟨z1, z2⟩
      · rw [← z1, ← z2, if_pos rfl]; split <;> rfl
      · rw [← z1, ← z2, if_pos rfl]; split <;> rfl
  · obtain ⟨h1, h2⟩ := h.out x fun j hj => hx j (List.mem_append_left _ hj)
    have hik : inc W k x = false := hx k (by simp)
    have na : W.a k ≠ x := fun z => by
      have := inc_iff.mpr (.inl z : W.a k = x ∨ W.b k = x)
      rw [hik] at this; cases this
    have nb : W.b k ≠ x := fun z => by
      have := inc_iff.mpr (.inr z : W.a k = x ∨ W.b k = x)
      rw [hik] at this; cases this
    have nlo : lo ≠ x := fun z => by
      rcases hlh with ⟨q, _⟩ | ⟨q, _⟩
      · exact na (h2 _ (q.symm.trans z))
      · exact nb (h2 _ (q.symm.trans z))
    have nhi : hi ≠ x := fun z => by
      rcases hlh with ⟨_, q⟩ | ⟨_, q⟩
      · exact nb (h2 _ (q.symm.trans z))
      · exact na (h2 _ (q.symm.trans z))
    refine ⟨?_, fun y hy => ?_⟩
    · show (if f x = hi then lo else f x) = x
      rw [h1, if_neg (fun z => nhi z.symm)]
    · have hy' : (if f y = hi then lo else f y) = x := hy
      split at hy'
      · exact absurd hy' nlo
      · exact h2 y hy'
  · show (if f x = hi then lo else f x) < W.n
    split
    · rcases hlh with ⟨z, _⟩ | ⟨z, _⟩
      · rw [z]; exact h.low _ (g.an k hk)
      · rw [z]; exact h.low _ (g.bn k hk)
    · exact h.low x hx
theorem heads_append : heads W (ks ++ [k]) = merge W (heads W ks) k := by
  unfold heads; rw [List.foldl_append]; rfl
theorem pcs_heads (g : W.Good) (h : ∀ k, k ∈ ks → k < W.m) : Pcs W ks (heads W ks) := by
  suffices ∀ (r ks : List Nat) (f : Nat → Nat), (∀ k, k ∈ r → k < W.m) → Pcs W ks f → Pcs W (ks ++ r) (r.foldl (merge W) f) by
    have := this ks [] (fun x => x) h ⟨fun _ => rfl, (fun _ q => nomatch q), fun x _ => ⟨rfl, fun _ q => q⟩, fun _ q => q⟩
    exact this
  intro r
  induction r with
  | nil => intro ks f _ hf; rw [List.append_nil]; exact hf
  | cons k r ih =>
    intro ks f hr hf
    have := ih (ks ++ [k]) (merge W f k) (fun j hj => hr j (List.mem_cons_of_mem _ hj)) (hf.merge g (hr k List.mem_cons_self))
    rwa [List.append_assoc] at this
theorem trail_head {f : Nat → Nat} (hf : ∀ k, k ∈ xs → f (W.a k) = f (W.b k)) (g : W.Good) : ∀ {ks : List Nat} {u : Nat}, Trail W u ks v → (∀ k ∈ ks, k ∈ xs) → ∀ p ∈ stops W u ks, f p = f u
  | [], _, _, _, _, h => nomatch h
  | k :: ks, u, t, hs, p, hp => by
    have e : f (oth W k u) = f u := by
      unfold oth
      rcases inc_iff.mp t.2.1 with a | b
      · rw [if_pos a, ← hf k (hs k List.mem_cons_self), a]
      · rw [if_neg (fun z => g.ab k t.1 (z.trans b.symm)), hf k (hs k List.mem_cons_self), b]
    rcases List.mem_cons.mp (show p ∈ oth W k u :: stops W _ ks from hp) with rfl | hp
    · exact e
    · rw [trail_head hf g t.2.2 (fun j hj => hs j (List.mem_cons_of_mem _ hj)) p hp, e]
def metOf (W : Web) (x : Nat) : List Nat := (List.range W.n).filter fun p => decide (deg W (tiesOf W x) p ≠ 0)
def piecesOf (W : Web) (x : Nat) : List (List Nat) := ((List.range W.n).filter fun p => decide (heads W (tiesOf W x) p = p)).map fun p => (List.range W.n).filter fun q => decide (heads W (tiesOf W x) q = p)
theorem met_mem (g : W.Good) {x : Nat} (h : IsRing W x) : metOf W x ∈ piecesOf W x := by
  have P := pcs_heads (ks := tiesOf W x) g fun k hk => (mem_tiesOf.mp hk).1
  obtain ⟨u, ks, s, hm⟩ := h
  have hp := ring_perm s hm
  have hall := trail_head P.tie g s.tr fun k hk => (hm k).mp hk
  have hd : ∀ p, deg W (tiesOf W x) p ≠ 0 ↔ p ∈ stops W u ks := fun p => by
    rw [← deg_perm hp, s.deg g]
    split
    · rename_i q; exact ⟨fun _ => q, fun _ => by omega⟩
    · rename_i q; exact ⟨fun z => absurd rfl z, fun z => absurd z q⟩
  have hus : u ∈ stops W u ks := start_mem s.tr s.ne
  have hun : u < W.n := trail_start_lt g s.tr s.ne
  have hL : heads W (tiesOf W x) u ∈ stops W u ks := by
    apply Classical.byContradiction
    intro hn
    have h0 : deg W (tiesOf W x) (heads W (tiesOf W x) u) = 0 := Classical.byContradiction fun z => hn ((hd _).mp z)
    have ho := (P.out (heads W (tiesOf W x) u) fun k hk => by
      cases q : inc W k (heads W (tiesOf W x) u) with
      | false => rfl
      | true =>
        have : 0 < deg W (tiesOf W x) (heads W (tiesOf W x) u) := deg_pos.mpr ⟨k, hk, q⟩
        omega).2 u rfl
    exact hn (ho ▸ hus)
  unfold piecesOf
  rw [List.mem_map]
  refine ⟨heads W (tiesOf W x) u, List.mem_filter.mpr ⟨List.mem_range.mpr (P.low u hun), decide_eq_true (P.idem u)⟩, ?_⟩
  unfold metOf
  apply List.filter_congr
  intro q hq
  rw [decide_eq_decide]
  constructor
  · intro e
    apply Classical.byContradiction
    intro z
    have h0 : deg W (tiesOf W x) q = 0 := Classical.byContradiction fun y => z y
    have ho := (P.out q fun k hk => by
      cases y : inc W k q with
      | false => rfl
      | true =>
        have : 0 < deg W (tiesOf W x) q := deg_pos.mpr ⟨k, hk, y⟩
        omega).1
    rw [ho] at e
    exact z ((hd q).mpr (e ▸ hL))
  · intro z
    exact hall q ((hd q).mp z)

/-! ### bits counted -/
def oddN (x : Nat) : Bool := if h : x = 0 then false else xor (x % 2 == 1) (oddN (x / 2))
decreasing_by omega
theorem oddN_zero : oddN 0 = false := by unfold oddN; rfl
theorem oddN_pos {x : Nat} (h : x ≠ 0) : oddN x = xor (x % 2 == 1) (oddN (x / 2)) := by
  rw [oddN, dif_neg h]
def bits (m x : Nat) : List Nat := (List.range m).filter fun k => x.testBit k
def parL (xs : List Nat) : Bool := xs.length % 2 == 1
theorem parL_cons (x : Nat) (xs : List Nat) : parL (x :: xs) = !parL xs := by
  unfold parL
  rw [List.length_cons]
  rcases Nat.mod_two_eq_zero_or_one xs.length with h | h
  · rw [h, show (xs.length + 1) % 2 = 1 by omega]; rfl
  · rw [h, show (xs.length + 1) % 2 = 0 by omega]; rfl
theorem bits_succ (m x : Nat) : bits (m + 1) x = (if x.testBit 0 = true then [0] else []) ++ (bits m (x / 2)).map Nat.succ := by
  unfold bits
  rw [List.range_succ_eq_map, List.filter_cons, List.filter_map]
  have e : ((fun k => x.testBit k) ∘ Nat.succ) = fun k => (x / 2).testBit k := by
    funext k
    show x.testBit (k + 1) = _
    rw [Nat.testBit_succ]
  rw [e]
  split <;> rfl
theorem oddN_bits : ∀ (m : Nat) {x : Nat}, x < 2 ^ m → oddN x = parL (bits m x)
  | 0, x, h => by
    have : x = 0 := by
      have h' : x < 1 := h
      omega
    subst this
    rw [oddN_zero]; rfl
  | m + 1, x, h => by
    have hx : x / 2 < 2 ^ m := by rw [Nat.pow_succ] at h; omega
    have ih := oddN_bits m hx
    have hl : parL ((bits m (x / 2)).map Nat.succ) = parL (bits m (x / 2)) := by unfold parL; rw [List.length_map]
    by_cases h0 : x = 0
    · subst h0
      rw [bits_succ]
      have : oddN 0 = oddN (0 / 2) := rfl
      rw [this, ih]
      show _ = parL ((if Nat.testBit 0 0 = true then [0] else []) ++ (bits m (0 / 2)).map Nat.succ)
      rw [if_neg (by simp)]
      exact hl.symm
    · rw [oddN_pos h0, ih, bits_succ, Nat.testBit_zero]
      rcases Nat.mod_two_eq_zero_or_one x with e | e
      · rw [e]
        show xor false _ = parL ([] ++ (bits m (x / 2)).map Nat.succ)
        rw [Bool.false_xor]; exact hl.symm
      · rw [e]
        show xor true _ = parL (0 :: (bits m (x / 2)).map Nat.succ)
        rw [parL_cons, hl, Bool.true_xor]
theorem par_bits (ks : List Nat) : par M ks = parL (ks.filter fun k => M.testBit k) := by
  induction ks with
  | nil => rfl
  | cons k ks ih =>
    rw [List.filter_cons]
    show xor (M.testBit k) (par M ks) = _
    cases h : M.testBit k with
    | true => rw [if_pos rfl, parL_cons, ih, Bool.true_xor]
    | false => rw [if_neg (by decide), ih, Bool.false_xor]
theorem bits_and (m x : Nat) : bits m (x &&& M) = (bits m x).filter fun k => M.testBit k := by
  unfold bits
  rw [List.filter_filter]
  apply List.filter_congr
  intro k _
  rw [Nat.testBit_and, Bool.and_comm]
theorem odd_common (x : Nat) : parL (bits W.m (x &&& M)) = oddOf W M x := by
  rw [bits_and]
  unfold oddOf
  rw [par_bits]
  rfl
theorem oddN_common {x : Nat} (hx : x < 2 ^ W.m) : oddN (x &&& M) = oddOf W M x := by
  rw [oddN_bits W.m (Nat.lt_of_le_of_lt Nat.and_le_left hx), odd_common]
end
end RB
/-! RBX: rules of my own: enumerate over a tuple, a list's item as += reads it, rules with the written part told. -/
namespace RBX
open PySem PySem.Spec PyProof.Rows L2 Evl

/-! ### enumerate(t), t a tuple: how it begins -/
/-- enumerate's own cell over the iterator j, at the count c -/
abbrev enumObj (j : Addr) (c : Int) : Obj := { cls := .type "enumerate", data := .fields #[.none, .bool false, .ref j, rawInt c, .none, .none] }
theorem makes_enum {val : Value} {ob : Obj} {G : Heap → Prop} (B : Begins val ob G) :
    Meets (Builtin.«enumerate.__new__» ⟨[.type "enumerate", val], []⟩) (fun _ R s => G s.heap ∧ R (.ok (.ret (.ref (s.heap.push ob).objs.size))) { s with heap := (s.heap.push ob).push (enumObj s.heap.objs.size 0) }) := by
  refine .of_wp fun p0 w0 A0 R0 s0 both => ?_
  obtain ⟨hp0, g0, d0, tk0, os0⟩ := s0
  have isub := sub_enumerate
  have start : ∀ {A1 : Around} {E1 Q1 : Value → Shared → Prop}, Q1 (.ref hp0.objs.size) ⟨hp0.push ob, g0, d0, tk0, os0⟩ → wpAny (model p0 w0) A1 (pyIter val) Q1 E1 ⟨hp0, g0, d0, tk0, os0⟩ := fun got =>
    B.iter p0 w0 _ _ ⟨hp0, g0, d0, tk0, os0⟩ _ both.1 got
  wp_walk using start
  refine wpAny_stack_any fun cs => ?_
  refine wpAny_pure ?_
  split
  · rename_i k _ _ _ _ _
    cases k == Value.type "enumerate" <;> (wp_walk using start; exact ⟨_, rfl, both.2⟩)
  · wp_walk using start
    exact ⟨_, rfl, both.2⟩
theorem enum_one {prog : Program} {w : World} {A : Around} {E Q : Value → Shared → Prop} {s : Shared} {val : Value} {ob : Obj} {G : Heap → Prop} (B : Begins val ob G) (hG : G s.heap)
    (go : ∀ h2, h2.get? (s.heap.objs.size + 1) = some (enumObj s.heap.objs.size 0) → h2.get? s.heap.objs.size = some ob → (∀ c u, s.heap.get? c = some u → h2.get? c = some u) → Q (.ref (s.heap.objs.size + 1)) { s with heap := h2 }) :
    wpAny (model prog w) A (call (.type "enumerate") [val]) Q E s := by
  have one : (s.heap.push ob).objs.size = s.heap.objs.size + 1 := Heap.size_push _ _
  have top : ((s.heap.push ob).push (enumObj s.heap.objs.size 0)).get? (s.heap.objs.size + 1) = some (enumObj s.heap.objs.size 0) := one ▸ Heap.get?_push_size (s.heap.push ob) rfl
  have made := makes_enum B
  refine callType_new F.called_enumerate (by decide) (F.typeCall_enumerate_1 val)
    (F.newCall_enumerate_1 val) (fun o1 => F.args_object_init_2 o1 val) F.entry_enumerate_new made ⟨hG, ?_⟩
  rw [one]
  exact ⟨⟨_, top, rfl⟩, go _ top (Heap.get?_push_of_some _ (Heap.get?_push_size _ B.free)) fun c u hu => Heap.get?_push_of_some _ (Heap.get?_push_of_some _ hu)⟩
/-! ### its turns -/
/-- enumerate's cell e, over the tuple iterator j of the tuple a, ahead of turn n -/
structure AtTurn (a e j : Addr) (n : Nat) (h : Heap) : Prop where
  cell : ∃ held, IsEnum h e j ((n : Nat) : Int) held
  walk : h.IsTupleIter j a n
  ej : e ≠ j
  aj : a ≠ j
  ea : e ≠ a
theorem AtTurn.both {a e j : Addr} {n : Nat} {h : Heap} (t : AtTurn a e j n h) {c : Addr} (hc : c ∈ [e, j]) : ∃ u, h.get? c = some u ∧ ∀ v, u.data ≠ .cell v := by
  obtain ⟨held, h1⟩ := t.cell
  obtain ⟨u2, h2, _, h3⟩ := t.walk
  simp only [List.mem_cons, List.not_mem_nil, or_false] at hc
  rcases hc with hc | hc <;> subst hc
  · exact ⟨_, h1, fun v => by simp⟩
  · exact ⟨u2, h2, fun v => by rw [h3]; simp⟩
theorem AtTurn.lt {a e j : Addr} {n : Nat} {h : Heap} (t : AtTurn a e j n h) {c : Addr} (hc : c ∈ [e, j]) : c < h.objs.size := let ⟨_, hu, _⟩ := t.both hc; Heap.lt_size hu
/-- the tuple at a as it stands at each turn, each item in a new pair -/
def IteT (K : PySem.W.Frag) (a : Addr) : It where
  go := fun n H => ∃ (xs : List V) (x : V), SqT K H a xs ∧ xs[n]? = some x
  yld := fun n H v H' => ∃ p x, v = .ref p ∧ H p = none ∧ H' = upd H p (.tup [.int (n : Nat), x]) ∧ ∀ xs, SqT K H a xs → xs[n]? = some x
  stop := fun n H => ∃ xs : List V, SqT K H a xs ∧ xs.length = n
theorem turn_enumT {P : Program} {w : World} {K : PySem.W.Frag} {elts : List Expr} {kk : Nat} {tpos : Pos} (a e j : Addr) : Turn P w K (.Tuple elts kk tpos) (IteT K a) [e, j] e (AtTurn a e j) where
  mem := List.mem_cons_self
  obj := fun _ _ t _ hc => t.both hc
  keep := fun n h1 h2 t stay => by
    obtain ⟨held, hcell⟩ := t.cell
    exact ⟨⟨held, stay e List.mem_cons_self _ hcell⟩, t.walk.at fun u hu => stay j (by simp) u hu, t.ej, t.aj, t.ea⟩
  item := by
    rintro X rfl rfl rfl calm n pins s σ H E inv fresh t ⟨xs, x, hxs, hx⟩
    obtain ⟨us, rel, tup, _⟩ := inv.tuple hxs
    obtain ⟨u, hu, ru⟩ := rel.get hx
    obtain ⟨held, hcell⟩ := t.cell
    have dr := Draws.tuple (prog := X.prog) (w := X.w) (A := X.A.in1) (inv.ok.hd calm) j a t.aj us.toArray
    have small : n < us.toArray.size := by
      have b := (List.getElem?_eq_some_iff.mp hx).1
      have l := rel.length
      simp only [List.size_toArray]
      omega
    refine wpAny_pyNext_enum_itemD dr hcell ⟨t.walk, tup⟩ small t.ej (by simp [t.ej, t.ea]) fun got h1 tk hgot hout hnext hpair _ others => ?_
    have same : got = u := by
      have : us.toArray[n]? = some u := by simpa using hu
      exact Option.some.inj (hgot.symm.trans this)
    subst same
    refine ⟨_, rfl, wpAny_letOwnedTupleGo_enum (s := { s with heap := h1, toks := tk + 1 }) hout fun h2 hcell2 but => ?_⟩
    have fr : s.heap.objs.size ≠ e := fun z => Nat.lt_irrefl _ (z ▸ t.lt (c := e) List.mem_cons_self)
    have pair2 : h2.get? s.heap.objs.size = some { cls := .type "tuple", data := .seq #[.int n tk, got] } := by rw [but.2 _ fr]; exact hpair
    have good : ObjOk X.prog X.w (upd H s.heap.objs.size (.tup [.int (n : Nat), x])) h2 s.heap.objs.size (.tup [.int (n : Nat), x]) :=
      ⟨by show 2 ≤ sizeLine; decide, _, .cons ⟨tk, rfl⟩ (.cons ru .nil), _, pair2, rfl, _, rfl⟩
    have keeps : ∀ c u', c ∉ [e, j] → s.heap.get? c = some u' → h2.get? c = some u' := fun c u' hc hu' => by
      simp only [List.mem_cons, List.not_mem_nil, or_false, not_or] at hc
      rw [but.2 c hc.1]
      exact others c u' hc.1 hc.2 hu'
    refine ⟨.ref s.heap.objs.size, _, inv.turnedNew (t' := tk + 1) (ch := [e, j]) keeps fresh (Nat.le_refl _) good, rfl, ⟨_, x, rfl, inv.hok.fresh (Nat.le_refl _), rfl, fun zs hz => by rw [inv.tuple_inj hz hxs]; exact hx⟩, ⟨⟨got, ?_⟩, hnext.1.at fun u' hu' => (but.2 j (Ne.symm t.ej)).trans hu', t.ej, t.aj, t.ea⟩, fun c hc => ?_⟩
    · rw [Int.natCast_add]
      exact hcell2
    · have ne : c ≠ s.heap.objs.size := Nat.ne_of_lt (t.lt hc)
      rw [upd_ne ne]
      exact (fresh c hc).1
  done := by
    rintro X rfl rfl rfl calm n pins s σ H E inv fresh t ⟨xs, hxs, hlen⟩
    obtain ⟨us, rel, tup, _⟩ := inv.tuple hxs
    obtain ⟨held, hcell⟩ := t.cell
    obtain ⟨q0, q1, _, q3, q4, q5⟩ := fresh j (by simp)
    have dr := Draws.tuple (prog := X.prog) (w := X.w) (A := X.A.in1) (inv.ok.hd calm) j a t.aj us.toArray
    have full : us.toArray.size = n := by
      have l := rel.length
      simp only [List.size_toArray]
      omega
    have walk := t.walk
    rw [← full] at walk
    exact wpAny_pyNext_enum_endD dr hcell ⟨walk, tup⟩ fun h1 but => ⟨rfl, inv.turned (t' := s.toks) (fun c u' hc hu' => but c u' hc hu') q0 q1 q3 q4 q5⟩
  self := fun _ _ _ _ _ t got => let ⟨_, hcell⟩ := t.cell; wpAny_pyIter_enum hcell got
def iEnumT (K : PySem.W.Frag) (ta : TA) : TI := fun σ H R => ta σ H fun vs H1 => ∃ a xs, vs = [.ref a] ∧ SqT K H1 a xs ∧ R (IteT K a) H1
theorem pi_enumT {X : Cx} {arg : Expr} {ta : TA} {p pos tpos : Pos} {elts : List Expr} {kk : Nat} (glob : Gl X "enumerate") (free : X.mg "enumerate" = none) (ha : PA X [arg] ta) (each : starEach [arg] X.env = [(false, eval arg X.env)] := by rfl) :
    PI X (.Tuple elts kk tpos) (.Call (.Name "enumerate" p) [arg] [] pos) (iEnumT X.K ta) where
  run := fun pins s0 σ H R I h => by
    have args := ha.run pos pins s0 σ H _ I h
    refine Call_ (ld_blt I glob free boot_enumerate (PyProof.Rows.callWith_type1 (thn args fun us s1 got => ?_) each rfl))
    obtain ⟨vs, H1, I1, rel, a, xs, rfl, hxs, hR⟩ := got
    cases rel with
    | cons ra rest =>
      cases rest
      cases ra
      obtain ⟨ws, rw', tup, _⟩ := I1.tuple hxs
      have below : a < s1.heap.objs.size := tup.lt
      refine enum_one (begins_tuple a ws.toArray) tup fun h2 hcell hwalk stays => wpAny_pyIter_enum hcell ?_
      have ok : ∀ c ∈ [s1.heap.objs.size + 1, s1.heap.objs.size], FpOk X pins H1 c := fun c hc => by
        have up : s1.heap.objs.size ≤ c := by
          simp only [List.mem_cons, List.not_mem_nil, or_false] at hc
          rcases hc with hc | hc
          · rw [hc]; exact Nat.le_succ _
          · exact Nat.le_of_eq hc.symm
        exact I1.fpOk up (I1.hok.fresh up)
      exact ⟨_, _, _, _, H1, rfl, I1.kept (t' := s1.toks) stays, turn_enumT a _ _, ⟨⟨.none, hcell⟩, ⟨_, hwalk, rfl, rfl⟩, Nat.succ_ne_self _, Nat.ne_of_lt below, (Nat.ne_of_lt (Nat.lt_succ_of_lt below)).symm⟩, ok, hR⟩
theorem walk_enumT {K : PySem.W.Frag} {a : Addr} {xs : List V} : Walk (IteT K a) xs.length (fun H => SqT K H a xs) (YPair (fun n => some (.int (n : Nat))) (fun n => xs[n]?)) where
  goes := fun n _ hn hq => ⟨xs, xs[n], hq, List.getElem?_eq_getElem hn⟩
  stops := fun _ hq => ⟨xs, hq, rfl⟩
  yields := fun n H v H' _ hq ⟨p, x, e1, e2, e3, e4⟩ => ⟨p, .int (n : Nat), x, e1, e2, e3, rfl, e4 xs hq⟩
/-! ### a list's item at a place from 0 on, as += reads it -/
def rGetL (K : PySem.W.Frag) : V → V → Hp → VK → Prop := fun x y H Q => ∃ (p : Addr) (xs : List V) (k : Nat) (v : V), x = .ref p ∧ y = .int (k : Int) ∧ SqL K H p xs ∧ xs[k]? = some v ∧ Q v H
theorem get_list {X : Cx} : PGet X (rGetL X.K) := fun pins st σ H x y xv yv Q inv rx ry ⟨p, xs, k, v, ex, ey, hxs, hk, hQ⟩ => by
  subst ex ey
  cases rx
  obtain ⟨tok, rfl⟩ := ry
  obtain ⟨us, rel, plain, _⟩ := inv.list hxs
  obtain ⟨u, hu, ru⟩ := rel.get hk
  have b := (List.getElem?_eq_some_iff.mp hk).1
  have hz := (inv.list hxs).choose_spec.2.2
  have line := line63
  exact wpAny_getItem_list plain.isList (Int.natCast_nonneg k) (by omega) (by simpa using hu) ⟨v, H, inv, ru, hQ⟩
/-! ### the rules with the written part told: so they serve within comprehensions, too -/
section
variable {X : Cx} (K : PySem.W.Frag)
theorem ix_tupK (h : X.K = K := by rfl) : IxR X (rIxT K) := by subst h; exact ix_tup
theorem ix_listK (h : X.K = K := by rfl) : IxR X (rIxL K) := by subst h; exact ix_list
theorem get_listK (h : X.K = K := by rfl) : PGet X (rGetL K) := by subst h; exact get_list
theorem sl_tupK (h : X.K = K := by rfl) : SlR X (rSlT K) := by subst h; exact sl_tup
theorem sl_listK (h : X.K = K := by rfl) : SlR X (rSlL K) := by subst h; exact sl_list
theorem len_seqK (h : X.K = K := by rfl) : CallR X (.builtin "len") (rLenS K) := by subst h; exact call_len_seq
theorem list_ofK (h : X.K = K := by rfl) : CallR X (.type "list") (rListS K) := by subst h; exact call_list_of
def rTupS (K : PySem.W.Frag) : List V → Hp → VK → Prop := fun xs H Q => ∃ p ys, xs = [.ref p] ∧ ((SqL K H p ys ∧ ∀ l, H l = none → Q (.ref l) (upd H l (.tup ys))) ∨ (SqT K H p ys ∧ Q (.ref p) H))
theorem tuple_ofK (h : X.K = K := by rfl) : CallR X (.type "tuple") (rTupS K) := by subst h; exact call_tuple_of
theorem sumK (h : X.K = K := by rfl) (hc : X.calm = true := by rfl) : CallR X (.builtin "sum") (rSum K) := by subst h; exact cr_sum hc
theorem in_seqK (h : X.K = K := by rfl) : OpR X (compareOp .In) (rIn K false) := by subst h; exact op_in_seq
theorem notIn_seqK (h : X.K = K := by rfl) : OpR X (compareOp .NotIn) (rIn K true) := by subst h; exact op_notIn_seq
theorem inDK (hu : X.A.units + 65 < cLine) (h : X.K = K := by rfl) : OpR X (compareOp .In) (rInD K) := by subst h; exact op_inD hu
theorem eqDK (hu : X.A.units + 64 < cLine) (h : X.K = K := by rfl) : OpR X (compareOp .Eq) (rEqD K) := by subst h; exact op_eqD hu
theorem neDK (hu : X.A.units + 64 < cLine) (h : X.K = K := by rfl) : OpR X (compareOp .NotEq) (rNeD K) := by subst h; exact op_neD hu
theorem pi_listK {tg l : Expr} {tl : TE} (hl : PE X l tl) (h : X.K = K := by rfl) : PI X tg l (iList K tl) := by subst h; exact pi_list hl
theorem pi_tupK {tg l : Expr} {tl : TE} (hl : PE X l tl) (h : X.K = K := by rfl) : PI X tg l (iTup K tl) := by subst h; exact pi_tup hl
theorem pi_enumK {e : Expr} {ta : TA} {p pos tpos : Pos} {elts : List Expr} {kk : Nat} (hg : Gl X "enumerate") (hm : X.mg "enumerate" = none) (ha : PA X [e] ta) (hs : starEach [e] X.env = [(false, eval e X.env)] := by rfl) (h : X.K = K := by rfl) :
    PI X (.Tuple elts kk tpos) (.Call (.Name "enumerate" p) [e] [] pos) (iEnumT K ta) := by subst h; exact pi_enumT hg hm ha hs
theorem pe_bmK {e : Expr} {T : String} {r : V → List V → Hp → VK → Prop} {to : TE} {t : TA} (p : PE X e (tBM X.K T r to t)) (h : X.K = K := by rfl) : PE X e (tBM K T r to t) := by subst h; exact p
theorem pg_tupK {tg : Expr} {n : Nat} {t : TGs} (p : PG X tg (gTup X.K n t)) (h : X.K = K := by rfl) : PG X tg (gTup K n t) := by subst h; exact p
end
end RBX
/-! RBW0: the text, calls, data. -/
namespace RBW
open PySem PySem.Spec PyProof.Rows L2 Evl RBX
/-! ### the text -/
def topS (i : Nat) : Stmt := PySem.Challenge.pw_ringbase_k24_whole_what_stands_is_right.main.body.getD i (.Pass ⟨0, 0, 0, 0⟩)
abbrev s_ties_in : Stmt := topS 5
abbrev N_ties_in : List Str := ["some", "found", "tie"]
theorem sc_ties_in : FnScope N_ties_in ["some"] (defScope s_ties_in) := ⟨rfl, rfl, rfl, by decide +kernel, rfl, by decide +kernel, by decide +kernel⟩
abbrev s_all_ties : Stmt := topS 6
abbrev N_all_ties : List Str := ["web"]
theorem sc_all_ties : FnScope N_all_ties ["web"] (defScope s_all_ties) := ⟨rfl, rfl, rfl, by decide +kernel, rfl, by decide +kernel, by decide +kernel⟩
abbrev s_look_set : Stmt := topS 7
abbrev N_look_set : List Str := ["web", "some"]
theorem sc_look_set : FnScope N_look_set ["web", "some"] (defScope s_look_set) := ⟨rfl, rfl, rfl, by decide +kernel, rfl, by decide +kernel, by decide +kernel⟩
abbrev s_length_of : Stmt := topS 8
abbrev N_length_of : List Str := ["web", "some", "tie"]
theorem sc_length_of : FnScope N_length_of ["web", "some"] (defScope s_length_of) := ⟨rfl, rfl, rfl, by decide +kernel, rfl, by decide +kernel, by decide +kernel⟩
abbrev s_odd_points : Stmt := topS 9
abbrev N_odd_points : List Str := ["web", "some", "ends", "tie", "point"]
theorem sc_odd_points : FnScope N_odd_points ["web", "some"] (defScope s_odd_points) := ⟨rfl, rfl, rfl, by decide +kernel, rfl, by decide +kernel, by decide +kernel⟩
abbrev s_pieces : Stmt := topS 10
abbrev N_pieces : List Str := ["web", "some", "least", "tie", "one", "other", "length", "low", "high", "found", "point", "number"]
theorem sc_pieces : FnScope N_pieces ["web", "some"] (defScope s_pieces) := ⟨rfl, rfl, rfl, by decide +kernel, rfl, by decide +kernel, by decide +kernel⟩
abbrev s_is_even : Stmt := topS 12
abbrev N_is_even : List Str := ["web", "some"]
theorem sc_is_even : FnScope N_is_even ["web", "some"] (defScope s_is_even) := ⟨rfl, rfl, rfl, by decide +kernel, rfl, by decide +kernel, by decide +kernel⟩
abbrev s_ties_at : Stmt := topS 14
abbrev N_ties_at : List Str := ["web", "some", "point", "tie"]
theorem sc_ties_at : FnScope N_ties_at ["web", "some", "point"] (defScope s_ties_at) := ⟨rfl, rfl, rfl, by decide +kernel, rfl, by decide +kernel, by decide +kernel⟩
abbrev s_is_ring : Stmt := topS 15
abbrev N_is_ring : List Str := ["web", "some", "met", "point"]
theorem sc_is_ring : FnScope N_is_ring ["web", "some"] (defScope s_is_ring) := ⟨rfl, rfl, rfl, by decide +kernel, rfl, by decide +kernel, by decide +kernel⟩
abbrev s_common : Stmt := topS 17
abbrev N_common : List Str := ["one", "other"]
theorem sc_common : FnScope N_common ["one", "other"] (defScope s_common) := ⟨rfl, rfl, rfl, by decide +kernel, rfl, by decide +kernel, by decide +kernel⟩
abbrev s_is_side : Stmt := topS 18
abbrev N_is_side : List Str := ["web", "side", "k"]
theorem sc_is_side : FnScope N_is_side ["web", "side"] (defScope s_is_side) := ⟨rfl, rfl, rfl, by decide +kernel, rfl, by decide +kernel, by decide +kernel⟩
abbrev s_cut_of : Stmt := topS 19
abbrev N_cut_of : List Str := ["web", "side", "some", "tie", "parts"]
theorem sc_cut_of : FnScope N_cut_of ["web", "side"] (defScope s_cut_of) := ⟨rfl, rfl, rfl, by decide +kernel, rfl, by decide +kernel, by decide +kernel⟩
abbrev s_side_judged : Stmt := topS 20
abbrev N_side_judged : List Str := ["web", "some", "answer", "word", "paper"]
theorem sc_side_judged : FnScope N_side_judged ["web", "some", "answer"] (defScope s_side_judged) := ⟨rfl, rfl, rfl, by decide +kernel, rfl, by decide +kernel, by decide +kernel⟩
abbrev s_pair_stands : Stmt := topS 22
abbrev N_pair_stands : List Str := ["one", "other", "length"]
theorem sc_pair_stands : FnScope N_pair_stands ["one", "other", "length"] (defScope s_pair_stands) := ⟨rfl, rfl, rfl, by decide +kernel, rfl, by decide +kernel, by decide +kernel⟩
abbrev s_worths_stand : Stmt := topS 23
abbrev N_worths_stand : List Str := ["web", "marks", "worths", "point", "tie", "one", "other", "length", "bit", "parity"]
theorem sc_worths_stand : FnScope N_worths_stand ["web", "marks", "worths"] (defScope s_worths_stand) := ⟨rfl, rfl, rfl, by decide +kernel, rfl, by decide +kernel, by decide +kernel⟩
abbrev s_ring_stands : Stmt := topS 24
abbrev N_ring_stands : List Str := ["web", "marks", "ring", "worths", "far", "point", "back"]
theorem sc_ring_stands : FnScope N_ring_stands ["web", "marks", "ring", "worths"] (defScope s_ring_stands) := ⟨rfl, rfl, rfl, by decide +kernel, rfl, by decide +kernel, by decide +kernel⟩
abbrev s_odd_judged : Stmt := topS 25
abbrev N_odd_judged : List Str := ["web", "marks", "answer"]
theorem sc_odd_judged : FnScope N_odd_judged ["web", "marks", "answer"] (defScope s_odd_judged) := ⟨rfl, rfl, rfl, by decide +kernel, rfl, by decide +kernel, by decide +kernel⟩
abbrev s_law_cell_at : Stmt := topS 27
abbrev N_law_cell_at : List Str := ["script", "k"]
theorem sc_law_cell_at : FnScope N_law_cell_at ["script", "k"] (defScope s_law_cell_at) := ⟨rfl, rfl, rfl, by decide +kernel, rfl, by decide +kernel, by decide +kernel⟩
abbrev s_law_left : Stmt := topS 28
abbrev N_law_left : List Str := ["cell", "k", "way", "stir"]
theorem sc_law_left : FnScope N_law_left ["cell", "k", "way"] (defScope s_law_left) := ⟨rfl, rfl, rfl, by decide +kernel, rfl, by decide +kernel, by decide +kernel⟩
abbrev s_law_tie : Stmt := topS 29
abbrev N_law_tie : List Str := ["left", "points", "mode", "one", "other"]
theorem sc_law_tie : FnScope N_law_tie ["left", "points", "mode"] (defScope s_law_tie) := ⟨rfl, rfl, rfl, by decide +kernel, rfl, by decide +kernel, by decide +kernel⟩
abbrev s_law_web : Stmt := topS 30
abbrev N_law_web : List Str := ["script", "most_points", "most_ties", "way", "left", "points", "mode", "cells", "k", "ties"]
theorem sc_law_web : FnScope N_law_web ["script", "most_points", "most_ties"] (defScope s_law_web) := ⟨rfl, rfl, rfl, by decide +kernel, rfl, by decide +kernel, by decide +kernel⟩
abbrev s_law_walk : Stmt := topS 31
abbrev N_law_walk : List Str := ["web", "some", "ends", "ties", "k", "start", "at", "walk", "tie", "point", "row"]
theorem sc_law_walk : FnScope N_law_walk ["web", "some"] (defScope s_law_walk) := ⟨rfl, rfl, rfl, by decide +kernel, rfl, by decide +kernel, by decide +kernel⟩
abbrev s_law_least : Stmt := topS 32
abbrev N_law_least : List Str := ["one", "more"]
theorem sc_law_least : FnScope N_law_least ["one", "more"] (defScope s_law_least) := ⟨rfl, rfl, rfl, by decide +kernel, rfl, by decide +kernel, by decide +kernel⟩
abbrev s_law_worths : Stmt := topS 33
abbrev N_law_worths : List Str := ["web", "marks", "point", "far", "turn", "k", "one", "other", "length", "bit", "a", "b", "s", "pair"]
theorem sc_law_worths : FnScope N_law_worths ["web", "marks", "point"] (defScope s_law_worths) := ⟨rfl, rfl, rfl, by decide +kernel, rfl, by decide +kernel, by decide +kernel⟩
abbrev s_law_length : Stmt := topS 34
abbrev N_law_length : List Str := ["web", "some", "k"]
theorem sc_law_length : FnScope N_law_length ["web", "some"] (defScope s_law_length) := ⟨rfl, rfl, rfl, by decide +kernel, rfl, by decide +kernel, by decide +kernel⟩
abbrev s_law_odd : Stmt := topS 35
abbrev N_law_odd : List Str := ["number", "odd"]
theorem sc_law_odd : FnScope N_law_odd ["number"] (defScope s_law_odd) := ⟨rfl, rfl, rfl, by decide +kernel, rfl, by decide +kernel, by decide +kernel⟩
abbrev s_law_nearest : Stmt := topS 36
abbrev N_law_nearest : List Str := ["web", "marks", "least", "some"]
theorem sc_law_nearest : FnScope N_law_nearest ["web", "marks"] (defScope s_law_nearest) := ⟨rfl, rfl, rfl, by decide +kernel, rfl, by decide +kernel, by decide +kernel⟩
abbrev s_law_cut : Stmt := topS 37
abbrev N_law_cut : List Str := ["web", "side", "made", "k"]
theorem sc_law_cut : FnScope N_law_cut ["web", "side"] (defScope s_law_cut) := ⟨rfl, rfl, rfl, by decide +kernel, rfl, by decide +kernel, by decide +kernel⟩
abbrev s_law_lowered : Stmt := topS 39
abbrev N_law_lowered : List Str := ["web", "worths", "left", "made", "point", "row", "other", "less", "pair", "s"]
theorem sc_law_lowered : FnScope N_law_lowered ["web", "worths", "left"] (defScope s_law_lowered) := ⟨rfl, rfl, rfl, by decide +kernel, rfl, by decide +kernel, by decide +kernel⟩
abbrev s_law_any : Stmt := topS 40
abbrev N_law_any : List Str := ["web", "left", "made", "point", "row", "other", "stir", "odd"]
theorem sc_law_any : FnScope N_law_any ["web", "left"] (defScope s_law_any) := ⟨rfl, rfl, rfl, by decide +kernel, rfl, by decide +kernel, by decide +kernel⟩
abbrev s_law_raised : Stmt := topS 41
abbrev N_law_raised : List Str := ["worths", "more", "pair", "row"]
theorem sc_law_raised : FnScope N_law_raised ["worths", "more"] (defScope s_law_raised) := ⟨rfl, rfl, rfl, by decide +kernel, rfl, by decide +kernel, by decide +kernel⟩
abbrev s_law_tried : Stmt := topS 42
abbrev N_law_tried : List Str := ["web", "worths", "script", "tried", "k", "cell"]
theorem sc_law_tried : FnScope N_law_tried ["web", "worths", "script"] (defScope s_law_tried) := ⟨rfl, rfl, rfl, by decide +kernel, rfl, by decide +kernel, by decide +kernel⟩
abbrev s_law : Stmt := topS 43
abbrev N_law : List Str := ["script", "web", "left", "marks", "worths", "least", "rings", "tried", "ring", "near", "some", "k", "side", "point"]
theorem sc_law : FnScope N_law ["script"] (defScope s_law) := ⟨rfl, rfl, rfl, by decide +kernel, rfl, by decide +kernel, by decide +kernel⟩
/-! ### built-ins, calls -/
structure Blt (mg : Str → Option Value) : Prop where
  len : mg "len" = none
  range : mg "range" = none
  sum : mg "sum" = none
  list : mg "list" = none
  min : mg "min" = none
  max : mg "max" = none
  enumerate : mg "enumerate" = none
  abs : mg "abs" = none
  tuple : mg "tuple" = none
  int : mg "int" = none
/-- a def of the text, with what it promises -/
def Def (P : Program) (w : World) (K : PySem.W.Frag) (mg : Str → Option Value) (base : Heap) (x : Str) (k : Nat) (ps : List Str) (sp : Sp) : Prop :=
  ∃ (f : Addr) (fd : FuncData), FnOk P w K mg base CX0 k f fd ps sp ∧ mg x = some (.ref f) ∧ PySem.W.keepIn K (.ref f) = true ∧ Binds K fd ps []
theorem pe_callD {X : Cx} {x : Str} {k j : Nat} {ps : List Str} {sp : Sp} {e : Expr} {es : List Expr} {t : TA} {p pos : Pos} (D : Def X.prog X.w X.K X.mg X.base x k ps sp) (hr : Room j X.A) (hj : k ≤ j) (hg : Gl X x) (ha : PA X (e :: es) t)
    (plain : (x == ("__debug__" : Str)) = false := by decide) (each : starEach (e :: es) X.env = (false, eval e X.env) :: starEach es X.env := by rfl)
    (nostar : (backTo pos (starEach es X.env)).any (·.1) = false := by rfl) : PE X (.Call (.Name x p) (e :: es) [] pos) (tCall sp [] E0 t) := by
  obtain ⟨f, fd, F, hm, hk, hb⟩ := D
  exact pe_call F (hr.mono hj) hg hm hk hb .nil pass0 ha plain each nostar
theorem room65 {A : Around} {k : Nat} (hr : Room k A) : A.units + 65 < cLine := by have := hr.un; omega
/-! ### data -/
/-- an int, of a natural number -/
abbrev nV (k : Nat) : V := .int (k : Int)
/-- None or an int -/
def oV : Option Int → V
  | none => .non
  | some i => .int i
structure IsTie (K : PySem.W.Frag) (H : Hp) (r : Addr) (t : RB.Tie) : Prop where
  at' : SqT K H r [nV t.a, nV t.b, .int t.l]
/-- a web at v -/
def IsWeb (K : PySem.W.Frag) (H : Hp) (v : V) (W : RB.Web) : Prop :=
  ∃ (p q : Addr) (rs : List Addr), v = .ref p ∧ SqT K H p [nV W.n, .ref q] ∧ SqT K H q (rs.map V.ref) ∧ rs.length = W.m ∧ ∀ (k : Nat), k < W.m → ∃ r, rs[k]? = some r ∧ SqT K H r [nV (W.a k), nV (W.b k), .int (W.l k)]
theorem IsWeb.mono {K : PySem.W.Frag} {H H' : Hp} {v : V} {W : RB.Web} (e : Ex H H') (h : IsWeb K H v W) : IsWeb K H' v W := by
  obtain ⟨p, q, rs, h1, h2, h3, h4, h5⟩ := h
  exact ⟨p, q, rs, h1, ex_t e h2, ex_t e h3, h4, fun k hk => let ⟨r, a, b⟩ := h5 k hk; ⟨r, a, ex_t e b⟩⟩
section
variable {K : PySem.W.Frag} {σ : L2.St} {H : Hp} {tw tk : TE} {v : V} {W : RB.Web} {k : Nat}
theorem ev_n (hw : IsWeb K H v W) (h : Ev tw σ H v) : Ev (tOp (rIxT K) tw (tC (.int 0))) σ H (nV W.n) := by
  obtain ⟨p, q, rs, rfl, h2, h3, h4, h5⟩ := hw
  exact ev_op h ev_c (rv_ixT h2 (atI_nat (j := 0) rfl))
/-- web[1] -/
theorem ev_ts (hw : IsWeb K H v W) (h : Ev tw σ H v) : ∃ (q : Addr) (rs : List Addr), Ev (tOp (rIxT K) tw (tC (.int 1))) σ H (.ref q) ∧ SqT K H q (rs.map V.ref) ∧ rs.length = W.m ∧ ∀ (k : Nat), k < W.m → ∃ r, rs[k]? = some r ∧ SqT K H r [nV (W.a k), nV (W.b k), .int (W.l k)] := by
  obtain ⟨p, q, rs, rfl, h2, h3, h4, h5⟩ := hw
  exact ⟨q, rs, ev_op h ev_c (rv_ixT h2 (atI_nat (j := 1) rfl)), h3, h4, h5⟩
theorem ev_m (hw : IsWeb K H v W) (h : Ev tw σ H v) : Ev (tCB (rLenS K) (tCons (tOp (rIxT K) tw (tC (.int 1))) tNil)) σ H (nV W.m) := by
  obtain ⟨q, rs, h1, h3, h4, h5⟩ := ev_ts hw h
  rw [← h4]
  refine fun H1 e Q k => h1 H1 e _ fun H2 e2 => ⟨q, _, rfl, .inr (ex_t (e.trans e2) h3), ?_⟩
  rw [List.length_map]
  exact k H2 e2
theorem ev_tie (hw : IsWeb K H v W) (h : Ev tw σ H v) (hk : Ev tk σ H (nV k)) (hm : k < W.m) : ∃ r, Ev (tOp (rIxT K) (tOp (rIxT K) tw (tC (.int 1))) tk) σ H (.ref r) ∧ SqT K H r [nV (W.a k), nV (W.b k), .int (W.l k)] := by
  obtain ⟨q, rs, h1, h3, h4, h5⟩ := ev_ts hw h
  obtain ⟨r, e, s⟩ := h5 k hm
  exact ⟨r, ev_op h1 hk (rv_ixT h3 (atI_nat (by rw [List.getElem?_map, e]; rfl))), s⟩
theorem ev_a (hw : IsWeb K H v W) (h : Ev tw σ H v) (hk : Ev tk σ H (nV k)) (hm : k < W.m) : Ev (tOp (rIxT K) (tOp (rIxT K) (tOp (rIxT K) tw (tC (.int 1))) tk) (tC (.int 0))) σ H (nV (W.a k)) := by
  obtain ⟨r, h1, h2⟩ := ev_tie hw h hk hm
  exact ev_op h1 ev_c (rv_ixT h2 (atI_nat (j := 0) rfl))
theorem ev_b (hw : IsWeb K H v W) (h : Ev tw σ H v) (hk : Ev tk σ H (nV k)) (hm : k < W.m) : Ev (tOp (rIxT K) (tOp (rIxT K) (tOp (rIxT K) tw (tC (.int 1))) tk) (tC (.int 1))) σ H (nV (W.b k)) := by
  obtain ⟨r, h1, h2⟩ := ev_tie hw h hk hm
  exact ev_op h1 ev_c (rv_ixT h2 (atI_nat (j := 1) rfl))
theorem ev_l (hw : IsWeb K H v W) (h : Ev tw σ H v) (hk : Ev tk σ H (nV k)) (hm : k < W.m) : Ev (tOp (rIxT K) (tOp (rIxT K) (tOp (rIxT K) tw (tC (.int 1))) tk) (tC (.int 2))) σ H (.int (W.l k)) := by
  obtain ⟨r, h1, h2⟩ := ev_tie hw h hk hm
  exact ev_op h1 ev_c (rv_ixT h2 (atI_nat (j := 2) rfl))
end
/-! ### bits -/
theorem shr_nat (x k : Nat) : (x : Int) / 2 ^ ((k : Int)).toNat = ((x >>> k : Nat) : Int) := by
  rw [Int.toNat_natCast, Nat.shiftRight_eq_div_pow]
  simp
theorem land_one (x k : Nat) : Builtin.bitAnd ((x >>> k : Nat) : Int) 1 = if x.testBit k = true then 1 else 0 := by
  have e := Bits.bitAnd_mask (x := ((x >>> k : Nat) : Int)) 1 (Int.natCast_nonneg _)
  rw [show (2 : Int) ^ 1 - 1 = 1 from rfl] at e
  rw [e, Nat.testBit, Nat.one_and_eq_mod_two]
  rcases Nat.mod_two_eq_zero_or_one (x >>> k) with h | h
  · rw [h, if_neg (by decide)]; omega
  · rw [h, if_pos (by decide)]; omega
section
variable {K : PySem.W.Frag} {σ : L2.St} {H : Hp} {ta tb : TE} {x k : Nat}
/-- some >> tie -/
theorem ev_shr (ha : Ev ta σ H (nV x)) (hb : Ev tb σ H (nV k)) : Ev (tOp (rI (fun _ j => 0 ≤ j) fun i j => .int (i / 2 ^ j.toNat)) ta tb) σ H (nV (x >>> k)) := by
  refine ev_is (ev_op ha hb (rv_I (by omega))) ?_
  show V.int ((x : Int) / 2 ^ ((k : Int)).toNat) = _
  rw [shr_nat]
/-- (some >> tie) & 1 -/
theorem ev_bit (ha : Ev ta σ H (nV x)) (hb : Ev tb σ H (nV k)) : Ev (tOp (rI0 fun i j => .int (Builtin.bitAnd i j)) (tOp (rI (fun _ j => 0 ≤ j) fun i j => .int (i / 2 ^ j.toNat)) ta tb) (tC (.int 1))) σ H (.int (if x.testBit k = true then 1 else 0)) := by
  refine ev_is (ev_op (ev_shr ha hb) ev_c rv_I0) ?_
  show V.int (Builtin.bitAnd ((x >>> k : Nat) : Int) 1) = _
  rw [land_one]
/-- .. == 1, a test -/
theorem et_bit (ha : Ev ta σ H (nV x)) (hb : Ev tb σ H (nV k)) : EvT (tTest (tOp rEq (tOp (rI0 fun i j => .int (Builtin.bitAnd i j)) (tOp (rI (fun _ j => 0 ≤ j) fun i j => .int (i / 2 ^ j.toNat)) ta tb) (tC (.int 1))) (tC (.int 1)))) σ H (x.testBit k) := by
  refine et_test (ev_is (ev_op (ev_bit ha hb) ev_c (rv_eq rfl)) ?_)
  cases x.testBit k <;> rfl
end
theorem land_nat (x y : Nat) : Builtin.bitAnd (x : Int) (y : Int) = ((x &&& y : Nat) : Int) := by
  rw [bitAnd_pp (Int.natCast_nonneg _) (Int.natCast_nonneg _)]
  rfl
theorem ev_shl1 {σ : L2.St} {H : Hp} {tk : TE} {k : Nat} (h : Ev tk σ H (nV k)) (hk : k ≤ 1000) : Ev (tOp (rI CPow fun i j => .int (i * 2 ^ j.toNat)) (tC (.int 1)) tk) σ H (nV (2 ^ k)) := by
  refine ev_is (ev_op ev_c h (rv_I ⟨by omega, by omega, by decide⟩)) ?_
  show V.int (1 * 2 ^ ((k : Int)).toNat) = _
  rw [Int.toNat_natCast, Int.one_mul]
  simp
/-! ### more readings -/
section
variable {K : PySem.W.Frag} {σ : L2.St} {H : Hp} {ta tb te tl : TE} {t : TT}
theorem ev_sumL {ns : List Int} (h : EvL te σ H (ns.map V.int)) : Ev (tCB (rSum K) (tCons te tNil)) σ H (.int ns.sum) := fun H1 e Q q =>
  h H1 e _ fun p H2 _ e2 hp => ⟨p, ns, rfl, sq_of hp, q H2 e2⟩
theorem given_cons (n : Nat) (f : Nat → Bool) (v : Nat → V) : given (n + 1) f v = (if f 0 = true then [v 0] else []) ++ given n (fun i => f (i + 1)) (fun i => v (i + 1)) := by
  unfold given
  rw [List.range_succ_eq_map, List.filter_cons, List.filter_map]
  by_cases h : f 0 = true
  · rw [if_pos h, if_pos h, List.map_cons, List.map_map]; rfl
  · rw [if_neg h, if_neg h, List.map_map]; rfl
theorem given_of {α : Type} (f : α → Bool) (g : α → V) : ∀ ks : List α, given ks.length (fun i => (ks[i]?).elim false f) (fun i => (ks[i]?).elim .non g) = (ks.filter f).map g
  | [] => rfl
  | k :: ks => by
    rw [List.length_cons, given_cons]
    show (if f k = true then [g k] else []) ++ given ks.length (fun i => (ks[i]?).elim false f) (fun i => (ks[i]?).elim .non g) = _
    rw [given_of f g ks, List.filter_cons]
    by_cases h : f k = true
    · rw [if_pos h, if_pos h]; rfl
    · rw [if_neg h, if_neg h]; rfl
/-- [e for x in (a new list) if t] -/
theorem el_lcN {α : Type} {ks : List α} {toV : α → V} {j : Nat} {vs : List Nat} (f : α → Bool) (g : α → V) (h : EvL tl σ H (ks.map toV)) (hz : ks.length ≤ 40000) (hw : ∀ x, wipe ((wipe σ vs).set j (some x)) vs = wipe σ vs)
    (ht : ∀ a H1, Ex H H1 → a ∈ ks → EvT t ((wipe σ vs).set j (some (toV a))) H1 (f a)) (he : ∀ a H1, Ex H H1 → a ∈ ks → f a = true → Ev te ((wipe σ vs).set j (some (toV a))) H1 (g a)) :
    EvL (tLc (iList K tl) (gName j) t te vs) σ H ((ks.filter f).map g) := by
  have := el_lcNL (K := K) (fun i => (ks[i]?).elim false f) (fun i => (ks[i]?).elim .non g) h (by rw [List.length_map]; exact hz) hw (t := t) (te := te) (fun i x H1 e hi => by
    rw [List.getElem?_map] at hi
    cases hk : ks[i]? with
    | none => rw [hk] at hi; cases hi
    | some a =>
      rw [hk] at hi; cases hi
      exact ht a H1 e (List.mem_of_getElem? hk)) (fun i x H1 e hi hf => by
    rw [List.getElem?_map] at hi
    cases hk : ks[i]? with
    | none => rw [hk] at hi; cases hi
    | some a =>
      rw [hk] at hi hf; cases hi
      exact he a H1 e (List.mem_of_getElem? hk) hf)
  rw [List.length_map, given_of] at this
  exact this
/-- .. a list that stands -/
theorem el_lcS {α : Type} {ks : List α} {toV : α → V} {a : Addr} {j : Nat} {vs : List Nat} (f : α → Bool) (g : α → V) (h : Ev tl σ H (.ref a)) (hx : SqL K H a (ks.map toV)) (hz : ks.length ≤ 40000) (hw : ∀ x, wipe ((wipe σ vs).set j (some x)) vs = wipe σ vs)
    (ht : ∀ a H1, Ex H H1 → a ∈ ks → EvT t ((wipe σ vs).set j (some (toV a))) H1 (f a)) (he : ∀ a H1, Ex H H1 → a ∈ ks → f a = true → Ev te ((wipe σ vs).set j (some (toV a))) H1 (g a)) :
    EvL (tLc (iList K tl) (gName j) t te vs) σ H ((ks.filter f).map g) := by
  have := el_lcL (K := K) (fun i => (ks[i]?).elim false f) (fun i => (ks[i]?).elim .non g) h hx (by rw [List.length_map]; exact hz) hw (t := t) (te := te) (fun i x H1 e hi => by
    rw [List.getElem?_map] at hi
    cases hk : ks[i]? with
    | none => rw [hk] at hi; cases hi
    | some a =>
      rw [hk] at hi; cases hi
      exact ht a H1 e (List.mem_of_getElem? hk)) (fun i x H1 e hi hf => by
    rw [List.getElem?_map] at hi
    cases hk : ks[i]? with
    | none => rw [hk] at hi; cases hi
    | some a =>
      rw [hk] at hi hf; cases hi
      exact he a H1 e (List.mem_of_getElem? hk) hf)
  rw [List.length_map, given_of] at this
  exact this
theorem et_yes : EvT tYes σ H true := fun H1 _ _ q => q H1 (Ex.refl H1)
theorem filter_yes {α : Type} (ks : List α) : ks.filter (fun _ => true) = ks := List.filter_eq_self.mpr fun _ _ => rfl
theorem el_mapN {α : Type} {ks : List α} {toV : α → V} {j : Nat} {vs : List Nat} (g : α → V) (h : EvL tl σ H (ks.map toV)) (hz : ks.length ≤ 40000) (hw : ∀ x, wipe ((wipe σ vs).set j (some x)) vs = wipe σ vs)
    (he : ∀ a H1, Ex H H1 → a ∈ ks → Ev te ((wipe σ vs).set j (some (toV a))) H1 (g a)) : EvL (tLc (iList K tl) (gName j) tYes te vs) σ H (ks.map g) := by
  have := el_lcN (K := K) (t := tYes) (fun _ => true) g h hz hw (fun _ _ _ _ => et_yes) fun a H1 e hm _ => he a H1 e hm
  rw [filter_yes] at this
  exact this
theorem el_mapS {α : Type} {ks : List α} {toV : α → V} {a : Addr} {j : Nat} {vs : List Nat} (g : α → V) (h : Ev tl σ H (.ref a)) (hx : SqL K H a (ks.map toV)) (hz : ks.length ≤ 40000) (hw : ∀ x, wipe ((wipe σ vs).set j (some x)) vs = wipe σ vs)
    (he : ∀ a H1, Ex H H1 → a ∈ ks → Ev te ((wipe σ vs).set j (some (toV a))) H1 (g a)) : EvL (tLc (iList K tl) (gName j) tYes te vs) σ H (ks.map g) := by
  have := el_lcS (K := K) (t := tYes) (fun _ => true) g h hx hz hw (fun _ _ _ _ => et_yes) fun a H1 e hm _ => he a H1 e hm
  rw [filter_yes] at this
  exact this
theorem el_lcRn {ta : TA} {j : Nat} {vs : List Nat} {n : Nat} (f : Nat → Bool) (g : Nat → V) (h : EvA ta σ H [nV n]) (hn : n ≤ 40000) (hw : ∀ x, wipe ((wipe σ vs).set j (some x)) vs = wipe σ vs)
    (ht : ∀ (i : Nat) H1, Ex H H1 → i < n → EvT t ((wipe σ vs).set j (some (nV i))) H1 (f i)) (he : ∀ (i : Nat) H1, Ex H H1 → i < n → f i = true → Ev te ((wipe σ vs).set j (some (nV i))) H1 (g i)) :
    EvL (tLc (iRng1 ta) (gName j) t te vs) σ H (((List.range n).filter f).map g) :=
  el_lcR1 (n := (n : Int)) f g h ⟨by omega, by omega⟩ hw (fun i H1 e hi => ht i H1 e (by omega)) (fun i H1 e hi hf => he i H1 e (by omega) hf)
/-- a loop over range(n) -/
theorem q_forRn {ta : TA} {j n : Nat} {tu tz : TS} {D : Ends} (h : EvA ta σ H [nV n]) (hn : n ≤ 40000) (Pv : Nat → L2.St → Hp → Prop) (h0 : ∀ H1, Ex H H1 → Pv 0 σ H1)
    (hs : ∀ (i : Nat) σ' H', i < n → Pv i σ' H' → tu { D with nx := Pv (i + 1), ct := Pv (i + 1), bk := tz D } (σ'.set j (some (nV i))) H') (hd : ∀ σ' H', Pv n σ' H' → tz D σ' H') : tSeq (tFor (iRng1 ta) (gName j) tu) tz D σ H :=
  q_forR1 (n := (n : Int)) h ⟨by omega, by omega⟩ Pv h0 (fun i σ' H' hi => hs i σ' H' (by omega)) (fun σ' H' => by rw [Int.toNat_natCast]; exact hd σ' H')
theorem s_forRn {ta : TA} {j n : Nat} {tu : TS} {D : Ends} (h : EvA ta σ H [nV n]) (hn : n ≤ 40000) (Pv : Nat → L2.St → Hp → Prop) (h0 : ∀ H1, Ex H H1 → Pv 0 σ H1)
    (hs : ∀ (i : Nat) σ' H', i < n → Pv i σ' H' → tu { D with nx := Pv (i + 1), ct := Pv (i + 1), bk := D.nx } (σ'.set j (some (nV i))) H') (hd : ∀ σ' H', Pv n σ' H' → D.nx σ' H') : tFor (iRng1 ta) (gName j) tu D σ H :=
  s_forR1 (n := (n : Int)) h ⟨by omega, by omega⟩ Pv h0 (fun i σ' H' hi => hs i σ' H' (by omega)) (fun σ' H' => by rw [Int.toNat_natCast]; exact hd σ' H')
/-- o[i] += e on a list -/
theorem s_augL {to ti : TE} {D : Ends} {l : Addr} {xs : List V} {j : Nat} {a b : Int} (hl : H l = some (.lst xs)) (ho : Ev to σ H (.ref l)) (hi : Ev ti σ H (nV j)) (hx : xs[j]? = some (.int a)) (he : Ev te σ H (.int b))
    (k : ∀ H1, Ex H H1 → D.nx σ (upd H1 l (.lst (xs.set j (.int (a + b)))))) : tAugS to ti te (rGetL K) (ipI fun i j => i + j) rSetL D σ H :=
  ho H (Ex.refl H) _ fun H1 e1 => hi H1 e1 _ fun H2 e2 => ⟨l, xs, j, .int a, rfl, rfl, sq_of (e2 l _ (e1 l _ hl)), hx, he H2 (e1.trans e2) _ fun H3 e3 =>
    ⟨a, b, rfl, rfl, l, xs, (j : Int), j, rfl, rfl, e3 l _ (e2 l _ (e1 l _ hl)), ixN_nat (List.getElem?_eq_some_iff.mp hx).1, k H3 ((e1.trans e2).trans e3)⟩⟩
theorem el_rep {xs : List V} {k : Nat} (ha : EvL ta σ H xs) (hb : ∀ H1, Ex H H1 → Ev tb σ H1 (nV k)) (hk : xs.length * k ≤ 40000) (hk2 : k ≤ 40000) : EvL (tOp rRep ta tb) σ H (List.replicate k xs).flatten := fun H1 e Q q =>
  ha H1 e _ fun p H2 np e2 hp => hb H2 (e.trans e2) H2 (Ex.refl H2) _ fun H3 e3 => ⟨p, (k : Int), xs, rfl, rfl, e3 p _ hp, by omega, by omega, by
    rw [Int.toNat_natCast]
    exact sz_of (by omega), fun r nr => by
    rw [Int.toNat_natCast]
    exact q r _ (fresh_back (e2.trans e3) nr) ((e2.trans e3).trans (Ex.new nr)) upd_same⟩
end
/-! ### lists over range(n) -/
def rmap (n : Nat) (f : Nat → V) : List V := (List.range n).map f
theorem rmap_len (n : Nat) (f : Nat → V) : (rmap n f).length = n := by unfold rmap; rw [List.length_map, List.length_range]
theorem rmap_get {n j : Nat} {f : Nat → V} (h : j < n) : (rmap n f)[j]? = some (f j) := by
  unfold rmap
  rw [List.getElem?_map, List.getElem?_range h]; rfl
theorem rmap_set {n j : Nat} {f : Nat → V} {y : V} : (rmap n f).set j y = rmap n fun q => if q = j then y else f q := by
  apply List.ext_getElem?
  intro i
  by_cases hi : i < n
  · rw [rmap_get hi]
    by_cases e : i = j
    · subst e
      rw [List.getElem?_set_self (by rw [rmap_len]; exact hi), if_pos rfl]
    · rw [List.getElem?_set_ne (Ne.symm e), rmap_get hi, if_neg e]
  · rw [List.getElem?_eq_none (by rw [List.length_set, rmap_len]; omega), List.getElem?_eq_none (by rw [rmap_len]; omega)]
theorem rmap_congr {n : Nat} {f g : Nat → V} (h : ∀ q, q < n → f q = g q) : rmap n f = rmap n g := by
  unfold rmap
  exact List.map_congr_left fun q hq => h q (List.mem_range.mp hq)
theorem rep_one (n : Nat) (x : V) : (List.replicate n [x]).flatten = rmap n fun _ => x := by
  induction n with
  | zero => rfl
  | succ n ih =>
    unfold rmap at ih ⊢
    rw [List.replicate_succ, List.flatten_cons, ih, List.range_succ_eq_map, List.map_cons, List.map_map]; rfl
/-! ### lists of ints, compared -/
def pyI (k : Nat) : PyData := .int (k : Int)
theorem dpAll_ints {K : PySem.W.Frag} {H : Hp} : ∀ ks : List Nat, DpAll K H (ks.map nV) (ks.map pyI)
  | [] => .nil
  | k :: ks => .cons (.int _) (dpAll_ints ks)
theorem dp_ints {K : PySem.W.Frag} {H : Hp} {p : Addr} {ks : List Nat} (h : SqL K H p (ks.map nV)) : Dp K H (.ref p) (.list (ks.map pyI)) := .lst h (dpAll_ints ks)
theorem lay_ints : ∀ ks : List Nat, PyData.canLayAll0 (ks.map pyI) = true
  | .nil => by simp [PyData.canLayAll0]
  | k :: ks => by simp [PyData.canLayAll0, pyI, PyData.canLay0, lay_ints ks]
theorem depth_ints : ∀ ks : List Nat, PyData.depthAll (ks.map pyI) ≤ 1
  | .nil => by simp [PyData.depthAll]
  | k :: ks => by
    have h1 := depth_ints ks
    simp only [List.map_cons, PyData.depthAll, pyI, PyData.depth]
    omega
theorem shaped_of {d : PyData} (h1 : d.canLay0 = true) (h2 : d.depth ≤ 64) : SeqAt.shaped d = true := by
  show (d.canLay0 && decide (d.depth ≤ 64)) = true
  rw [h1, decide_eq_true h2]; rfl
theorem shaped_ints (ks : List Nat) : SeqAt.shaped (.list (ks.map pyI)) = true := by
  have := depth_ints ks
  refine shaped_of ?_ ?_
  · simp only [PyData.canLay0]; exact lay_ints ks
  · simp only [PyData.depth]; omega
theorem eqv_ints : ∀ ks js : List Nat, PyData.eqvAll (ks.map pyI) (js.map pyI) = decide (ks = js)
  | .nil, .nil => by simp [PyData.eqvAll]
  | .nil, .cons _ _ => by simp [PyData.eqvAll]
  | .cons _ _, .nil => by simp [PyData.eqvAll]
  | k :: ks, j :: js => by
    simp only [List.map_cons, PyData.eqvAll, eqv_ints ks js, pyI, PyData.eqv]
    by_cases h : k = j
    · subst h; simp
    · have : ((k : Int) == (j : Int)) = false := beq_eq_false_iff_ne.mpr (by omega)
      rw [this]
      simp [h]
theorem eqvL_ints (ks js : List Nat) : PyData.eqv (.list (ks.map pyI)) (.list (js.map pyI)) = decide (ks = js) := by
  simp only [PyData.eqv]; exact eqv_ints ks js
section
variable {K : PySem.W.Frag} {σ : L2.St} {H : Hp} {ta tb te tl : TE} {t : TT}
/-- two new lists of ints, ==, != -/
theorem ev_eqII {ks js : List Nat} (ha : EvL ta σ H (ks.map nV)) (hb : EvL tb σ H (js.map nV)) : Ev (tOp (rEqD K) ta tb) σ H (.bl (decide (ks = js))) :=
  ev_opLL ha hb fun p q H1 hp hq _ H2 e2 Q k => ⟨_, _, dp_ints (sq_of (e2 p _ hp)), dp_ints (sq_of (e2 q _ hq)), shaped_ints ks, shaped_ints js, by rw [eqvL_ints]; exact k H2 (Ex.refl H2)⟩
theorem ev_neII {ks js : List Nat} (ha : EvL ta σ H (ks.map nV)) (hb : EvL tb σ H (js.map nV)) : Ev (tOp (rNeD K) ta tb) σ H (.bl (!decide (ks = js))) :=
  ev_opLL ha hb fun p q H1 hp hq _ H2 e2 Q k => ⟨_, _, dp_ints (sq_of (e2 p _ hp)), dp_ints (sq_of (e2 q _ hq)), shaped_ints ks, shaped_ints js, by rw [eqvL_ints]; exact k H2 (Ex.refl H2)⟩
theorem inV_two (x a b : Nat) : inV (nV x) [nV a, nV b] = (decide (a = x) || decide (b = x)) := by
  show ((a : Int) == (x : Int) || ((b : Int) == (x : Int) || false)) = _
  rw [Bool.or_false]
  congr 1
  · rw [Bool.eq_iff_iff, beq_iff_eq, decide_eq_true_iff]; omega
  · rw [Bool.eq_iff_iff, beq_iff_eq, decide_eq_true_iff]; omega
/-- t[:2] of a tie -/
theorem eu_ends {r : Addr} {x y z : V} (h : Ev te σ H (.ref r)) (hs : SqT K H r [x, y, z]) : EvU (tSl (rSlT K) te tNoPart (tPart (tC (.int 2)))) σ H [x, y] := fun H1 e Q q =>
  h H1 e _ fun H2 e2 => ⟨2, rfl, r, [x, y, z], rfl, ex_t (e.trans e2) hs, (show ¬ (HT.sIx 3 0 none = 0 ∧ HT.sIx 3 3 (some 2) = 3) by decide), fun p hp => q p _ (fresh_back e2 hp) (e2.trans (Ex.new hp)) upd_same⟩
end
section
variable {K : PySem.W.Frag} {σ : L2.St} {H : Hp} {ta tb te tl : TE} {t : TT} {tz : TS} {D : Ends}
theorem rgV_nat (n : Nat) : rgV 0 (n : Int) = rmap n nV := by
  unfold rgV rmap
  rw [show ((n : Int) - 0).toNat = n by omega]
  exact List.map_congr_left fun i _ => congrArg V.int (Int.zero_add _)
/-- list(range(n)) -/
theorem el_rng {n : Nat} (h : Ev ta σ H (nV n)) (hn : n ≤ 40000) : EvL (tLstRg (tRg1 ta)) σ H (rmap n nV) := fun H1 e Q q =>
  h H1 e _ fun H2 e2 => ⟨(n : Int), rfl, RgOk.of_le (by omega) (by omega) (by omega) (by omega), fun p np => by
    rw [rgV_nat]
    exact q p _ (fresh_back e2 np) (e2.trans (Ex.new np)) upd_same⟩
/-- a, b, c = (a tuple of three) -/
theorem q_unp3 {i j l : Nat} {r : Addr} {x y z : V} (h : Ev te σ H (.ref r)) (hs : SqT K H r [x, y, z]) (k : ∀ H1, Ex H H1 → tz D (((σ.set i (some x)).set j (some y)).set l (some z)) H1) :
    tSeq (tAsg te (gTup K 3 (gCons (gName i) (gCons (gName j) (gCons (gName l) gNil))))) tz D σ H :=
  h H (Ex.refl H) _ fun H1 e => ⟨r, _, rfl, ex_t e hs, rfl, x, _, rfl, y, _, rfl, z, _, rfl, rfl, k H1 e⟩
theorem q_unp2 {i j : Nat} {r : Addr} {x y : V} (h : Ev te σ H (.ref r)) (hs : SqT K H r [x, y]) (k : ∀ H1, Ex H H1 → tz D ((σ.set i (some x)).set j (some y)) H1) :
    tSeq (tAsg te (gTup K 2 (gCons (gName i) (gCons (gName j) gNil)))) tz D σ H :=
  h H (Ex.refl H) _ fun H1 e => ⟨r, _, rfl, ex_t e hs, rfl, x, _, rfl, y, _, rfl, rfl, k H1 e⟩
theorem q_unp2U {i j : Nat} {x y : V} (h : EvU te σ H [x, y]) (k : ∀ H1, Ex H H1 → tz D ((σ.set i (some x)).set j (some y)) H1) :
    tSeq (tAsg te (gTup K 2 (gCons (gName i) (gCons (gName j) gNil)))) tz D σ H :=
  h H (Ex.refl H) _ fun r H1 _ e hs => ⟨r, _, rfl, st_of hs, rfl, x, _, rfl, y, _, rfl, rfl, k H1 e⟩
def rMin2 : List V → Hp → VK → Prop := fun xs H Q => ∃ i j, xs = [.int i, .int j] ∧ Q (.int (if j < i then j else i)) H
theorem ev_min2 {i j : Int} (ha : Ev ta σ H (.int i)) (hb : Ev tb σ H (.int j)) : Ev (tCB rMin2 (tCons ta (tCons tb tNil))) σ H (.int (if j < i then j else i)) := fun H1 e Q q =>
  ha H1 e _ fun Ha ea => hb Ha (e.trans ea) _ fun Hb eb => ⟨i, j, rfl, q Hb (ea.trans eb)⟩
theorem ev_min2n {i j : Nat} (ha : Ev ta σ H (nV i)) (hb : Ev tb σ H (nV j)) : Ev (tCB rMin2 (tCons ta (tCons tb tNil))) σ H (nV (if j < i then j else i)) := by
  refine ev_is (ev_min2 ha hb) (congrArg V.int ?_)
  split <;> split <;> omega
theorem ev_max2n {i j : Nat} (ha : Ev ta σ H (nV i)) (hb : Ev tb σ H (nV j)) : Ev (tCB rMax2 (tCons ta (tCons tb tNil))) σ H (nV (if j > i then j else i)) := by
  refine ev_is (ev_max2 ha hb) (congrArg V.int ?_)
  split <;> split <;> omega
theorem et_eqn {i j : Nat} (ha : Ev ta σ H (nV i)) (hb : Ev tb σ H (nV j)) : EvT (tTest (tOp rEq ta tb)) σ H (decide (i = j)) := by
  refine et_is (et_test (ev_op ha hb (rv_eq rfl))) ?_
  rw [decide_eq_decide]
  exact ⟨fun h => by have := V.int.inj h; omega, fun h => by rw [h]⟩
theorem et_nen {i j : Nat} (ha : Ev ta σ H (nV i)) (hb : Ev tb σ H (nV j)) : EvT (tTest (tOp rNe ta tb)) σ H (!decide (i = j)) := by
  refine et_is (et_test (ev_op ha hb (rv_ne rfl))) (congrArg Bool.not ?_)
  rw [decide_eq_decide]
  exact ⟨fun h => by have := V.int.inj h; omega, fun h => by rw [h]⟩
/-- xs[j] of a list -/
theorem ev_ixL {p : Addr} {xs : List V} {j : Nat} {v : V} (ha : Ev ta σ H (.ref p)) (hb : Ev tb σ H (nV j)) (hs : H p = some (.lst xs)) (hj : xs[j]? = some v) : Ev (tOp (rIxL K) ta tb) σ H v :=
  ev_op ha hb (rv_ixL (sq_of hs) (atI_nat hj))
theorem ev_ixT {p : Addr} {xs : List V} {j : Nat} {v : V} (ha : Ev ta σ H (.ref p)) (hb : Ev tb σ H (nV j)) (hs : SqT K H p xs) (hj : xs[j]? = some v) : Ev (tOp (rIxT K) ta tb) σ H v :=
  ev_op ha hb (rv_ixT hs (atI_nat hj))
end
/-! ### a list of lists of ints -/
def RefLs (H : Hp) (l : Addr) (xs : List V) (pcs : List (List Nat)) : Prop := Paired (fun (v : V) (ks : List Nat) => ∃ a, v = .ref a ∧ a ≠ l ∧ H a = some (.lst (ks.map nV))) xs pcs
theorem RefLs.mono {H H' : Hp} {l : Addr} {xs : List V} {pcs : List (List Nat)} (h : RefLs H l xs pcs) (e : ∀ a o, a ≠ l → H a = some o → H' a = some o) : RefLs H' l xs pcs :=
  Paired.mapP h fun _ _ ⟨a, h1, h2, h3⟩ => ⟨a, h1, h2, e a _ h2 h3⟩
theorem RefLs.snoc {H : Hp} {l : Addr} {v : V} {ks : List Nat} (r : ∃ a, v = .ref a ∧ a ≠ l ∧ H a = some (.lst (ks.map nV))) : ∀ {xs : List V} {pcs : List (List Nat)}, RefLs H l xs pcs → RefLs H l (xs ++ [v]) (pcs ++ [ks])
  | _, _, .nil => .cons r .nil
  | _, _, .cons q t => .cons q (RefLs.snoc r t)
def pyL (ks : List Nat) : PyData := .list (ks.map pyI)
theorem RefLs.dp {K : PySem.W.Frag} {H : Hp} {l : Addr} : ∀ {xs : List V} {pcs : List (List Nat)}, RefLs H l xs pcs → DpAll K H xs (pcs.map pyL)
  | _, _, .nil => .nil
  | _, _, .cons ⟨_, e, _, h⟩ t => by
    subst e
    exact .cons (dp_ints (sq_of h)) (RefLs.dp t)
theorem RefLs.len {H : Hp} {l : Addr} {xs : List V} {pcs : List (List Nat)} (h : RefLs H l xs pcs) : xs.length = pcs.length := Paired.length h
theorem lay_lists : ∀ ps : List (List Nat), PyData.canLayAll0 (ps.map pyL) = true
  | .nil => by simp [PyData.canLayAll0]
  | p :: ps => by simp [PyData.canLayAll0, pyL, PyData.canLay0, lay_ints p, lay_lists ps]
theorem depth_lists : ∀ ps : List (List Nat), PyData.depthAll (ps.map pyL) ≤ 2
  | .nil => by simp [PyData.depthAll]
  | p :: ps => by
    have h1 := depth_lists ps
    have h2 := depth_ints p
    simp only [List.map_cons, PyData.depthAll, pyL, PyData.depth]
    omega
theorem shaped_lists (ps : List (List Nat)) : SeqAt.shaped (.list (ps.map pyL)) = true := by
  have := depth_lists ps
  refine shaped_of ?_ ?_
  · simp only [PyData.canLay0]; exact lay_lists ps
  · simp only [PyData.depth]; omega
theorem any_lists (ks : List Nat) (ps : List (List Nat)) : ((ps.map pyL).any fun z => PyData.eqv z (pyL ks)) = decide (ks ∈ ps) := by
  rw [Bool.eq_iff_iff, List.any_eq_true, decide_eq_true_iff]
  constructor
  · rintro ⟨z, hz, he⟩
    obtain ⟨js, hj, rfl⟩ := List.mem_map.mp hz
    have : PyData.eqv (.list (js.map pyI)) (.list (ks.map pyI)) = true := he
    rw [eqvL_ints, decide_eq_true_iff] at this
    exact this ▸ hj
  · intro h
    refine ⟨pyL ks, List.mem_map.mpr ⟨ks, h, rfl⟩, ?_⟩
    show PyData.eqv (.list (ks.map pyI)) (.list (ks.map pyI)) = true
    rw [eqvL_ints, decide_eq_true_iff]
/-! ### enumerate over a tuple -/
theorem s_forE {K : PySem.W.Frag} {a : Addr} {xs : List V} {g : TG} {tu : TS} {ta : TA} {D : Ends} {σ : L2.St} {H : Hp} (h : EvA ta σ H [.ref a]) (hx : SqT K H a xs) (Pv : Nat → L2.St → Hp → Prop) (h0 : ∀ H1, Ex H H1 → Pv 0 σ H1) (hl : ∀ i σ' H', i ≤ xs.length → Pv i σ' H' → SqT K H' a xs)
    (hs : ∀ i x σ' H' T, xs[i]? = some x → Pv i σ' H' → H' T = none → g (.ref T) σ' (upd H' T (.tup [nV i, x])) fun σ2 H2 => tu { D with nx := Pv (i + 1), ct := Pv (i + 1), bk := D.nx } σ2 H2) (hd : ∀ σ' H', Pv xs.length σ' H' → D.nx σ' H') : tFor (iEnumT K ta) g tu D σ H :=
  h H (Ex.refl H) _ fun H1 e => ⟨a, xs, rfl, ex_t e hx, for_it walk_enumT Pv (h0 H1 e) hl (fun i x σ' H' H'' _ p ⟨T, x1, y1, ev, nT, eH, e1, e2⟩ => by
    subst ev eH
    cases e1
    exact hs i y1 σ' H' T e2 p nT) hd⟩
theorem q_forE {K : PySem.W.Frag} {a : Addr} {xs : List V} {g : TG} {tu tz : TS} {ta : TA} {D : Ends} {σ : L2.St} {H : Hp} (h : EvA ta σ H [.ref a]) (hx : SqT K H a xs) (Pv : Nat → L2.St → Hp → Prop) (h0 : ∀ H1, Ex H H1 → Pv 0 σ H1) (hl : ∀ i σ' H', i ≤ xs.length → Pv i σ' H' → SqT K H' a xs)
    (hs : ∀ i x σ' H' T, xs[i]? = some x → Pv i σ' H' → H' T = none → g (.ref T) σ' (upd H' T (.tup [nV i, x])) fun σ2 H2 => tu { D with nx := Pv (i + 1), ct := Pv (i + 1), bk := tz D } σ2 H2) (hd : ∀ σ' H', Pv xs.length σ' H' → tz D σ' H') : tSeq (tFor (iEnumT K ta) g tu) tz D σ H :=
  s_forE (D := { D with nx := tz D }) h hx Pv h0 hl hs hd
/-- over a tuple that is made for it -/
theorem s_forNT {K : PySem.W.Frag} {xs : List V} {tl : TE} {g : TG} {tu : TS} {D : Ends} {σ : L2.St} {H : Hp} (h : EvU tl σ H xs) (Pv : Addr → Nat → L2.St → Hp → Prop) (h0 : ∀ p H1, H p = none → Ex H H1 → H1 p = some (.tup xs) → Pv p 0 σ H1) (hl : ∀ p i σ' H', i ≤ xs.length → Pv p i σ' H' → SqT K H' p xs)
    (hs : ∀ p i x σ' H', xs[i]? = some x → Pv p i σ' H' → g x σ' H' fun σ2 H2 => tu { D with nx := Pv p (i + 1), ct := Pv p (i + 1), bk := D.nx } σ2 H2) (hd : ∀ p σ' H', Pv p xs.length σ' H' → D.nx σ' H') : tFor (iTup K tl) g tu D σ H :=
  h H (Ex.refl H) _ fun p H1 hp e h1 => ⟨p, rfl, ⟨xs, st_of h1⟩, for_tup (Pv p) (h0 p H1 hp e h1) (hl p) (hs p) (hd p)⟩
/-! ### sides -/
theorem inV_map (x : Nat) (S : List Nat) : inV (nV x) (S.map nV) = decide (x ∈ S) := by
  induction S with
  | nil => rfl
  | cons y S ih =>
    show ((y : Int) == (x : Int) || inV (nV x) (S.map nV)) = _
    rw [ih, Bool.eq_iff_iff, Bool.or_eq_true, beq_iff_eq, decide_eq_true_iff, decide_eq_true_iff, List.mem_cons]
    constructor
    · rintro (h | h)
      · exact .inl (by omega)
      · exact .inr h
    · rintro (h | h)
      · exact .inl (by omega)
      · exact .inr h
theorem flat_map (S : List Nat) : (S.map nV).all flatV = true := by
  rw [List.all_eq_true]
  intro y hy
  obtain ⟨k, _, rfl⟩ := List.mem_map.mp hy
  rfl
/-- the ends in a side -/
abbrev sideF (S : List Nat) : Nat → Bool := fun p => decide (p ∈ S)
section
variable {K : PySem.W.Frag} {σ : L2.St} {H : Hp} {ta tb te tl : TE} {t : TT}
theorem ev_inS {x : Nat} {a : Addr} {S : List Nat} (ha : Ev ta σ H (nV x)) (hb : Ev tb σ H (.ref a)) (hs : SqL K H a (S.map nV)) : Ev (tOp (rIn K false) ta tb) σ H (.bl (sideF S x)) := by
  refine ev_is (ev_op ha hb (rv_isL hs rfl (flat_map S))) ?_
  rw [inV_map]
theorem et_neb {x y : Bool} (ha : Ev ta σ H (.bl x)) (hb : Ev tb σ H (.bl y)) : EvT (tTest (tOp rNe ta tb)) σ H (xor x y) := by
  refine et_is (et_test (ev_op ha hb (rv_ne rfl))) ?_
  cases x <;> cases y <;> rfl
theorem ev_neb {x y : Bool} (ha : Ev ta σ H (.bl x)) (hb : Ev tb σ H (.bl y)) : Ev (tOp rNe ta tb) σ H (.bl (xor x y)) := by
  refine ev_is (ev_op ha hb (rv_ne rfl)) ?_
  cases x <;> cases y <;> rfl
theorem ev_eqn {i j : Nat} (ha : Ev ta σ H (nV i)) (hb : Ev tb σ H (nV j)) : Ev (tOp rEq ta tb) σ H (.bl (decide (i = j))) := by
  refine ev_is (ev_op ha hb (rv_eq rfl)) (congrArg V.bl ?_)
  rw [decide_eq_decide]
  exact ⟨fun h => by have := V.int.inj h; omega, fun h => by rw [h]⟩
theorem ev_lenS {a : Addr} {S : List Nat} (ha : Ev ta σ H (.ref a)) (hs : SqL K H a (S.map nV)) : Ev (tCB (rLenS K) (tCons ta tNil)) σ H (nV S.length) := by
  refine ev_is (ev_len ha hs) ?_
  rw [List.length_map]
end
/-! ### worths -/
def bI (s : Bool) : Nat := if s = true then 1 else 0
def IsRow (K : PySem.W.Frag) (H : Hp) (v : V) (n : Nat) (g : RB.Far) : Prop := ∃ (p : Addr) (us : List V), v = .ref p ∧ SqT K H p us ∧ us.length = n ∧ ∀ j, j < n → ∃ r, us[j]? = some (.ref r) ∧ SqT K H r [oV (g j false), oV (g j true)]
def IsWor (K : PySem.W.Frag) (H : Hp) (v : V) (n : Nat) (F : Nat → RB.Far) : Prop := ∃ (p : Addr) (us : List V), v = .ref p ∧ SqT K H p us ∧ us.length = n ∧ ∀ i, i < n → ∃ u, us[i]? = some u ∧ IsRow K H u n (F i)
theorem IsRow.mono {K : PySem.W.Frag} {H H' : Hp} {v : V} {n : Nat} {g : RB.Far} (e : Ex H H') (h : IsRow K H v n g) : IsRow K H' v n g := by
  obtain ⟨p, us, h1, h2, h3, h4⟩ := h
  exact ⟨p, us, h1, ex_t e h2, h3, fun j hj => let ⟨r, a, b⟩ := h4 j hj; ⟨r, a, ex_t e b⟩⟩
theorem IsWor.mono {K : PySem.W.Frag} {H H' : Hp} {v : V} {n : Nat} {F : Nat → RB.Far} (e : Ex H H') (h : IsWor K H v n F) : IsWor K H' v n F := by
  obtain ⟨p, us, h1, h2, h3, h4⟩ := h
  exact ⟨p, us, h1, ex_t e h2, h3, fun j hj => let ⟨r, a, b⟩ := h4 j hj; ⟨r, a, b.mono e⟩⟩
section
variable {K : PySem.W.Frag} {σ : L2.St} {H : Hp} {tw ti tj tk ta tb : TE} {v : V} {n i j : Nat} {F : Nat → RB.Far} {g : RB.Far}
theorem ev_row (hw : IsWor K H v n F) (h : Ev tw σ H v) (hi : Ev ti σ H (nV i)) (hn : i < n) : ∃ u, Ev (tOp (rIxT K) tw ti) σ H u ∧ IsRow K H u n (F i) := by
  obtain ⟨p, us, rfl, h2, h3, h4⟩ := hw
  obtain ⟨u, hu, hr⟩ := h4 i hn
  exact ⟨u, ev_ixT h hi h2 hu, hr⟩
theorem ev_pair (hw : IsRow K H v n g) (h : Ev tw σ H v) (hj : Ev tj σ H (nV j)) (hn : j < n) : ∃ r, Ev (tOp (rIxT K) tw tj) σ H (.ref r) ∧ SqT K H r [oV (g j false), oV (g j true)] := by
  obtain ⟨p, us, rfl, h2, h3, h4⟩ := hw
  obtain ⟨u, hu, hr⟩ := h4 j hn
  exact ⟨u, ev_ixT h hj h2 hu, hr⟩
theorem ev_val {s : Bool} (hw : IsWor K H v n F) (h : Ev tw σ H v) (hi : Ev ti σ H (nV i)) (hin : i < n) (hj : Ev tj σ H (nV j)) (hjn : j < n) (hk : Ev tk σ H (nV (bI s))) : Ev (tOp (rIxT K) (tOp (rIxT K) (tOp (rIxT K) tw ti) tj) tk) σ H (oV (F i j s)) := by
  obtain ⟨u, h1, h2⟩ := ev_row hw h hi hin
  obtain ⟨r, h3, h4⟩ := ev_pair h2 h1 hj hjn
  refine ev_ixT h3 hk h4 ?_
  cases s <;> rfl
theorem ev_bitn {x k : Nat} (ha : Ev ta σ H (nV x)) (hb : Ev tb σ H (nV k)) : Ev (tOp (rI0 fun i j => .int (Builtin.bitAnd i j)) (tOp (rI (fun _ j => 0 ≤ j) fun i j => .int (i / 2 ^ j.toNat)) ta tb) (tC (.int 1))) σ H (nV (bI (x.testBit k))) := by
  refine ev_is (ev_bit ha hb) ?_
  cases x.testBit k <;> rfl
theorem ev_xorn {s b : Bool} (ha : Ev ta σ H (nV (bI s))) (hb : Ev tb σ H (nV (bI b))) : Ev (tOp (rI0 fun i j => .int (Builtin.bitXor i j)) ta tb) σ H (nV (bI (xor s b))) := by
  refine ev_is (ev_op ha hb rv_I0) ?_
  cases s <;> cases b <;> rfl
end
end RBW
/-! RBW1: ties_in, all_ties, look_set, length_of, common. -/
namespace RBW
open PySem PySem.Spec PyProof.Rows L2 Evl RBX
section
variable {P : Program} {w : World} {K : PySem.W.Frag} {mg : Str → Option Value} {base : Heap} {f : Addr} {fd : FuncData}
/-! ### ties_in -/
def sp_ties_in (_ : PySem.W.Frag) : Sp := fun vs H Q _ => ∃ (x m : Nat), vs = [nV x] ∧ x < 2 ^ m ∧ m ≤ 1000 ∧ RetL ((RB.bits m x).map nV) H Q
theorem bits_step (i x : Nat) : RB.bits (i + 1) x = RB.bits i x ++ if x.testBit i = true then [i] else [] := by
  unfold RB.bits
  rw [List.range_succ, List.filter_append]
  congr 1
  by_cases h : x.testBit i = true
  · rw [if_pos h, List.filter_cons, if_pos h]; rfl
  · rw [if_neg h, List.filter_cons, if_neg h]; rfl
theorem bits_full {i m x : Nat} (h : x >>> i = 0) (hm : x < 2 ^ m) : RB.bits i x = RB.bits m x := by
  have hi : ∀ k, i ≤ k → x.testBit k = false := fun k hk => by
    have : x < 2 ^ i := by
      rw [Nat.shiftRight_eq_div_pow] at h
      exact (Nat.div_eq_zero_iff_lt (Nat.two_pow_pos i)).mp h
    exact Nat.testBit_lt_two_pow (Nat.lt_of_lt_of_le this (Nat.pow_le_pow_right (by decide) hk))
  have hm' : ∀ k, m ≤ k → x.testBit k = false := fun k hk => Nat.testBit_lt_two_pow (Nat.lt_of_lt_of_le hm (Nat.pow_le_pow_right (by decide) hk))
  have grow : ∀ (a d : Nat), (∀ k, a ≤ k → x.testBit k = false) → RB.bits (a + d) x = RB.bits a x := fun a d hk => by
    induction d with
    | zero => rfl
    | succ d ih => rw [← Nat.add_assoc, bits_step, ih, hk (a + d) (by omega), if_neg (by decide), List.append_nil]
  rcases Nat.le_total i m with h1 | h1
  · obtain ⟨d, rfl⟩ := Nat.exists_eq_add_of_le h1
    exact (grow i d hi).symm
  · obtain ⟨d, rfl⟩ := Nat.exists_eq_add_of_le h1
    exact grow m d hm'
theorem bits_len (m x : Nat) : (RB.bits m x).length ≤ m := by
  unfold RB.bits
  have := List.length_filter_le (fun k => x.testBit k) (List.range m)
  rw [List.length_range] at this
  exact this
theorem ok_ties_in (F : Fun K "ties_in" "ties_in" s_ties_in f fd) : FnOk P w K mg base CX0 1 f fd ["some"] (sp_ties_in K) := by
  refine F.ok sc_ties_in (fun vs H Q E h => ?_) (fun cdv A outer s H vs Q E hr h => ?_)
  · obtain ⟨x, m, rfl, _⟩ := h
    rfl
  · obtain ⟨x, m, rfl, hx, hm, q⟩ := h
    refine ⟨_, (pss_cons (ps_set (i := 1) sc_ties_in.nd rfl (.inl rfl) (pe_lst pa_nil))
  (pss_cons (ps_set (i := 2) sc_ties_in.nd rfl (.inl rfl) pe_int)
  (pss_cons (ps_while PassesOwn.never (pt_cmpR op_gt (pe_op op_shr (pv 0) (pv 2)) pe_int (nomark _)) (pss_cons (ps_if (pt_cmpR op_eq (pe_op op_and (pe_op op_shr (pv 0) (pv 2)) pe_int) pe_int (nomark _)) (pss_one (ps_expr (pe_bmK K (pe_bm PySem.F.plainAttrs_list PySem.F.slot_list_append PySem.F.type_list_append mt_append (pv 1) (pa_cons (pv 2) pa_nil))))) pss_nil)
  (pss_one (ps_set (i := 2) sc_ties_in.nd rfl (.inl rfl) (pe_op op_add (pv 2) pe_int)))))
  (pss_one (ps_ret (pv 1)))))), ?_⟩
    refine q_asgL (el_lst ea_nil (by decide)) fun p H1 np e1 hp => ?_
    refine q_asg ev_c fun H2 e2 => ?_
    refine q_while (fun n σ' H' => ∃ i, n + i = m ∧ σ' = [some (nV x), some (.ref p), some (nV i)] ∧ Ex H H' ∧ H' p = some (.lst ((RB.bits i x).map nV))) m
      ⟨0, rfl, rfl, e1.trans e2, e2 p _ hp⟩ ?_
    rintro n σ' H' ⟨i, hi, rfl, eH, hp'⟩
    refine ⟨decide (0 < x >>> i), et_is (et_test (ev_op (ev_shr (ev_var rfl) (ev_var rfl)) ev_c rv_I0)) (by simp only [decide_eq_decide]; omega), fun hb H3 e3 => ?_, fun hb H3 e3 => ?_⟩
    · have hlt : i < m := by
        rcases Nat.lt_or_ge i m with h | h
        · exact h
        · exfalso
          have h1 := of_decide_eq_true hb
          have : x < 2 ^ i := Nat.lt_of_lt_of_le hx (Nat.pow_le_pow_right (by decide) h)
          rw [Nat.shiftRight_eq_div_pow, Nat.div_eq_of_lt this] at h1
          omega
      refine ⟨fun σ2 H2 => ∃ j, (n - 1) + j = m ∧ σ2 = [some (nV x), some (.ref p), some (nV j)] ∧ Ex H H2 ∧ H2 p = some (.lst ((RB.bits j x).map nV)), fun σ2 H2 h => ⟨n - 1, by omega, h⟩, ?_⟩
      refine q_when (et_bit (ev_var rfl) (ev_var rfl)) (fun hb' H4 e4 => ?_) (fun hb' H4 e4 => ?_)
      · refine s_app (e4 p _ (e3 p _ hp')) (ev_var rfl) (ev_var rfl) ?_ fun H5 e5 => s_asg (ev_op (ev_var rfl) ev_c rv_I0) fun H6 e6 => ⟨i + 1, by omega, rfl, ?_, e6 p _ ?_⟩
        · rw [List.length_map]
          have := bits_len i x
          omega
        · exact ((((eH.trans e3).trans e4).trans e5).mut np).trans e6
        · rw [upd_same, bits_step, if_pos hb', List.map_append]; rfl
      · refine s_asg (ev_op (ev_var rfl) ev_c rv_I0) fun H6 e6 => ⟨i + 1, by omega, rfl, ((eH.trans e3).trans e4).trans e6, e6 p _ ?_⟩
        rw [bits_step, if_neg (by rw [hb']; decide), List.append_nil]
        exact e4 p _ (e3 p _ hp')
    · have h0 : x >>> i = 0 := by
        exact Nat.eq_zero_of_not_pos (of_decide_eq_false hb)
      refine s_ret (ev_var rfl) fun H4 e4 => q p H4 np ((eH.trans e3).trans e4) ?_
      rw [← bits_full h0 hx]
      exact e4 p _ (e3 p _ hp')
/-! ### all_ties, look_set -/
def sp_all_ties (K : PySem.W.Frag) : Sp := fun vs H Q _ => ∃ (v : V) (W : RB.Web), vs = [v] ∧ IsWeb K H v W ∧ W.Good ∧ RetV (.int ((2 ^ W.m : Nat) - 1 : Int)) H Q
theorem ok_all_ties (Z : Blt mg) (F : Fun K "all_ties" "all_ties" s_all_ties f fd) : FnOk P w K mg base CX0 1 f fd ["web"] (sp_all_ties K) := by
  refine F.ok sc_all_ties (fun vs H Q E h => ?_) (fun cdv A outer s H vs Q E hr h => ?_)
  · obtain ⟨v, W, rfl, _⟩ := h
    rfl
  · obtain ⟨v, W, rfl, hw, g, q⟩ := h
    refine ⟨_, (pss_one (ps_ret (pe_op op_sub (pe_op op_shl pe_int (pe_callB (len_seqK K) (by rfl) Z.len PySem.boot_len (pa_cons (pe_ix (ix_tupK K) (pv 0) pe_int (fun _ _ => rfl)) pa_nil))) pe_int))), ?_⟩
    have g6 := g.m6
    exact s_ret (ev_op (ev_shl1 (ev_m hw (ev_var rfl)) (by omega)) ev_c rv_I0) fun H1 e1 => q H1 e1
def sp_look_set (K : PySem.W.Frag) : Sp := fun vs H Q _ => ∃ (v : V) (W : RB.Web) (x : Nat), vs = [v, nV x] ∧ IsWeb K H v W ∧ W.Good ∧ x < 2 ^ W.m ∧ RetV .non H Q
theorem ok_look_set (F : Fun K "look_set" "look_set" s_look_set f fd) (D_all_ties : Def P w K mg base "all_ties" 1 ["web"] (sp_all_ties K)) : FnOk P w K mg base CX0 2 f fd ["web", "some"] (sp_look_set K) := by
  refine F.ok sc_look_set (fun vs H Q E h => ?_) (fun cdv A outer s H vs Q E hr h => ?_)
  · obtain ⟨v, W, x, rfl, _⟩ := h
    rfl
  · obtain ⟨v, W, x, rfl, hw, g, hx, q⟩ := h
    refine ⟨_, (pss_one (ps_if (PW.pt (pw_or (pt_cmpR op_lt (pv 1) pe_int (nomark _)) (pw_or1 (pt_cmpR op_gt (pv 1) (pe_callD D_all_ties hr (by decide) (by rfl) (pa_cons (pv 0) pa_nil)) (nomark _))))) (pss_one ps_never) pss_nil)), ?_⟩
    refine s_when (b := false) (et_is (et_or (et_test (ev_op (ev_var rfl) ev_c rv_I0)) fun _ => et_test (ev_op (ev_var rfl) (ev_call (z := .int ((2 ^ W.m : Nat) - 1 : Int)) (ea_cons (ev_var rfl) ea_nil) fun H1 e Q q E => ⟨v, W, rfl, hw.mono e, g, q⟩) rv_I0)) ?_) (fun hb => by cases hb) fun _ H1 e1 => q H1 e1
    rw [Bool.or_eq_false_iff]
    exact ⟨decide_eq_false (by omega), decide_eq_false (by omega)⟩
/-! ### length_of, common -/
theorem len_sum (W : RB.Web) (ks : List Nat) : RB.len W ks = (ks.map W.l).sum := by
  induction ks with
  | nil => rfl
  | cons k ks ih =>
    rw [List.map_cons, List.sum_cons, ← ih]; rfl
def sp_length_of (K : PySem.W.Frag) : Sp := fun vs H Q _ => ∃ (v : V) (W : RB.Web) (x : Nat), vs = [v, nV x] ∧ IsWeb K H v W ∧ W.Good ∧ x < 2 ^ W.m ∧ RetV (.int (RB.lenOf W x)) H Q
theorem sp_ties_at {W : RB.Web} {x : Nat} {H : Hp} (g : W.Good) (hx : x < 2 ^ W.m) : SpL (sp_ties_in K) [nV x] H ((RB.tiesOf W x).map nV) := fun H1 e Q q E => ⟨x, W.m, rfl, hx, by have := g.m6; omega, q⟩
theorem tiesOf_len (W : RB.Web) (g : W.Good) (x : Nat) : (RB.tiesOf W x).length ≤ 6 := Nat.le_trans (bits_len W.m x) g.m6
theorem ok_length_of (Z : Blt mg) (F : Fun K "length_of" "length_of" s_length_of f fd) (D_look_set : Def P w K mg base "look_set" 2 ["web", "some"] (sp_look_set K)) (D_ties_in : Def P w K mg base "ties_in" 1 ["some"] (sp_ties_in K)) : FnOk P w K mg base CX0 3 f fd ["web", "some"] (sp_length_of K) := by
  refine F.ok sc_length_of (fun vs H Q E h => ?_) (fun cdv A outer s H vs Q E hr h => ?_)
  · obtain ⟨v, W, x, rfl, _⟩ := h
    rfl
  · obtain ⟨v, W, x, rfl, hw, g, hx, q⟩ := h
    refine ⟨_, (pss_cons (ps_expr (pe_callD D_look_set hr (by decide) (by rfl) (pa_cons (pv 0) (pa_cons (pv 1) pa_nil))))
  (pss_one (ps_ret (pe_callB (sumK K) (by rfl) Z.sum (by decide +kernel) (pa_cons (pe_lc (own := [("tie", 2)]) rfl sc_length_of.nd (pi_listK K (pe_callD D_ties_in hr (by decide) (by rfl) (pa_cons (pv 1) pa_nil))) (blkOk_by (N := N_length_of) (sc := defScope s_length_of) (by decide +kernel)) (fun _ _ _ _ _ => (pg_name (i := 2) sc_length_of.nd rfl (.inl rfl))) (fun _ _ _ _ _ => pts_nil) (fun _ _ _ _ _ => (pe_ix (ix_tupK K) (pe_ix (ix_tupK K) (pe_ix (ix_tupK K) (pv 0) pe_int (fun _ _ => rfl)) (pv 2) (fun _ _ => rfl)) pe_int (fun _ _ => rfl)))) pa_nil))))), ?_⟩
    refine q_drop (ev_call (ea_cons (ev_var rfl) (ea_cons (ev_var rfl) ea_nil)) fun H1 e Q q E => ⟨v, W, x, rfl, hw.mono e, g, hx, q⟩) fun H1 e1 => ?_
    refine s_ret (ev_sumL (ns := (RB.tiesOf W x).map W.l) ?_) fun H2 e2 => ?_
    · rw [List.map_map]
      exact el_mapN (fun k => V.int (W.l k)) (el_call (ea_cons (ev_var rfl) ea_nil) (sp_ties_at g hx)) (by have := tiesOf_len W g x; omega) (fun _ => rfl)
        (fun k H2 e2 hk => ev_l (hw.mono (e1.trans e2)) (ev_var rfl) (ev_var rfl) (RB.mem_tiesOf.mp hk).1)
    · rw [← len_sum]
      exact q H2 (e1.trans e2)
def sp_common (_ : PySem.W.Frag) : Sp := fun vs H Q _ => ∃ (x y m : Nat), vs = [nV x, nV y] ∧ x < 2 ^ m ∧ m ≤ 1000 ∧ RetV (nV (RB.bits m (x &&& y)).length) H Q
theorem ok_common (Z : Blt mg) (F : Fun K "common" "common" s_common f fd) (D_ties_in : Def P w K mg base "ties_in" 1 ["some"] (sp_ties_in K)) : FnOk P w K mg base CX0 2 f fd ["one", "other"] (sp_common K) := by
  refine F.ok sc_common (fun vs H Q E h => ?_) (fun cdv A outer s H vs Q E hr h => ?_)
  · obtain ⟨x, y, m, rfl, _⟩ := h
    rfl
  · obtain ⟨x, y, m, rfl, hx, hm, q⟩ := h
    refine ⟨_, (pss_one (ps_ret (pe_callB (len_seqK K) (by rfl) Z.len PySem.boot_len (pa_cons (pe_callD D_ties_in hr (by decide) (by rfl) (pa_cons (pe_op op_and (pv 0) (pv 1)) pa_nil)) pa_nil)))), ?_⟩
    refine s_ret (ev_lenN (xs := (RB.bits m (x &&& y)).map nV) (el_call (ea_cons (ev_is (ev_op (ev_var rfl) (ev_var rfl) rv_I0) (congrArg V.int (land_nat x y))) ea_nil) fun H1 e Q q E => ⟨x &&& y, m, rfl, Nat.lt_of_le_of_lt Nat.and_le_left hx, hm, q⟩)) fun H1 e1 => ?_
    rw [List.length_map]
    exact q H1 e1
end
end RBW
/-! RBW2: odd_points, is_even, ties_at. -/
namespace RBW
open PySem PySem.Spec PyProof.Rows L2 Evl RBX
section
variable {P : Program} {w : World} {K : PySem.W.Frag} {mg : Str → Option Value} {base : Heap} {f : Addr} {fd : FuncData}
/-! ### odd_points -/
theorem deg_take {W : RB.Web} (g : W.Good) {ks : List Nat} {i k : Nat} (hk : ks[i]? = some k) (hm : k < W.m) (q : Nat) :
    RB.deg W (ks.take (i + 1)) q = if q = W.b k then (if q = W.a k then RB.deg W (ks.take i) q + 1 else RB.deg W (ks.take i) q) + 1 else if q = W.a k then RB.deg W (ks.take i) q + 1 else RB.deg W (ks.take i) q := by
  rw [List.take_add_one, hk]
  show RB.deg W (ks.take i ++ [k]) q = _
  rw [RB.deg_append, RB.deg_cons, RB.deg_nil, Nat.zero_add]
  have ne := g.ab k hm
  by_cases h1 : q = W.a k
  · subst h1
    rw [if_neg ne, if_pos rfl, if_pos (RB.inc_iff.mpr (.inl rfl))]
  · by_cases h2 : q = W.b k
    · subst h2
      rw [if_pos rfl, if_neg h1, if_pos (RB.inc_iff.mpr (.inr rfl))]
    · rw [if_neg h2, if_neg h1, if_neg (fun z => (RB.inc_iff.mp z).elim (fun e => h1 e.symm) fun e => h2 e.symm)]; rfl
def oddsOf (W : RB.Web) (x : Nat) : List Nat := (List.range W.n).filter fun p => decide (RB.deg W (RB.tiesOf W x) p % 2 = 1)
def sp_odd_points (K : PySem.W.Frag) : Sp := fun vs H Q _ => ∃ (v : V) (W : RB.Web) (x : Nat), vs = [v, nV x] ∧ IsWeb K H v W ∧ W.Good ∧ x < 2 ^ W.m ∧ RetL ((oddsOf W x).map nV) H Q
theorem ok_odd_points (Z : Blt mg) (F : Fun K "odd_points" "odd_points" s_odd_points f fd) (D_look_set : Def P w K mg base "look_set" 2 ["web", "some"] (sp_look_set K)) (D_ties_in : Def P w K mg base "ties_in" 1 ["some"] (sp_ties_in K)) : FnOk P w K mg base CX0 3 f fd ["web", "some"] (sp_odd_points K) := by
  refine F.ok sc_odd_points (fun vs H Q E h => ?_) (fun cdv A outer s H vs Q E hr h => ?_)
  · obtain ⟨v, W, x, rfl, _⟩ := h
    rfl
  · obtain ⟨v, W, x, rfl, hw, g, hx, q⟩ := h
    refine ⟨_, (pss_cons (ps_expr (pe_callD D_look_set hr (by decide) (by rfl) (pa_cons (pv 0) (pa_cons (pv 1) pa_nil))))
  (pss_cons (ps_set (i := 2) sc_odd_points.nd rfl (.inr rfl) (pe_op op_rep (pe_lst (pa_cons pe_int pa_nil)) (pe_ix (ix_tupK K) (pv 0) pe_int (fun _ _ => rfl))))
  (pss_cons (ps_for PassesOwn.never rfl (pi_listK K (pe_callD D_ties_in hr (by decide) (by rfl) (pa_cons (pv 1) pa_nil))) (pg_name (i := 3) sc_odd_points.nd rfl (.inl rfl)) (pss_cons (ps_augS (pv 2) (pe_ix (ix_tupK K) (pe_ix (ix_tupK K) (pe_ix (ix_tupK K) (pv 0) pe_int (fun _ _ => rfl)) (pv 3) (fun _ _ => rfl)) pe_int (fun _ _ => rfl)) (get_listK K) pe_int ip_add set_list)
  (pss_one (ps_augS (pv 2) (pe_ix (ix_tupK K) (pe_ix (ix_tupK K) (pe_ix (ix_tupK K) (pv 0) pe_int (fun _ _ => rfl)) (pv 3) (fun _ _ => rfl)) pe_int (fun _ _ => rfl)) (get_listK K) pe_int ip_add set_list))))
  (pss_one (ps_ret (pe_lc (own := [("point", 4)]) rfl sc_odd_points.nd (pi_range1 (by rfl) Z.range (pa_cons (pe_ix (ix_tupK K) (pv 0) pe_int (fun _ _ => rfl)) pa_nil)) (blkOk_by (N := N_odd_points) (sc := defScope s_odd_points) (by decide +kernel)) (fun _ _ _ _ _ => (pg_name (i := 4) sc_odd_points.nd rfl (.inl rfl))) (fun _ _ _ _ _ => (pts_one (pt_cmpR op_eq (pe_op op_mod (pe_ix (ix_listK K) (pv 2) (pv 4) (fun _ _ => rfl)) pe_int) pe_int (nomark _)))) (fun _ _ _ _ _ => (pv 4)))))))), ?_⟩
    have n5 := g.n5
    refine q_drop (ev_call (ea_cons (ev_var rfl) (ea_cons (ev_var rfl) ea_nil)) fun H1 e Q q E => ⟨v, W, x, rfl, hw.mono e, g, hx, q⟩) fun H1 e1 => ?_
    refine q_asgL (el_rep (el_lst (ea_cons ev_c ea_nil) (by show 1 ≤ 100000; decide)) (fun H2 e2 => ev_n (hw.mono (e1.trans e2)) (ev_var rfl)) (by show 1 * W.n ≤ 40000; omega) (by omega)) fun en H2 nen e2 hen => ?_
    rw [rep_one] at hen
    have nen0 : H en = none := fresh_back e1 nen
    refine q_forNLn (xs := (RB.tiesOf W x).map nV) (el_call (ea_cons (ev_var rfl) ea_nil) (sp_ties_at g hx))
      (fun p i σ' H' => ∃ y3, σ' = [some v, some (nV x), some (.ref en), y3, none] ∧ Ex H H' ∧ p ≠ en ∧ H' p = some (.lst ((RB.tiesOf W x).map nV)) ∧ H' en = some (.lst (rmap W.n fun q => nV (RB.deg W ((RB.tiesOf W x).take i) q))))
      (fun p H3 np e3 hp => ⟨none, rfl, (e1.trans e2).trans e3, (ne_of_none hen np).symm, hp, e3 en _ hen⟩) (fun p i σ' H' _ h => let ⟨_, _, _, _, hp, _⟩ := h; sq_of hp) ?_ ?_
    · rintro p i y σ' H' hy ⟨y3, rfl, eH, npe, hp, he⟩
      rw [List.getElem?_map] at hy
      obtain ⟨k, hk, rfl⟩ := Option.map_eq_some_iff.mp hy
      have hm := (RB.mem_tiesOf.mp (List.mem_of_getElem? hk)).1
      refine s_augL (j := W.a k) (a := (RB.deg W ((RB.tiesOf W x).take i) (W.a k) : Int)) he (ev_var rfl) (ev_a (hw.mono eH) (ev_var rfl) (ev_var rfl) hm) (rmap_get (g.an k hm)) ev_c fun H3 e3 => ?_
      rw [rmap_set]
      have e4 : Ex H (upd H3 en (.lst (rmap W.n fun q => if q = W.a k then .int ((RB.deg W ((RB.tiesOf W x).take i) (W.a k) : Int) + 1) else nV (RB.deg W ((RB.tiesOf W x).take i) q)))) := (eH.trans e3).mut nen0
      refine s_augL (j := W.b k) (a := (RB.deg W ((RB.tiesOf W x).take i) (W.b k) : Int)) upd_same (ev_var rfl) (ev_b (hw.mono e4) (ev_var rfl) (ev_var rfl) hm) (by rw [rmap_get (g.bn k hm), if_neg (fun z => g.ab k hm z.symm)]) ev_c fun H4 e5 => ?_
      refine ⟨_, rfl, (e4.trans e5).mut nen0, npe, ?_, ?_⟩
      · rw [upd_ne npe]
        exact e5 p _ (by rw [upd_ne npe]; exact e3 p _ hp)
      · rw [upd_same, rmap_set]
        congr 2
        refine rmap_congr fun q _ => ?_
        rw [deg_take g hk hm q]
        have ne := g.ab k hm
        by_cases h1 : q = W.b k
        · subst h1
          rw [if_pos rfl, if_pos rfl, if_neg (Ne.symm ne)]; rfl
        · rw [if_neg h1, if_neg h1]
          by_cases h2 : q = W.a k
          · subst h2; rw [if_pos rfl, if_pos rfl]; rfl
          · rw [if_neg h2, if_neg h2]
    · rintro p σ' H' ⟨y3, rfl, eH, npe, hp, he⟩
      rw [List.length_map, List.take_length] at he
      refine s_retL (el_lcRn (n := W.n) (fun q => decide (RB.deg W (RB.tiesOf W x) q % 2 = 1)) nV (ea_cons (ev_n (hw.mono eH) (ev_var rfl)) ea_nil) (by omega) (fun _ => rfl) (fun i H3 e3 hi => ?_) (fun i H3 e3 hi _ => ev_var rfl)) fun p2 H3 np2 e3 hp2 => q p2 H3 (fresh_back eH np2) (eH.trans e3) hp2
      refine et_is (et_test (ev_op (ev_op (ev_op (ev_var rfl) (ev_var rfl) (rv_ixL (sq_of (e3 en _ he)) (atI_nat (rmap_get hi)))) ev_c (rv_I (by decide))) ev_c (rv_eq rfl))) ?_
      rw [decide_eq_decide]
      constructor
      · intro h; have := V.int.inj h; omega
      · intro h; exact congrArg V.int (by omega)
/-! ### is_even -/
def sp_is_even (K : PySem.W.Frag) : Sp := fun vs H Q _ => ∃ (v : V) (W : RB.Web) (x : Nat), vs = [v, nV x] ∧ IsWeb K H v W ∧ W.Good ∧ x < 2 ^ W.m ∧ RetV (.bl (decide (oddsOf W x = []))) H Q
theorem ok_is_even (F : Fun K "is_even" "is_even" s_is_even f fd) (D_odd_points : Def P w K mg base "odd_points" 3 ["web", "some"] (sp_odd_points K)) : FnOk P w K mg base CX0 4 f fd ["web", "some"] (sp_is_even K) := by
  refine F.ok sc_is_even (fun vs H Q E h => ?_) (fun cdv A outer s H vs Q E hr h => ?_)
  · obtain ⟨v, W, x, rfl, _⟩ := h
    rfl
  · obtain ⟨v, W, x, rfl, hw, g, hx, q⟩ := h
    refine ⟨_, (pss_one (ps_ret (pe_cmpR (eqDK K hr.units) (pe_callD D_odd_points hr (by decide) (by rfl) (pa_cons (pv 0) (pa_cons (pv 1) pa_nil))) (pe_lst pa_nil) (nomark _)))), ?_⟩
    exact s_ret (ev_eqII (js := []) (el_call (ea_cons (ev_var rfl) (ea_cons (ev_var rfl) ea_nil)) fun H1 e Q q E => ⟨v, W, x, rfl, hw.mono e, g, hx, q⟩) (el_lst ea_nil (by decide))) fun H1 e1 => q H1 e1
/-! ### ties_at -/
def tiesAt (W : RB.Web) (x p : Nat) : List Nat := (RB.tiesOf W x).filter fun k => RB.inc W k p
def sp_ties_at_ (K : PySem.W.Frag) : Sp := fun vs H Q _ => ∃ (v : V) (W : RB.Web) (x p : Nat), vs = [v, nV x, nV p] ∧ IsWeb K H v W ∧ W.Good ∧ x < 2 ^ W.m ∧ RetL ((tiesAt W x p).map nV) H Q
theorem ok_ties_at (F : Fun K "ties_at" "ties_at" s_ties_at f fd) (D_ties_in : Def P w K mg base "ties_in" 1 ["some"] (sp_ties_in K)) : FnOk P w K mg base CX0 2 f fd ["web", "some", "point"] (sp_ties_at_ K) := by
  refine F.ok sc_ties_at (fun vs H Q E h => ?_) (fun cdv A outer s H vs Q E hr h => ?_)
  · obtain ⟨v, W, x, p, rfl, _⟩ := h
    rfl
  · obtain ⟨v, W, x, p, rfl, hw, g, hx, q⟩ := h
    refine ⟨_, (pss_one (ps_ret (pe_lc (own := [("tie", 3)]) rfl sc_ties_at.nd (pi_listK K (pe_callD D_ties_in hr (by decide) (by rfl) (pa_cons (pv 1) pa_nil))) (blkOk_by (N := N_ties_at) (sc := defScope s_ties_at) (by decide +kernel)) (fun _ _ _ _ _ => (pg_name (i := 3) sc_ties_at.nd rfl (.inl rfl))) (fun _ _ _ _ _ => (pts_one (pt_cmpR (in_seqK K) (pv 2) (pe_slice (sl_tupK K) (pe_ix (ix_tupK K) (pe_ix (ix_tupK K) (pv 0) pe_int (fun _ _ => rfl)) (pv 3) (fun _ _ => rfl)) po_none (po_some pe_int)) (by rfl)))) (fun _ _ _ _ _ => (pv 3))))), ?_⟩
    refine s_retL (el_lcN (toV := nV) (fun k => RB.inc W k p) nV (el_call (ea_cons (ev_var rfl) ea_nil) (sp_ties_at g hx)) (by have := tiesOf_len W g x; omega) (fun _ => rfl) (fun k H1 e1 hk => ?_) (fun k H1 e1 hk _ => ev_var rfl)) fun p2 H3 np2 e3 hp2 => q p2 H3 np2 e3 hp2
    obtain ⟨r, h1, h2⟩ := ev_tie (hw.mono e1) (ev_var (i := 0) (σ := (wipe (L2.start N_ties_at [v, nV x, nV p]) [3]).set 3 (some (nV k))) rfl) (ev_var (i := 3) rfl) (RB.mem_tiesOf.mp hk).1
    refine et_is (et_test (ev_inU (ev_var rfl) (eu_ends h1 h2) rfl rfl)) ?_
    rw [inV_two]; rfl
end
end RBW
/-! RBW3: pieces, is_ring. -/
namespace RBW
open PySem PySem.Spec PyProof.Rows L2 Evl RBX
section
variable {P : Program} {w : World} {K : PySem.W.Frag} {mg : Str → Option Value} {base : Heap} {f : Addr} {fd : FuncData}
/-! ### pieces -/
def pcsI (W : RB.Web) (x i : Nat) : List (List Nat) := ((List.range i).filter fun p => decide (RB.heads W (RB.tiesOf W x) p = p)).map fun p => (List.range W.n).filter fun q => decide (RB.heads W (RB.tiesOf W x) q = p)
theorem pcsI_succ (W : RB.Web) (x i : Nat) : pcsI W x (i + 1) = pcsI W x i ++ if RB.heads W (RB.tiesOf W x) i = i then [(List.range W.n).filter fun q => decide (RB.heads W (RB.tiesOf W x) q = i)] else [] := by
  unfold pcsI
  rw [List.range_succ, List.filter_append, List.map_append]
  congr 1
  by_cases h : RB.heads W (RB.tiesOf W x) i = i
  · rw [if_pos h, List.filter_cons, if_pos (decide_eq_true h)]; rfl
  · rw [if_neg h, List.filter_cons, if_neg (by rw [decide_eq_false h]; decide)]; rfl
theorem pcsI_len (W : RB.Web) (x i : Nat) : (pcsI W x i).length ≤ i := by
  unfold pcsI
  rw [List.length_map]
  have := List.length_filter_le (fun p => decide (RB.heads W (RB.tiesOf W x) p = p)) (List.range i)
  rw [List.length_range] at this
  exact this
def sp_pieces (K : PySem.W.Frag) : Sp := fun vs H Q _ => ∃ (v : V) (W : RB.Web) (x : Nat), vs = [v, nV x] ∧ IsWeb K H v W ∧ W.Good ∧ x < 2 ^ W.m ∧ ∀ p H2 xs, H p = none → Ex H H2 → H2 p = some (.lst xs) → RefLs H2 p xs (RB.piecesOf W x) → Q (.ref p) H2
theorem ok_pieces (Z : Blt mg) (F : Fun K "pieces" "pieces" s_pieces f fd) (D_look_set : Def P w K mg base "look_set" 2 ["web", "some"] (sp_look_set K)) (D_ties_in : Def P w K mg base "ties_in" 1 ["some"] (sp_ties_in K)) : FnOk P w K mg base CX0 3 f fd ["web", "some"] (sp_pieces K) := by
  refine F.ok sc_pieces (fun vs H Q E h => ?_) (fun cdv A outer s H vs Q E hr h => ?_)
  · obtain ⟨v, W, x, rfl, _⟩ := h
    rfl
  · obtain ⟨v, W, x, rfl, hw, g, hx, q⟩ := h
    refine ⟨_, (pss_cons (ps_expr (pe_callD D_look_set hr (by decide) (by rfl) (pa_cons (pv 0) (pa_cons (pv 1) pa_nil))))
  (pss_cons (ps_set (i := 2) sc_pieces.nd rfl (.inr rfl) (pe_listRg rfl (by rfl) Z.list (prg_1 (by rfl) Z.range (pe_ix (ix_tupK K) (pv 0) pe_int (fun _ _ => rfl)))))
  (pss_cons (ps_for PassesOwn.never rfl (pi_listK K (pe_callD D_ties_in hr (by decide) (by rfl) (pa_cons (pv 1) pa_nil))) (pg_name (i := 3) sc_pieces.nd rfl (.inl rfl)) (pss_cons (ps_asg (pe_ix (ix_tupK K) (pe_ix (ix_tupK K) (pv 0) pe_int (fun _ _ => rfl)) (pv 3) (fun _ _ => rfl)) (pg_tupK K (pg_tup rfl (pgs_cons (pg_name (i := 4) sc_pieces.nd rfl (.inl rfl)) (pgs_cons (pg_name (i := 5) sc_pieces.nd rfl (.inl rfl)) (pgs_cons (pg_name (i := 6) sc_pieces.nd rfl (.inl rfl)) pgs_nil))))))
  (pss_cons (ps_set (i := 7) sc_pieces.nd rfl (.inr rfl) (pe_callB (call_min2 rfl) (by rfl) Z.min (by decide +kernel) (pa_cons (pe_ix (ix_listK K) (pv 2) (pv 4) (fun _ _ => rfl)) (pa_cons (pe_ix (ix_listK K) (pv 2) (pv 5) (fun _ _ => rfl)) pa_nil))))
  (pss_cons (ps_set (i := 8) sc_pieces.nd rfl (.inr rfl) (pe_callB (call_max2 rfl) (by rfl) Z.max (by decide +kernel) (pa_cons (pe_ix (ix_listK K) (pv 2) (pv 4) (fun _ _ => rfl)) (pa_cons (pe_ix (ix_listK K) (pv 2) (pv 5) (fun _ _ => rfl)) pa_nil))))
  (pss_one (ps_set (i := 2) sc_pieces.nd rfl (.inr rfl) (pe_lc (own := [("number", 11)]) rfl sc_pieces.nd (pi_listK K (pv 2)) (blkOk_by (N := N_pieces) (sc := defScope s_pieces) (by decide +kernel)) (fun _ _ _ _ _ => (pg_name (i := 11) sc_pieces.nd rfl (.inl rfl))) (fun _ _ _ _ _ => pts_nil) (fun _ _ _ _ _ => (pe_ifExp (pt_cmpR op_eq (pv 11) (pv 8) (nomark _)) (pv 7) (pv 11))))))))))
  (pss_cons (ps_set (i := 9) sc_pieces.nd rfl (.inl rfl) (pe_lst pa_nil))
  (pss_cons (ps_for PassesOwn.never rfl (pi_range1 (by rfl) Z.range (pa_cons (pe_ix (ix_tupK K) (pv 0) pe_int (fun _ _ => rfl)) pa_nil)) (pg_name (i := 10) sc_pieces.nd rfl (.inr rfl)) (pss_one (ps_if (pt_cmpR op_eq (pe_ix (ix_listK K) (pv 2) (pv 10) (fun _ _ => rfl)) (pv 10) (nomark _)) (pss_one (ps_expr (pe_bmK K (pe_bm PySem.F.plainAttrs_list PySem.F.slot_list_append PySem.F.type_list_append mt_append (pv 9) (pa_cons (pe_lc (own := [("other", 5)]) rfl sc_pieces.nd (pi_range1 (by rfl) Z.range (pa_cons (pe_ix (ix_tupK K) (pv 0) pe_int (fun _ _ => rfl)) pa_nil)) (blkOk_by (N := N_pieces) (sc := defScope s_pieces) (by decide +kernel)) (fun _ _ _ _ _ => (pg_name (i := 5) sc_pieces.nd rfl (.inl rfl))) (fun _ _ _ _ _ => (pts_one (pt_cmpR op_eq (pe_ix (ix_listK K) (pv 2) (pv 5) (fun _ _ => rfl)) (pv 10) (nomark _)))) (fun _ _ _ _ _ => (pv 5))) pa_nil))))) pss_nil)))
  (pss_one (ps_ret (pv 9)))))))), ?_⟩
    have n5 := g.n5
    refine q_drop (ev_call (ea_cons (ev_var rfl) (ea_cons (ev_var rfl) ea_nil)) fun H1 e Q q E => ⟨v, W, x, rfl, hw.mono e, g, hx, q⟩) fun H1 e1 => ?_
    refine q_asgL (el_rng (ev_n (hw.mono e1) (ev_var rfl)) (by omega)) fun L0 H2 nL0 e2 hL0 => ?_
    refine q_forNLn (xs := (RB.tiesOf W x).map nV) (el_call (ea_cons (ev_var rfl) ea_nil) (sp_ties_at g hx))
      (fun p i σ' H' => ∃ (L : Addr) (y3 y4 y5 y6 y7 y8 : Option V), σ' = [some v, some (nV x), some (.ref L), y3, y4, y5, y6, y7, y8, none, none, none] ∧ Ex H H' ∧ H' p = some (.lst ((RB.tiesOf W x).map nV)) ∧ H' L = some (.lst (rmap W.n fun q => nV (RB.heads W ((RB.tiesOf W x).take i) q))))
      (fun p H3 np e3 hp => ⟨L0, none, none, none, none, none, none, rfl, (e1.trans e2).trans e3, hp, e3 _ _ hL0⟩) (fun p i σ' H' _ h => let ⟨_, _, _, _, _, _, _, _, _, hp, _⟩ := h; sq_of hp) ?_ ?_
    · rintro p i y σ' H' hy ⟨L, y3, y4, y5, y6, y7, y8, rfl, eH, hp, hL⟩
      rw [List.getElem?_map] at hy
      obtain ⟨k, hk, rfl⟩ := Option.map_eq_some_iff.mp hy
      have hm := (RB.mem_tiesOf.mp (List.mem_of_getElem? hk)).1
      obtain ⟨r, h1, h2⟩ := ev_tie (K := K) (σ := [some v, some (nV x), some (.ref L), some (nV k), y4, y5, y6, y7, y8, none, none, none]) (tw := tVar 0) (tk := tVar 3) (hw.mono eH) (ev_var rfl) (ev_var rfl) hm
      refine q_unp3 h1 h2 fun H3 e3 => ?_
      refine q_asg (ev_min2n (i := RB.heads W ((RB.tiesOf W x).take i) (W.a k)) (j := RB.heads W ((RB.tiesOf W x).take i) (W.b k)) (ev_ixL (ev_var rfl) (ev_var rfl) (e3 _ _ hL) (rmap_get (g.an k hm))) (ev_ixL (ev_var rfl) (ev_var rfl) (e3 _ _ hL) (rmap_get (g.bn k hm)))) fun H4 e4 => ?_
      have hL4 := e4 _ _ (e3 _ _ hL)
      refine q_asg (ev_max2n (i := RB.heads W ((RB.tiesOf W x).take i) (W.a k)) (j := RB.heads W ((RB.tiesOf W x).take i) (W.b k)) (ev_ixL (ev_var rfl) (ev_var rfl) hL4 (rmap_get (g.an k hm))) (ev_ixL (ev_var rfl) (ev_var rfl) hL4 (rmap_get (g.bn k hm)))) fun H5 e5 => ?_
      refine s_asgL (el_mapS (ks := List.range W.n) (toV := fun q => nV (RB.heads W ((RB.tiesOf W x).take i) q)) (fun q => nV (RB.merge W (RB.heads W ((RB.tiesOf W x).take i)) k q)) (ev_var rfl) (sq_of (e5 _ _ hL4)) (by rw [List.length_range]; omega) (fun _ => rfl) (fun q H6 e6 hq => ?_)) fun L' H6 nL' e6 hL' => ?_
      · refine ev_if (et_eqn (ev_var rfl) (ev_var rfl)) (fun hb => ev_is (ev_var rfl) (congrArg (fun n : Nat => nV n) ?_)) (fun hb => ev_is (ev_var rfl) (congrArg (fun n : Nat => nV n) ?_))
        · exact (if_pos (of_decide_eq_true hb)).symm
        · exact (if_neg (of_decide_eq_false hb)).symm
      · refine ⟨L', _, _, _, _, _, _, rfl, ((((eH.trans e3).trans e4).trans e5).trans e6), e6 _ _ (e5 _ _ (e4 _ _ (e3 _ _ hp))), ?_⟩
        rw [hL', List.take_add_one, hk]
        show some (HO.lst _) = some (HO.lst (rmap W.n fun q => nV (RB.heads W ((RB.tiesOf W x).take i ++ [k]) q)))
        rw [RB.heads_append]; rfl
    · rintro p σ' H' ⟨L, y3, y4, y5, y6, y7, y8, rfl, eH, hp, hL⟩
      rw [List.length_map, List.take_length] at hL
      refine q_asgL (el_lst ea_nil (by decide)) fun fo H3 nfo e3 hfo => ?_
      have nfo0 : H fo = none := fresh_back eH nfo
      have nLf : L ≠ fo := ne_of_none hL nfo
      refine q_forRn (n := W.n) (ea_cons (ev_n (hw.mono (eH.trans e3)) (ev_var rfl)) ea_nil) (by omega)
        (fun i σ' H' => ∃ (y10 : Option V) (xs : List V), σ' = [some v, some (nV x), some (.ref L), y3, y4, y5, y6, y7, y8, some (.ref fo), y10, none] ∧ Ex H H' ∧ H' L = some (.lst (rmap W.n fun q => nV (RB.heads W (RB.tiesOf W x) q))) ∧ H' fo = some (.lst xs) ∧ RefLs H' fo xs (pcsI W x i))
        (fun H4 e4 => ⟨none, [], rfl, (eH.trans e3).trans e4, e4 _ _ (e3 _ _ hL), e4 _ _ hfo, .nil⟩) ?_ ?_
      · rintro i σ' H5 hi ⟨y10, xs, rfl, e5, hL5, hfo5, rl⟩
        have hlen : xs.length < 100000 := by
          rw [rl.len]
          have := pcsI_len W x i
          omega
        refine s_when (et_eqn (i := RB.heads W (RB.tiesOf W x) i) (j := i) (ev_ixL (ev_var rfl) (ev_var rfl) hL5 (rmap_get hi)) (ev_var rfl)) (fun hb H6 e6 => ?_) (fun hb H6 e6 => ?_)
        · refine s_appL (e6 _ _ hfo5) (ev_var rfl) (el_lcRn (n := W.n) (fun q => decide (RB.heads W (RB.tiesOf W x) q = i)) nV (ea_cons (ev_n (hw.mono (e5.trans e6)) (ev_var rfl)) ea_nil) (by omega) (fun _ => rfl)
            (fun j H7 e7 hj => et_eqn (ev_ixL (ev_var rfl) (ev_var rfl) (e7 _ _ (e6 _ _ hL5)) (rmap_get hj)) (ev_var rfl)) (fun j H7 e7 hj _ => ev_var rfl)) hlen fun p2 H7 np2 e7 hp2 => ?_
          have np2f : p2 ≠ fo := (ne_of_none (e6 _ _ hfo5) np2).symm
          refine ⟨_, _, rfl, ((e5.trans e6).trans e7).mut nfo0, by rw [upd_ne nLf]; exact e7 _ _ (e6 _ _ hL5), upd_same, ?_⟩
          rw [pcsI_succ, if_pos (of_decide_eq_true hb)]
          exact RefLs.snoc ⟨p2, rfl, np2f, by rw [upd_ne np2f]; exact hp2⟩ (rl.mono fun a o ha h => by rw [upd_ne ha]; exact e7 _ _ (e6 _ _ h))
        · refine ⟨_, xs, rfl, e5.trans e6, e6 _ _ hL5, e6 _ _ hfo5, ?_⟩
          rw [pcsI_succ, if_neg (of_decide_eq_false hb), List.append_nil]
          exact rl.mono fun a o _ h => e6 _ _ h
      · rintro σ' H5 ⟨y10, xs, rfl, e5, hL5, hfo5, rl⟩
        exact s_ret (ev_var rfl) fun H6 e6 => q fo H6 xs nfo0 (e5.trans e6) (e6 _ _ hfo5) (rl.mono fun a o _ h => e6 _ _ h)
/-! ### is_ring, of a ring -/
theorem deg_tiesAt (W : RB.Web) (x p : Nat) : RB.deg W (RB.tiesOf W x) p = (tiesAt W x p).length := by
  unfold RB.deg tiesAt
  rw [List.countP_eq_length_filter]
def sp_is_ring (K : PySem.W.Frag) : Sp := fun vs H Q _ => ∃ (v : V) (W : RB.Web) (x : Nat), vs = [v, nV x] ∧ IsWeb K H v W ∧ W.Good ∧ x < 2 ^ W.m ∧ RB.IsRing W x ∧ RetV (.bl true) H Q
theorem ok_is_ring (Z : Blt mg) (F : Fun K "is_ring" "is_ring" s_is_ring f fd) (D_is_even : Def P w K mg base "is_even" 4 ["web", "some"] (sp_is_even K)) (D_ties_at : Def P w K mg base "ties_at" 2 ["web", "some", "point"] (sp_ties_at_ K)) (D_pieces : Def P w K mg base "pieces" 3 ["web", "some"] (sp_pieces K)) : FnOk P w K mg base CX0 5 f fd ["web", "some"] (sp_is_ring K) := by
  refine F.ok sc_is_ring (fun vs H Q E h => ?_) (fun cdv A outer s H vs Q E hr h => ?_)
  · obtain ⟨v, W, x, rfl, _⟩ := h
    rfl
  · obtain ⟨v, W, x, rfl, hw, g, hx, hring, q⟩ := h
    refine ⟨_, (pss_cons (ps_if (PW.pt (pw_or (pt_not (pt_val (pe_callD D_is_even hr (by decide) (by rfl) (pa_cons (pv 0) (pa_cons (pv 1) pa_nil))))) (pw_or1 (pt_cmpR op_eq (pv 1) pe_int (nomark _))))) (pss_one (ps_ret pe_bl)) pss_nil)
  (pss_cons (ps_setLc (i := 2) (own := [("point", 3)]) rfl sc_is_ring.nd rfl rfl (sw_true rfl rfl rfl (by decide +kernel)) (pi_range1 (by rfl) Z.range (pa_cons (pe_ix (ix_tupK K) (pv 0) pe_int (fun _ _ => rfl)) pa_nil)) (blkOk_by (N := N_is_ring) (sc := defScope s_is_ring) (by decide +kernel)) (fun _ _ _ _ _ => (pg_name (i := 3) sc_is_ring.nd rfl (.inl rfl))) (fun _ _ _ _ _ => (pts_one (pt_cmpR (neDK K hr.units) (pe_callD D_ties_at hr (by decide) (by rfl) (pa_cons (pv 0) (pa_cons (pv 1) (pa_cons (pv 3) pa_nil)))) (pe_lst pa_nil) (nomark _)))) (fun _ _ _ _ _ => (pv 3)))
  (pss_cons (ps_for PassesOwn.never rfl (pi_listK K (pv 2)) (pg_name (i := 3) sc_is_ring.nd rfl (.inl rfl)) (pss_one (ps_if (pt_cmpR op_ne (pe_callB (len_seqK K) (by rfl) Z.len PySem.boot_len (pa_cons (pe_callD D_ties_at hr (by decide) (by rfl) (pa_cons (pv 0) (pa_cons (pv 1) (pa_cons (pv 3) pa_nil)))) pa_nil)) pe_int (nomark _)) (pss_one (ps_ret pe_bl)) pss_nil)))
  (pss_one (ps_ret (pe_cmpR (inDK K (room65 hr)) (pv 2) (pe_callD D_pieces hr (by decide) (by rfl) (pa_cons (pv 0) (pa_cons (pv 1) pa_nil))) (by rfl))))))), ?_⟩
    have n5 := g.n5
    have d02 := (hring.deg02 g).2
    have hodd : oddsOf W x = [] := by
      unfold oddsOf
      rw [List.filter_eq_nil_iff]
      intro p hp
      rcases d02 p (List.mem_range.mp hp) with h | h <;> rw [h] <;> decide
    have hpos := RB.ring_pos hring
    refine q_when (b := false) (et_is (et_or (et_not (et_B (ev_call (z := .bl (decide (oddsOf W x = []))) (ea_cons (ev_var rfl) (ea_cons (ev_var rfl) ea_nil)) fun H1 e Q q E => ⟨v, W, x, rfl, hw.mono e, g, hx, q⟩))) fun _ => et_eqn (j := 0) (ev_var rfl) ev_c) ?_) (fun hb => by cases hb) fun _ H1 e1 => ?_
    · rw [decide_eq_true hodd, decide_eq_false (by omega)]; rfl
    refine q_asgL (el_lcRn (n := W.n) (fun p => decide (RB.deg W (RB.tiesOf W x) p ≠ 0)) nV (ea_cons (ev_n (hw.mono e1) (ev_var rfl)) ea_nil) (by omega) (fun _ => rfl) (fun p H2 e2 hp => ?_) (fun p H2 e2 hp _ => ev_var rfl)) fun M H2 nM e2 hM => ?_
    · refine et_is (et_test (ev_neII (ks := tiesAt W x p) (js := []) (el_call (ea_cons (ev_var rfl) (ea_cons (ev_var rfl) (ea_cons (ev_var rfl) ea_nil))) fun H3 e Q q E => ⟨v, W, x, p, rfl, hw.mono ((e1.trans e2).trans e), g, hx, q⟩) (el_lst ea_nil (by decide)))) ?_
      rw [deg_tiesAt, ← decide_not, decide_eq_decide]
      exact not_congr List.length_eq_zero_iff.symm
    refine q_forLn (xs := (RB.metOf W x).map nV) (ev_var rfl) (sq_of hM) (fun i σ' H' => ∃ y3, σ' = [some v, some (nV x), some (.ref M), y3] ∧ Ex H2 H') (fun H3 e3 => ⟨none, rfl, e3⟩) (fun i σ' H' _ h => let ⟨_, _, e⟩ := h; sq_of (e _ _ hM)) ?_ ?_
    · rintro i y σ' H3 hy ⟨y3, rfl, e3⟩
      rw [List.getElem?_map] at hy
      obtain ⟨p, hp, rfl⟩ := Option.map_eq_some_iff.mp hy
      have hpm := List.mem_filter.mp (List.mem_of_getElem? hp)
      have h2 : (tiesAt W x p).length = 2 := by
        rw [← deg_tiesAt]
        exact (d02 p (List.mem_range.mp hpm.1)).resolve_left (of_decide_eq_true hpm.2)
      refine s_when (b := false) (et_is (et_nen (i := ((tiesAt W x p).map nV).length) (j := 2) (ev_lenN (el_call (ea_cons (ev_var rfl) (ea_cons (ev_var rfl) (ea_cons (ev_var rfl) ea_nil))) fun H4 e Q q E => ⟨v, W, x, p, rfl, hw.mono (((e1.trans e2).trans e3).trans e), g, hx, q⟩)) ev_c) ?_) (fun hb => by cases hb) fun _ H4 e4 => ⟨_, rfl, e3.trans e4⟩
      rw [List.length_map, h2]; rfl
    · rintro σ' H3 ⟨y3, rfl, e3⟩
      have e13 := (e1.trans e2).trans e3
      refine s_ret (v := .bl true) (fun H4 e4 Q' q' => ⟨.ref M, rfl, v, rfl, nV x, rfl, v, W, x, rfl, hw.mono (e13.trans e4), g, hx, fun p H5 xs np e5 hp rl => ⟨pyL (RB.metOf W x), (RB.piecesOf W x).map pyL, dp_ints (sq_of (e5 _ _ (e4 _ _ (e3 _ _ hM)))), .lst (sq_of hp) rl.dp, shaped_ints _, shaped_lists _, ?_⟩⟩) fun H4 e4 => q H4 (e13.trans e4)
      rw [any_lists, decide_eq_true (RB.met_mem g hring)]
      exact q' H5 e5
end
end RBW
/-! RBW4: is_side, cut_of, side_judged, pair_stands, worths_stand, ring_stands, odd_judged. -/
namespace RBW
open PySem PySem.Spec PyProof.Rows L2 Evl RBX
section
variable {P : Program} {w : World} {K : PySem.W.Frag} {mg : Str → Option Value} {base : Heap} {f : Addr} {fd : FuncData}
/-! ### sides -/
structure Side (n : Nat) (S : List Nat) : Prop where
  lt : ∀ (i p : Nat), S[i]? = some p → p < n
  up : ∀ (i p q : Nat), S[i]? = some p → S[i + 1]? = some q → p < q
  few : S.length ≤ 1000
def sp_is_side (K : PySem.W.Frag) : Sp := fun vs H Q _ => ∃ (v : V) (W : RB.Web) (a : Addr) (S : List Nat), vs = [v, .ref a] ∧ IsWeb K H v W ∧ SqL K H a (S.map nV) ∧ Side W.n S ∧ RetV (.bl true) H Q
theorem ok_is_side (Z : Blt mg) (F : Fun K "is_side" "is_side" s_is_side f fd) : FnOk P w K mg base CX0 1 f fd ["web", "side"] (sp_is_side K) := by
  refine F.ok sc_is_side (fun vs H Q E h => ?_) (fun cdv A outer s H vs Q E hr h => ?_)
  · obtain ⟨v, W, a, S, rfl, _⟩ := h
    rfl
  · obtain ⟨v, W, a, S, rfl, hw, hS, hs, q⟩ := h
    refine ⟨_, (pss_cons (ps_for PassesOwn.never rfl (pi_range1 (by rfl) Z.range (pa_cons (pe_callB (len_seqK K) (by rfl) Z.len PySem.boot_len (pa_cons (pv 1) pa_nil)) pa_nil)) (pg_name (i := 2) sc_is_side.nd rfl (.inl rfl)) (pss_one (ps_if (PW.pt (pw_or (pt_cmpR op_lt (pe_ix (ix_listK K) (pv 1) (pv 2) (fun _ _ => rfl)) pe_int (nomark _)) (pw_or (pt_cmpR op_ge (pe_ix (ix_listK K) (pv 1) (pv 2) (fun _ _ => rfl)) (pe_ix (ix_tupK K) (pv 0) pe_int (fun _ _ => rfl)) (nomark _)) (pw_or1 (PW.pt (pw_and (pt_cmpR op_gt (pv 2) pe_int (nomark _)) (pw_and1 (pt_cmpR op_le (pe_ix (ix_listK K) (pv 1) (pv 2) (fun _ _ => rfl)) (pe_ix (ix_listK K) (pv 1) (pe_op op_sub (pv 2) pe_int) (fun _ _ => rfl)) (nomark _))))))))) (pss_one (ps_ret pe_bl)) pss_nil)))
  (pss_one (ps_ret pe_bl))), ?_⟩
    have few := hs.few
    refine q_forRn (n := S.length) (ea_cons (ev_lenS (ev_var rfl) hS) ea_nil) (by omega) (fun i σ' H' => ∃ y2, σ' = [some v, some (.ref a), y2] ∧ Ex H H') (fun H1 e1 => ⟨none, rfl, e1⟩) ?_ ?_
    · rintro i σ' H1 hi ⟨y2, rfl, e1⟩
      obtain ⟨p, hp⟩ : ∃ p, S[i]? = some p := ⟨S[i], List.getElem?_eq_getElem hi⟩
      have hix : ∀ {j r : Nat} {H2 : Hp} {tj : TE}, Ex H1 H2 → S[j]? = some r → Ev tj [some v, some (.ref a), some (nV i)] H2 (nV j) → Ev (tOp (rIxL K) (tVar 1) tj) [some v, some (.ref a), some (nV i)] H2 (nV r) := fun {j r H2 tj} e h hj =>
        ev_op (ev_var rfl) hj (rv_ixL (ex_l (e1.trans e) hS) (atI_nat (by rw [List.getElem?_map, h]; rfl)))
      refine s_when (b := false) (et_is (et_or (et_test (ev_op (hix (Ex.refl _) hp (ev_var rfl)) ev_c rv_I0)) fun _ => et_or (et_test (ev_op (hix (Ex.refl _) hp (ev_var rfl)) (ev_n (hw.mono e1) (ev_var rfl)) rv_I0)) fun _ => et_is (b := false) (et_and (b := false) (et_test (ev_op (ev_var rfl) ev_c rv_I0)) fun hb => ?_) (Bool.and_false _)) ?_) (fun hb => by cases hb) fun _ H2 e2 => ⟨_, rfl, e1.trans e2⟩
      · have h0 := of_decide_eq_true hb
        obtain ⟨j, rfl⟩ : ∃ j, i = j + 1 := ⟨i - 1, by omega⟩
        obtain ⟨r, hrr⟩ : ∃ r, S[j]? = some r := ⟨S[j], List.getElem?_eq_getElem (by omega)⟩
        have := hs.up j r p hrr hp
        refine et_is (et_test (ev_op (hix (Ex.refl _) hp (ev_var rfl)) (hix (j := j) (Ex.refl _) hrr (ev_is (ev_op (ev_var rfl) ev_c rv_I0) (congrArg V.int (by omega)))) rv_I0)) (decide_eq_false (by omega))
      · have := hs.lt i p hp
        rw [Bool.or_false, Bool.or_eq_false_iff]
        exact ⟨decide_eq_false (by omega), decide_eq_false (by omega)⟩
    · rintro σ' H1 ⟨y2, rfl, e1⟩
      exact s_ret ev_c fun H2 e2 => q H2 (e1.trans e2)
/-! ### cut_of -/
def sp_cut_of (K : PySem.W.Frag) : Sp := fun vs H Q _ => ∃ (v : V) (W : RB.Web) (a : Addr) (S : List Nat), vs = [v, .ref a] ∧ IsWeb K H v W ∧ W.Good ∧ SqL K H a (S.map nV) ∧ Side W.n S ∧ RetV (nV (RB.cutI W (sideF S) W.m)) H Q
theorem ok_cut_of (Z : Blt mg) (F : Fun K "cut_of" "cut_of" s_cut_of f fd) (D_is_side : Def P w K mg base "is_side" 1 ["web", "side"] (sp_is_side K)) : FnOk P w K mg base CX0 2 f fd ["web", "side"] (sp_cut_of K) := by
  refine F.ok sc_cut_of (fun vs H Q E h => ?_) (fun cdv A outer s H vs Q E hr h => ?_)
  · obtain ⟨v, W, a, S, rfl, _⟩ := h
    rfl
  · obtain ⟨v, W, a, S, rfl, hw, g, hS, hs, q⟩ := h
    refine ⟨_, (pss_cons (ps_if (pt_not (pt_val (pe_callD D_is_side hr (by decide) (by rfl) (pa_cons (pv 0) (pa_cons (pv 1) pa_nil))))) (pss_one ps_never) pss_nil)
  (pss_cons (ps_set (i := 2) sc_cut_of.nd rfl (.inl rfl) pe_int)
  (pss_cons (ps_for PassesOwn.never rfl (pi_enumK K (by rfl) Z.enumerate (pa_cons (pe_ix (ix_tupK K) (pv 0) pe_int (fun _ _ => rfl)) pa_nil)) (pg_tupK K (pg_tup rfl (pgs_cons (pg_name (i := 3) sc_cut_of.nd rfl (.inl rfl)) (pgs_cons (pg_name (i := 4) sc_cut_of.nd rfl (.inl rfl)) pgs_nil)))) (pss_one (ps_if (pt_cmpR op_ne (pe_cmpR (in_seqK K) (pe_ix (ix_tupK K) (pv 4) pe_int (fun _ _ => rfl)) (pv 1) (by rfl)) (pe_cmpR (in_seqK K) (pe_ix (ix_tupK K) (pv 4) pe_int (fun _ _ => rfl)) (pv 1) (by rfl)) (nomark _)) (pss_one (ps_set (i := 2) sc_cut_of.nd rfl (.inl rfl) (pe_op op_or (pv 2) (pe_op op_shl pe_int (pv 3))))) pss_nil)))
  (pss_one (ps_ret (pv 2)))))), ?_⟩
    have m6 := g.m6
    refine q_when (b := false) (et_not (a := true) (et_B (ev_call (ea_cons (ev_var rfl) (ea_cons (ev_var rfl) ea_nil)) fun H1 e Q q E => ⟨v, W, a, S, rfl, hw.mono e, ex_l e hS, hs, q⟩))) (fun hb => by cases hb) fun _ H1 e1 => ?_
    refine q_asg ev_c fun H2 e2 => ?_
    obtain ⟨tq, rs, h1, h3, h4, h5⟩ := ev_ts (K := K) (σ := [some v, some (.ref a), some (.int 0), none, none]) (tw := tVar 0) (hw.mono (e1.trans e2)) (ev_var rfl)
    refine q_forE (ea_cons h1 ea_nil) h3 (fun i σ' H' => ∃ y3 y4, σ' = [some v, some (.ref a), some (nV (RB.cutI W (sideF S) i)), y3, y4] ∧ Ex H2 H') (fun H3 e3 => ⟨none, none, rfl, e3⟩) (fun i σ' H' _ h => let ⟨_, _, _, e⟩ := h; ex_t e h3) ?_ ?_
    · rintro i y σ' H3 T hy ⟨y3, y4, rfl, e3⟩ nT
      have hm : i < W.m := by
        have := (List.getElem?_eq_some_iff.mp hy).1
        rw [List.length_map] at this
        omega
      obtain ⟨r, hr1, hr2⟩ := h5 i hm
      have ey : y = .ref r := by
        rw [List.getElem?_map, hr1] at hy
        exact (Option.some.inj hy).symm
      subst ey
      have eT : Ex H3 (upd H3 T (.tup [nV i, .ref r])) := Ex.new nT
      refine ⟨T, _, rfl, st_of upd_same, rfl, _, _, rfl, _, _, rfl, rfl, ?_⟩
      have hr3 : SqT K (upd H3 T (.tup [nV i, .ref r])) r [nV (W.a i), nV (W.b i), .int (W.l i)] := ex_t (e3.trans eT) hr2
      have hS3 : SqL K (upd H3 T (.tup [nV i, .ref r])) a (S.map nV) := ex_l (((e1.trans e2).trans e3).trans eT) hS
      refine s_when (b := RB.crosses W (sideF S) i) (et_neb (ev_inS (ev_ixT (j := 0) (ev_var rfl) ev_c hr3 rfl) (ev_var rfl) hS3) (ev_inS (ev_ixT (j := 1) (ev_var rfl) ev_c hr3 rfl) (ev_var rfl) hS3)) (fun hb H4 e4 => ?_) (fun hb H4 e4 => ?_)
      · refine s_asg (v := nV (RB.cutI W (sideF S) (i + 1))) (ev_is (ev_op (ev_var rfl) (ev_shl1 (k := i) (ev_var rfl) (by omega)) rv_I0) ?_) fun H5 e5 => ⟨_, _, rfl, ((e3.trans eT).trans e4).trans e5⟩
        show V.int (Builtin.bitOr ((RB.cutI W (sideF S) i : Nat) : Int) ((2 ^ i : Nat) : Int)) = V.int ((if RB.crosses W (sideF S) i = true then RB.cutI W (sideF S) i + 2 ^ i else RB.cutI W (sideF S) i : Nat) : Int)
        rw [Bits.bitOr_pp (Int.natCast_nonneg _) (Int.natCast_nonneg _), Int.toNat_natCast, Int.toNat_natCast, RB.cutI_or, if_pos hb]
      · refine ⟨some (nV i), some (.ref r), ?_, (e3.trans eT).trans e4⟩
        have : RB.cutI W (sideF S) (i + 1) = RB.cutI W (sideF S) i := if_neg (by rw [hb]; decide)
        rw [this]; rfl
    · rintro σ' H3 ⟨y3, y4, rfl, e3⟩
      have : (rs.map V.ref).length = W.m := by rw [List.length_map, h4]
      rw [this]
      exact s_ret (ev_var rfl) fun H4 e4 => q H4 (((e1.trans e2).trans e3).trans e4)
/-! ### side_judged, of a side -/
def sW : V := .str "side"
def rW : V := .str "ring"
def sp_side_judged (K : PySem.W.Frag) : Sp := fun vs H Q _ => ∃ (v : V) (W : RB.Web) (M : Nat) (t a : Addr) (S : List Nat), vs = [v, nV M, .ref t] ∧ IsWeb K H v W ∧ W.Good ∧ M < 2 ^ W.m ∧ SqT K H t [sW, .ref a] ∧ SqL K H a (S.map nV) ∧ Side W.n S ∧ RetV (.bl (decide (RB.cutI W (sideF S) W.m = M))) H Q
theorem ok_side_judged (Z : Blt mg) (F : Fun K "side_judged" "side_judged" s_side_judged f fd) (D_look_set : Def P w K mg base "look_set" 2 ["web", "some"] (sp_look_set K)) (D_is_side : Def P w K mg base "is_side" 1 ["web", "side"] (sp_is_side K)) (D_cut_of : Def P w K mg base "cut_of" 2 ["web", "side"] (sp_cut_of K))
    (D_all_ties : Def P w K mg base "all_ties" 1 ["web"] (sp_all_ties K)) (D_is_ring : Def P w K mg base "is_ring" 5 ["web", "some"] (sp_is_ring K)) (D_common : Def P w K mg base "common" 2 ["one", "other"] (sp_common K)) : FnOk P w K mg base CX0 6 f fd ["web", "some", "answer"] (sp_side_judged K) := by
  refine F.ok sc_side_judged (fun vs H Q E h => ?_) (fun cdv A outer s H vs Q E hr h => ?_)
  · obtain ⟨v, W, M, t, a, S, rfl, _⟩ := h
    rfl
  · obtain ⟨v, W, M, t, a, S, rfl, hw, g, hM, ht, hS, hs, q⟩ := h
    refine ⟨_, (pss_cons (ps_expr (pe_callD D_look_set hr (by decide) (by rfl) (pa_cons (pv 0) (pa_cons (pv 1) pa_nil))))
  (pss_cons (ps_asg (pv 2) (pg_tupK K (pg_tup rfl (pgs_cons (pg_name (i := 3) sc_side_judged.nd rfl (.inl rfl)) (pgs_cons (pg_name (i := 4) sc_side_judged.nd rfl (.inl rfl)) pgs_nil)))))
  (pss_cons (ps_if (pt_cmpR op_eq (pv 3) pe_str (nomark _)) (pss_one (ps_ret (pe_and (pe_callD D_is_side hr (by decide) (by rfl) (pa_cons (pv 0) (pa_cons (pv 4) pa_nil))) (pe_one (pe_cmpR op_eq (pe_callD D_cut_of hr (by decide) (by rfl) (pa_cons (pv 0) (pa_cons (pv 4) pa_nil))) (pv 1) (nomark _)))))) pss_nil)
  (pss_cons (ps_if (PW.pt (pw_or (pt_cmpR op_lt (pv 4) pe_int (nomark _)) (pw_or (pt_cmpR op_gt (pv 4) (pe_callD D_all_ties hr (by decide) (by rfl) (pa_cons (pv 0) pa_nil)) (nomark _)) (pw_or1 (pt_not (pt_val (pe_callD D_is_ring hr (by decide) (by rfl) (pa_cons (pv 0) (pa_cons (pv 4) pa_nil))))))))) (pss_one (ps_ret pe_bl)) pss_nil)
  (pss_one (ps_ret (pe_cmpR op_eq (pe_op op_mod (pe_callD D_common hr (by decide) (by rfl) (pa_cons (pv 4) (pa_cons (pv 1) pa_nil))) pe_int) pe_int (nomark _)))))))), ?_⟩
    refine q_drop (ev_call (ea_cons (ev_var rfl) (ea_cons (ev_var rfl) ea_nil)) fun H1 e Q q E => ⟨v, W, M, rfl, hw.mono e, g, hM, q⟩) fun H1 e1 => ?_
    refine q_unp2 (ev_var rfl) (ex_t e1 ht) fun H2 e2 => ?_
    have e12 := e1.trans e2
    refine q_when (b := true) (et_is (et_test (ev_op (ev_var rfl) ev_c (rv_eq rfl))) (by decide)) (fun _ H3 e3 => ?_) (fun hb => by cases hb)
    have e13 := e12.trans e3
    refine s_ret (ev_is (ev_andV (ev_call (z := .bl true) (ea_cons (ev_var rfl) (ea_cons (ev_var rfl) ea_nil)) fun H4 e Q q E => ⟨v, W, a, S, rfl, hw.mono (e13.trans e), ex_l (e13.trans e) hS, hs, q⟩) fun _ =>
      ev_eqn (ev_call (z := nV (RB.cutI W (sideF S) W.m)) (ea_cons (ev_var rfl) (ea_cons (ev_var rfl) ea_nil)) fun H4 e Q q E => ⟨v, W, a, S, rfl, hw.mono (e13.trans e), g, ex_l (e13.trans e) hS, hs, q⟩) (ev_var rfl)) (congrArg V.bl (Bool.true_and _))) fun H4 e4 => q H4 (e13.trans e4)
/-! ### pair_stands -/
def sp_pair_stands (_ : PySem.W.Frag) : Sp := fun vs H Q _ => ∃ (x y : Option Int) (l : Int), vs = [oV x, oV y, .int l] ∧ RetV (.bl (RB.pairB x y l)) H Q
theorem ev_isN {σ : L2.St} {H : Hp} {ta : TE} {x : V} (h : Ev ta σ H x) : Ev (tOp (fun x y H Q => y = .non ∧ Q (.bl (decide (x = .non))) H) ta (tC .non)) σ H (.bl (decide (x = .non))) :=
  ev_op h ev_c fun H1 e Q q => ⟨rfl, q H1 (Ex.refl H1)⟩
theorem ev_notN {σ : L2.St} {H : Hp} {ta : TE} {x : V} (h : Ev ta σ H x) : Ev (tOp (fun x y H Q => y = .non ∧ Q (.bl (!decide (x = .non))) H) ta (tC .non)) σ H (.bl (!decide (x = .non))) :=
  ev_op h ev_c fun H1 e Q q => ⟨rfl, q H1 (Ex.refl H1)⟩
theorem ok_pair_stands (Z : Blt mg) (F : Fun K "pair_stands" "pair_stands" s_pair_stands f fd) : FnOk P w K mg base CX0 1 f fd ["one", "other", "length"] (sp_pair_stands K) := by
  refine F.ok sc_pair_stands (fun vs H Q E h => ?_) (fun cdv A outer s H vs Q E hr h => ?_)
  · obtain ⟨x, y, l, rfl, _⟩ := h
    rfl
  · obtain ⟨x, y, l, rfl, q⟩ := h
    refine ⟨_, (pss_cons (ps_if (PW.pt (pw_or (pt_cmpR op_isN (pv 0) pe_non (nomark _)) (pw_or1 (pt_cmpR op_isN (pv 1) pe_non (nomark _))))) (pss_one (ps_ret (pe_and (pe_cmpR op_isN (pv 0) pe_non (nomark _)) (pe_one (pe_cmpR op_isN (pv 1) pe_non (nomark _)))))) pss_nil)
  (pss_one (ps_ret (pe_cmpR op_le (pe_callB call_abs (by rfl) Z.abs (by decide +kernel) (pa_cons (pe_op op_sub (pv 0) (pv 1)) pa_nil)) (pv 2) (nomark _))))), ?_⟩
    refine q_when (et_or (et_test (ev_isN (ev_var rfl))) fun _ => et_test (ev_isN (ev_var rfl))) (fun hb H1 e1 => ?_) (fun hb H1 e1 => ?_)
    · refine s_ret (ev_is (ev_andV (ev_isN (ev_var rfl)) fun _ => ev_isN (ev_var rfl)) (w := .bl (RB.pairB x y l)) ?_) fun H2 e2 => q H2 (e1.trans e2)
      cases x <;> cases y <;> first | rfl | cases hb
    · cases x with
      | none => cases hb
      | some d =>
        cases y with
        | none => cases hb
        | some e => exact s_ret (ev_op (ev_cb (ea_cons (ev_op (ev_var rfl) (ev_var rfl) rv_I0) ea_nil) fun H2 e2 Q q => ⟨d - e, rfl, q H2 (Ex.refl H2)⟩) (ev_var rfl) rv_I0) fun H2 e2 => q H2 (e1.trans e2)
end
end RBW
/-! RBW5: worths_stand, ring_stands, odd_judged. -/
namespace RBW
open PySem PySem.Spec PyProof.Rows L2 Evl RBX
section
variable {P : Program} {w : World} {K : PySem.W.Frag} {mg : Str → Option Value} {base : Heap} {f : Addr} {fd : FuncData}
noncomputable def dec (p : Prop) : Bool := @decide p (Classical.propDecidable p)
theorem dec_t {p : Prop} (h : p) : dec p = true := @decide_eq_true p (Classical.propDecidable p) h
theorem dec_f {p : Prop} (h : ¬ p) : dec p = false := @decide_eq_false p (Classical.propDecidable p) h
theorem dec_iff {p : Prop} : dec p = true ↔ p := @decide_eq_true_iff p (Classical.propDecidable p)
def TieOk (W : RB.Web) (M : Nat) (F : Nat → RB.Far) (v k : Nat) (s : Bool) : Prop := RB.pairB (F v (W.a k) s) (F v (W.b k) (xor s (M.testBit k))) (W.l k) = true
def PtOk (W : RB.Web) (M : Nat) (F : Nat → RB.Far) (v : Nat) : Prop := F v v false = some 0 ∧ ∀ k, k < W.m → ∀ s, TieOk W M F v k s
theorem oV_ne0 (x : Option Int) : (!decide (oV x = V.int 0)) = !decide (x = some 0) := by
  congr 1
  rw [decide_eq_decide]
  cases x with
  | none => exact ⟨(fun h => by cases (show V.non = V.int 0 from h)), (fun h => by cases h)⟩
  | some d => exact ⟨fun h => by rw [V.int.inj h], fun h => by rw [Option.some.inj h]; rfl⟩
theorem scal_oV (x : Option Int) : scal (oV x) (V.int 0) = true := by cases x <;> rfl
def sp_worths_stand (K : PySem.W.Frag) : Sp := fun vs H Q _ => ∃ (v wv : V) (W : RB.Web) (M : Nat) (F : Nat → RB.Far), vs = [v, nV M, wv] ∧ IsWeb K H v W ∧ W.Good ∧ M < 2 ^ W.m ∧ IsWor K H wv W.n F ∧ RetV (.bl (dec (RB.Stand W M F))) H Q
theorem ok_worths_stand (Z : Blt mg) (F : Fun K "worths_stand" "worths_stand" s_worths_stand f fd) (D_length_of : Def P w K mg base "length_of" 3 ["web", "some"] (sp_length_of K)) (D_pair_stands : Def P w K mg base "pair_stands" 1 ["one", "other", "length"] (sp_pair_stands K)) : FnOk P w K mg base CX0 4 f fd ["web", "marks", "worths"] (sp_worths_stand K) := by
  refine F.ok sc_worths_stand (fun vs H Q E h => ?_) (fun cdv A outer s H vs Q E hr h => ?_)
  · obtain ⟨v, wv, W, M, F', rfl, _⟩ := h
    rfl
  · obtain ⟨v, wv, W, M, F', rfl, hw, g, hM, hF, q⟩ := h
    refine ⟨_, (pss_cons (ps_expr (pe_callD D_length_of hr (by decide) (by rfl) (pa_cons (pv 0) (pa_cons (pv 1) pa_nil))))
  (pss_cons (ps_for PassesOwn.never rfl (pi_range1 (by rfl) Z.range (pa_cons (pe_ix (ix_tupK K) (pv 0) pe_int (fun _ _ => rfl)) pa_nil)) (pg_name (i := 3) sc_worths_stand.nd rfl (.inl rfl)) (pss_cons (ps_if (pt_cmpR op_ne (pe_ix (ix_tupK K) (pe_ix (ix_tupK K) (pe_ix (ix_tupK K) (pv 2) (pv 3) (fun _ _ => rfl)) (pv 3) (fun _ _ => rfl)) pe_int (fun _ _ => rfl)) pe_int (nomark _)) (pss_one (ps_ret pe_bl)) pss_nil)
  (pss_one (ps_for PassesOwn.never rfl (pi_enumK K (by rfl) Z.enumerate (pa_cons (pe_ix (ix_tupK K) (pv 0) pe_int (fun _ _ => rfl)) pa_nil)) (pg_tupK K (pg_tup rfl (pgs_cons (pg_name (i := 4) sc_worths_stand.nd rfl (.inl rfl)) (pgs_cons (pg_tupK K (pg_tup rfl (pgs_cons (pg_name (i := 5) sc_worths_stand.nd rfl (.inl rfl)) (pgs_cons (pg_name (i := 6) sc_worths_stand.nd rfl (.inl rfl)) (pgs_cons (pg_name (i := 7) sc_worths_stand.nd rfl (.inl rfl)) pgs_nil))))) pgs_nil)))) (pss_cons (ps_set (i := 8) sc_worths_stand.nd rfl (.inl rfl) (pe_op op_and (pe_op op_shr (pv 1) (pv 4)) pe_int))
  (pss_one (ps_for PassesOwn.never rfl (pi_tupK K (pe_tup (pa_cons pe_int (pa_cons pe_int pa_nil)))) (pg_name (i := 9) sc_worths_stand.nd rfl (.inl rfl)) (pss_one (ps_if (pt_not (pt_val (pe_callD D_pair_stands hr (by decide) (by rfl) (pa_cons (pe_ix (ix_tupK K) (pe_ix (ix_tupK K) (pe_ix (ix_tupK K) (pv 2) (pv 3) (fun _ _ => rfl)) (pv 5) (fun _ _ => rfl)) (pv 9) (fun _ _ => rfl)) (pa_cons (pe_ix (ix_tupK K) (pe_ix (ix_tupK K) (pe_ix (ix_tupK K) (pv 2) (pv 3) (fun _ _ => rfl)) (pv 6) (fun _ _ => rfl)) (pe_op op_xor (pv 9) (pv 8)) (fun _ _ => rfl)) (pa_cons (pv 7) pa_nil)))))) (pss_one (ps_ret pe_bl)) pss_nil)))))))))
  (pss_one (ps_ret pe_bl)))), ?_⟩
    have n5 := g.n5
    have qF : ¬ RB.Stand W M F' → ∀ H2, Ex H H2 → Q (.bl false) H2 := fun hn H2 e => by
      have := q H2 e
      rw [dec_f hn] at this
      exact this
    refine q_drop (ev_call (ea_cons (ev_var rfl) (ea_cons (ev_var rfl) ea_nil)) fun H1 e Q q E => ⟨v, W, M, rfl, hw.mono e, g, hM, q⟩) fun H1 e1 => ?_
    refine q_forRn (n := W.n) (ea_cons (ev_n (hw.mono e1) (ev_var rfl)) ea_nil) (by omega)
      (fun i σ' H' => ∃ y3 y4 y5 y6 y7 y8 y9, σ' = [some v, some (nV M), some wv, y3, y4, y5, y6, y7, y8, y9] ∧ Ex H H' ∧ ∀ u, u < i → PtOk W M F' u)
      (fun H2 e2 => ⟨_, _, _, _, _, _, _, rfl, e1.trans e2, fun u hu => absurd hu (Nat.not_lt_zero u)⟩) ?_ ?_
    · rintro i σ' H2 hi ⟨y3, y4, y5, y6, y7, y8, y9, rfl, e2, hall⟩
      refine q_when (b := !decide (F' i i false = some 0)) (et_is (et_test (ev_op (ev_val (s := false) (i := i) (j := i) (hF.mono e2) (ev_var rfl) (ev_var rfl) hi (ev_var rfl) hi ev_c) ev_c (rv_ne (scal_oV _)))) (oV_ne0 _)) (fun hb H3 e3 => ?_) (fun hb H3 e3 => ?_)
      · refine s_ret ev_c fun H4 e4 => qF (fun hs => ?_) H4 ((e2.trans e3).trans e4)
        rw [decide_eq_true (hs i hi).1] at hb
        cases hb
      · have h0 : F' i i false = some 0 := of_decide_eq_true (by
          cases h : decide (F' i i false = some 0) with
          | true => rfl
          | false => rw [h] at hb; cases hb)
        have e23 := e2.trans e3
        obtain ⟨tq, rs, h1, h3, h4, h5⟩ := ev_ts (K := K) (σ := [some v, some (nV M), some wv, some (nV i), y4, y5, y6, y7, y8, y9]) (tw := tVar 0) (hw.mono e23) (ev_var rfl)
        refine s_forE (ea_cons h1 ea_nil) h3
          (fun k σ' H' => ∃ y4 y5 y6 y7 y8 y9, σ' = [some v, some (nV M), some wv, some (nV i), y4, y5, y6, y7, y8, y9] ∧ Ex H3 H' ∧ ∀ j, j < k → ∀ s, TieOk W M F' i j s)
          (fun H4 e4 => ⟨_, _, _, _, _, _, rfl, e4, fun u hu => absurd hu (Nat.not_lt_zero u)⟩) (fun k σ' H' _ h => let ⟨_, _, _, _, _, _, _, e, _⟩ := h; ex_t e h3) ?_ ?_
        · rintro k y σ' H4 T hy ⟨y4, y5, y6, y7, y8, y9, rfl, e4, hk⟩ nT
          have hm : k < W.m := by
            have := (List.getElem?_eq_some_iff.mp hy).1
            rw [List.length_map] at this
            omega
          obtain ⟨r, hr1, hr2⟩ := h5 k hm
          have ey : y = .ref r := by
            rw [List.getElem?_map, hr1] at hy
            exact (Option.some.inj hy).symm
          subst ey
          have eT : Ex H4 (upd H4 T (.tup [nV k, .ref r])) := Ex.new nT
          have hr3 : SqT K (upd H4 T (.tup [nV k, .ref r])) r [nV (W.a k), nV (W.b k), .int (W.l k)] := ex_t (e4.trans eT) hr2
          refine ⟨T, _, rfl, st_of upd_same, rfl, _, _, rfl, _, _, rfl, ⟨r, _, rfl, hr3, rfl, _, _, rfl, _, _, rfl, _, _, rfl, rfl, rfl, ?_⟩⟩
          refine q_asg (ev_bitn (x := M) (k := k) (ev_var rfl) (ev_var rfl)) fun H5 e5 => ?_
          have e05 : Ex H H5 := (e23.trans e4).trans (eT.trans e5)
          refine s_forNT (xs := [nV 0, nV 1]) (eu_tup (ea_cons ev_c (ea_cons ev_c ea_nil)) (by show 2 ≤ 100000; decide))
            (fun p j σ' H' => ∃ y9, σ' = [some v, some (nV M), some wv, some (nV i), some (nV k), some (nV (W.a k)), some (nV (W.b k)), some (.int (W.l k)), some (nV (bI (M.testBit k))), y9] ∧ Ex H5 H' ∧ H' p = some (.tup [nV 0, nV 1]) ∧ ∀ s, bI s < j → TieOk W M F' i k s)
            (fun p H6 np e6 hp => ⟨_, rfl, e6, hp, fun s hs => absurd hs (Nat.not_lt_zero _)⟩) (fun p j σ' H' _ h => let ⟨_, _, _, hp, _⟩ := h; st_of hp) ?_ ?_
          · rintro p j y σ' H6 hy ⟨y9, rfl, e6, hp, hj⟩
            obtain ⟨s, rfl, rfl⟩ : ∃ s : Bool, y = nV (bI s) ∧ j = bI s := by
              match j, hy with
              | 0, hy => exact ⟨false, (Option.some.inj hy).symm, rfl⟩
              | 1, hy => exact ⟨true, (Option.some.inj hy).symm, rfl⟩
              | j + 2, hy => cases hy
            have e06 := e05.trans e6
            refine s_when (b := !RB.pairB (F' i (W.a k) s) (F' i (W.b k) (xor s (M.testBit k))) (W.l k)) (et_not (et_B (ev_call (ea_cons (ev_val (i := i) (j := W.a k) (s := s) (hF.mono e06) (ev_var rfl) (ev_var rfl) hi (ev_var rfl) (g.an k hm) (ev_var rfl))
              (ea_cons (ev_val (i := i) (j := W.b k) (s := xor s (M.testBit k)) (hF.mono e06) (ev_var rfl) (ev_var rfl) hi (ev_var rfl) (g.bn k hm) (ev_xorn (s := s) (b := M.testBit k) (ev_var rfl) (ev_var rfl))) (ea_cons (ev_var rfl) ea_nil))) fun H7 e Q q E => ⟨_, _, _, rfl, q⟩))) (fun hb H7 e7 => ?_) (fun hb H7 e7 => ?_)
            · refine s_ret ev_c fun H8 e8 => qF (fun hs => ?_) H8 ((e06.trans e7).trans e8)
              rw [(hs i hi).2 k hm s] at hb
              cases hb
            · refine ⟨_, rfl, e6.trans e7, e7 _ _ hp, fun s' hs' => ?_⟩
              by_cases e : s' = s
              · subst e
                show RB.pairB _ _ _ = true
                cases h : RB.pairB (F' i (W.a k) s') (F' i (W.b k) (xor s' (M.testBit k))) (W.l k) with
                | true => rfl
                | false => rw [h] at hb; cases hb
              · refine hj s' ?_
                cases s <;> cases s' <;> simp_all [bI]
          · rintro p σ' H6 ⟨y9, rfl, e6, hp, hj⟩
            refine ⟨_, _, _, _, _, _, rfl, e4.trans ((eT.trans e5).trans e6), fun j hjk s => ?_⟩
            by_cases e : j = k
            · subst e
              refine hj s ?_
              cases s <;> decide
            · exact hk j (by omega) s
        · rintro σ' H4 ⟨y4, y5, y6, y7, y8, y9, rfl, e4, hk⟩
          rw [List.length_map, h4] at hk
          refine ⟨_, _, _, _, _, _, _, rfl, e23.trans e4, fun u hu => ?_⟩
          by_cases e : u = i
          · subst e; exact ⟨h0, hk⟩
          · exact hall u (by omega)
    · rintro σ' H2 ⟨y3, y4, y5, y6, y7, y8, y9, rfl, e2, hall⟩
      refine s_ret ev_c fun H3 e3 => ?_
      have := q H3 (e2.trans e3)
      rw [dec_t (show RB.Stand W M F' from hall)] at this
      exact this
/-! ### ring_stands, of a ring -/
def Taken (W : RB.Web) (M : Nat) (F : Nat → RB.Far) (x : Nat) : Prop := RB.oddOf W M x = true ∧ RB.Stand W M F ∧ RB.Backs W F (RB.lenOf W x)
def sp_ring_stands (K : PySem.W.Frag) : Sp := fun vs H Q _ => ∃ (v wv : V) (W : RB.Web) (M x : Nat) (F : Nat → RB.Far), vs = [v, nV M, nV x, wv] ∧ IsWeb K H v W ∧ W.Good ∧ M < 2 ^ W.m ∧ x < 2 ^ W.m ∧ RB.IsRing W x ∧ IsWor K H wv W.n F ∧ RetV (.bl (dec (Taken W M F x))) H Q
theorem ok_ring_stands (Z : Blt mg) (F : Fun K "ring_stands" "ring_stands" s_ring_stands f fd) (D_is_ring : Def P w K mg base "is_ring" 5 ["web", "some"] (sp_is_ring K)) (D_common : Def P w K mg base "common" 2 ["one", "other"] (sp_common K))
    (D_worths_stand : Def P w K mg base "worths_stand" 4 ["web", "marks", "worths"] (sp_worths_stand K)) (D_length_of : Def P w K mg base "length_of" 3 ["web", "some"] (sp_length_of K)) : FnOk P w K mg base CX0 6 f fd ["web", "marks", "ring", "worths"] (sp_ring_stands K) := by
  refine F.ok sc_ring_stands (fun vs H Q E h => ?_) (fun cdv A outer s H vs Q E hr h => ?_)
  · obtain ⟨v, wv, W, M, x, F', rfl, _⟩ := h
    rfl
  · obtain ⟨v, wv, W, M, x, F', rfl, hw, g, hM, hx, hring, hF, q⟩ := h
    refine ⟨_, (pss_cons (ps_if (PW.pt (pw_or (pt_cmpR op_lt (pv 2) pe_int (nomark _)) (pw_or (pt_cmpR op_ge (pv 2) (pe_op op_shl pe_int (pe_callB (len_seqK K) (by rfl) Z.len PySem.boot_len (pa_cons (pe_ix (ix_tupK K) (pv 0) pe_int (fun _ _ => rfl)) pa_nil))) (nomark _)) (pw_or (pt_not (pt_val (pe_callD D_is_ring hr (by decide) (by rfl) (pa_cons (pv 0) (pa_cons (pv 2) pa_nil))))) (pw_or1 (pt_cmpR op_eq (pe_op op_mod (pe_callD D_common hr (by decide) (by rfl) (pa_cons (pv 2) (pa_cons (pv 1) pa_nil))) pe_int) pe_int (nomark _))))))) (pss_one (ps_ret pe_bl)) pss_nil)
  (pss_cons (ps_if (pt_not (pt_val (pe_callD D_worths_stand hr (by decide) (by rfl) (pa_cons (pv 0) (pa_cons (pv 1) (pa_cons (pv 3) pa_nil)))))) (pss_one (ps_ret pe_bl)) pss_nil)
  (pss_cons (ps_set (i := 4) sc_ring_stands.nd rfl (.inl rfl) (pe_callD D_length_of hr (by decide) (by rfl) (pa_cons (pv 0) (pa_cons (pv 2) pa_nil))))
  (pss_cons (ps_for PassesOwn.never rfl (pi_range1 (by rfl) Z.range (pa_cons (pe_ix (ix_tupK K) (pv 0) pe_int (fun _ _ => rfl)) pa_nil)) (pg_name (i := 5) sc_ring_stands.nd rfl (.inl rfl)) (pss_cons (ps_set (i := 6) sc_ring_stands.nd rfl (.inl rfl) (pe_ix (ix_tupK K) (pe_ix (ix_tupK K) (pe_ix (ix_tupK K) (pv 3) (pv 5) (fun _ _ => rfl)) (pv 5) (fun _ _ => rfl)) pe_int (fun _ _ => rfl)))
  (pss_one (ps_if (PW.pt (pw_and (pt_cmpR op_notN (pv 6) pe_non (nomark _)) (pw_and1 (pt_cmpR op_lt (pv 6) (pv 4) (nomark _))))) (pss_one (ps_ret pe_bl)) pss_nil))))
  (pss_one (ps_ret pe_bl)))))), ?_⟩
    have n5 := g.n5
    have m6 := g.m6
    have qF : ¬ Taken W M F' x → ∀ H2, Ex H H2 → Q (.bl false) H2 := fun hn H2 e => by
      have := q H2 e
      rw [dec_f hn] at this
      exact this
    refine q_when (b := !RB.oddOf W M x) (et_is (et_or (et_test (ev_op (ev_var rfl) ev_c rv_I0)) fun _ => et_or (et_test (ev_op (ev_var rfl) (ev_shl1 (k := W.m) (ev_m hw (ev_var rfl)) (by omega)) rv_I0)) fun _ => et_or (et_not (et_B (ev_call (z := .bl true) (ea_cons (ev_var rfl) (ea_cons (ev_var rfl) ea_nil)) fun H1 e Q q E => ⟨v, W, x, rfl, hw.mono e, g, hx, hring, q⟩))) fun _ =>
      et_test (ev_op (ev_op (ev_call (z := nV (RB.bits W.m (x &&& M)).length) (ea_cons (ev_var rfl) (ea_cons (ev_var rfl) ea_nil)) fun H1 e Q q E => ⟨x, M, W.m, rfl, hx, by omega, q⟩) ev_c (rv_I (by decide))) ev_c (rv_eq rfl))) ?_) (fun hb H1 e1 => ?_) (fun hb H1 e1 => ?_)
    · rw [decide_eq_false (show ¬ ((x : Int) < 0) by omega), decide_eq_false (show ¬ (((2 ^ W.m : Nat) : Int) ≤ (x : Int)) by omega), Bool.false_or, Bool.false_or, Bool.not_true, Bool.false_or, ← RB.odd_common (M := M) x]
      unfold RB.parL
      rcases Nat.mod_two_eq_zero_or_one (RB.bits W.m (x &&& M)).length with h | h
      · rw [h]
        show decide _ = true
        exact decide_eq_true (congrArg V.int (by omega))
      · rw [h]
        show decide _ = false
        exact decide_eq_false (fun z => by have := V.int.inj z; omega)
    · refine s_ret ev_c fun H2 e2 => qF (fun ht => ?_) H2 (e1.trans e2)
      rw [ht.1] at hb; cases hb
    · have ho : RB.oddOf W M x = true := by
        cases h : RB.oddOf W M x with
        | true => rfl
        | false => rw [h] at hb; cases hb
      refine q_when (et_not (et_B (ev_call (z := .bl (dec (RB.Stand W M F'))) (ea_cons (ev_var rfl) (ea_cons (ev_var rfl) (ea_cons (ev_var rfl) ea_nil))) fun H2 e Q q E => ⟨v, wv, W, M, F', rfl, hw.mono (e1.trans e), g, hM, hF.mono (e1.trans e), q⟩))) (fun hb2 H2 e2 => ?_) (fun hb2 H2 e2 => ?_)
      · refine s_ret ev_c fun H3 e3 => qF (fun ht => ?_) H3 ((e1.trans e2).trans e3)
        rw [dec_t ht.2.1] at hb2; cases hb2
      · have hst : RB.Stand W M F' := dec_iff.mp (by
          cases h : dec (RB.Stand W M F') with
          | true => rfl
          | false => rw [h] at hb2; cases hb2)
        have e12 := e1.trans e2
        refine q_asg (ev_call (z := .int (RB.lenOf W x)) (ea_cons (ev_var rfl) (ea_cons (ev_var rfl) ea_nil)) fun H3 e Q q E => ⟨v, W, x, rfl, hw.mono (e12.trans e), g, hx, q⟩) fun H3 e3 => ?_
        have e13 := e12.trans e3
        refine q_forRn (n := W.n) (ea_cons (ev_n (hw.mono e13) (ev_var rfl)) ea_nil) (by omega)
          (fun i σ' H' => ∃ y5 y6, σ' = [some v, some (nV M), some (nV x), some wv, some (.int (RB.lenOf W x)), y5, y6] ∧ Ex H H' ∧ ∀ u, u < i → ∀ e, F' u u true = some e → RB.lenOf W x ≤ e)
          (fun H4 e4 => ⟨_, _, rfl, e13.trans e4, fun u hu => absurd hu (Nat.not_lt_zero u)⟩) ?_ ?_
        · rintro i σ' H4 hi ⟨y5, y6, rfl, e4, hall⟩
          refine q_asg (ev_val (s := true) (i := i) (j := i) (hF.mono e4) (ev_var rfl) (ev_var rfl) hi (ev_var rfl) hi ev_c) fun H5 e5 => ?_
          cases hv : F' i i true with
          | none =>
            refine s_when (b := false) (et_and (b := false) (a := false) (et_test (ev_is (ev_notN (ev_var rfl)) rfl)) (fun z => by cases z)) (fun hb => by cases hb) fun _ H6 e6 => ⟨_, _, rfl, (e4.trans e5).trans e6, fun u hu e he => ?_⟩
            by_cases eu : u = i
            · subst eu; rw [hv] at he; cases he
            · exact hall u (by omega) e he
          | some d =>
            refine s_when (b := decide (d < RB.lenOf W x)) (et_is (et_and (a := true) (et_test (ev_is (ev_notN (ev_var rfl)) rfl)) fun _ => et_test (ev_op (ev_var (v := .int d) rfl) (ev_var rfl) rv_I0)) (Bool.true_and _)) (fun hb H6 e6 => ?_) (fun hb H6 e6 => ⟨_, _, rfl, (e4.trans e5).trans e6, fun u hu e he => ?_⟩)
            · refine s_ret ev_c fun H7 e7 => qF (fun ht => ?_) H7 (((e4.trans e5).trans e6).trans e7)
              have := ht.2.2 i hi d hv
              have := of_decide_eq_true hb
              omega
            · by_cases eu : u = i
              · subst eu
                rw [hv] at he
                have := Option.some.inj he
                have := of_decide_eq_false hb
                omega
              · exact hall u (by omega) e he
        · rintro σ' H4 ⟨y5, y6, rfl, e4, hall⟩
          refine s_ret ev_c fun H5 e5 => ?_
          have := q H5 (e4.trans e5)
          rw [dec_t (show Taken W M F' x from ⟨ho, hst, hall⟩)] at this
          exact this
/-! ### odd_judged -/
def sp_odd_judged (K : PySem.W.Frag) : Sp := fun vs H Q _ => ∃ (v : V) (W : RB.Web) (M : Nat) (t : Addr), vs = [v, nV M, .ref t] ∧ IsWeb K H v W ∧ W.Good ∧ M < 2 ^ W.m ∧
  ((∃ (wv : V) (x : Nat) (F : Nat → RB.Far), SqT K H t [rW, nV x, wv] ∧ x < 2 ^ W.m ∧ RB.IsRing W x ∧ IsWor K H wv W.n F ∧ RetV (.bl (dec (Taken W M F x))) H Q) ∨
   (∃ (a : Addr) (S : List Nat), SqT K H t [sW, .ref a] ∧ SqL K H a (S.map nV) ∧ Side W.n S ∧ RetV (.bl (decide (RB.cutI W (sideF S) W.m = M))) H Q))
theorem ok_odd_judged (F : Fun K "odd_judged" "odd_judged" s_odd_judged f fd) (D_length_of : Def P w K mg base "length_of" 3 ["web", "some"] (sp_length_of K)) (D_side_judged : Def P w K mg base "side_judged" 6 ["web", "some", "answer"] (sp_side_judged K)) (D_ring_stands : Def P w K mg base "ring_stands" 6 ["web", "marks", "ring", "worths"] (sp_ring_stands K)) : FnOk P w K mg base CX0 7 f fd ["web", "marks", "answer"] (sp_odd_judged K) := by
  refine F.ok sc_odd_judged (fun vs H Q E h => ?_) (fun cdv A outer s H vs Q E hr h => ?_)
  · obtain ⟨v, W, M, t, rfl, _⟩ := h
    rfl
  · obtain ⟨v, W, M, t, rfl, hw, g, hM, h⟩ := h
    refine ⟨_, (pss_cons (ps_expr (pe_callD D_length_of hr (by decide) (by rfl) (pa_cons (pv 0) (pa_cons (pv 1) pa_nil))))
  (pss_cons (ps_if (pt_cmpR op_eq (pe_ix (ix_tupK K) (pv 2) pe_int (fun _ _ => rfl)) pe_str (nomark _)) (pss_one (ps_ret (pe_callD D_side_judged hr (by decide) (by rfl) (pa_cons (pv 0) (pa_cons (pv 1) (pa_cons (pv 2) pa_nil)))))) pss_nil)
  (pss_one (ps_ret (pe_callD D_ring_stands hr (by decide) (by rfl) (pa_cons (pv 0) (pa_cons (pv 1) (pa_cons (pe_ix (ix_tupK K) (pv 2) pe_int (fun _ _ => rfl)) (pa_cons (pe_ix (ix_tupK K) (pv 2) pe_int (fun _ _ => rfl)) pa_nil))))))))), ?_⟩
    refine q_drop (ev_call (ea_cons (ev_var rfl) (ea_cons (ev_var rfl) ea_nil)) fun H1 e Q q E => ⟨v, W, M, rfl, hw.mono e, g, hM, q⟩) fun H1 e1 => ?_
    rcases h with ⟨wv, x, F', ht, hx, hring, hF, q⟩ | ⟨a, S, ht, hS, hs, q⟩
    · refine q_when (b := false) (et_is (et_test (ev_op (ev_ixT (j := 0) (v := rW) (ev_var rfl) ev_c (ex_t e1 ht) rfl) ev_c (rv_eq rfl))) (by decide)) (fun hb => by cases hb) fun _ H2 e2 => ?_
      have e12 := e1.trans e2
      exact s_ret (ev_call (z := .bl (dec (Taken W M F' x))) (ea_cons (ev_var rfl) (ea_cons (ev_var rfl) (ea_cons (ev_ixT (j := 1) (v := nV x) (ev_var rfl) ev_c (ex_t e12 ht) rfl) (ea_cons (ev_ixT (j := 2) (v := wv) (ev_var rfl) ev_c (ex_t e12 ht) rfl) ea_nil)))) fun H3 e Q q E =>
        ⟨v, wv, W, M, x, F', rfl, hw.mono (e12.trans e), g, hM, hx, hring, hF.mono (e12.trans e), q⟩) fun H3 e3 => q H3 (e12.trans e3)
    · refine q_when (b := true) (et_is (et_test (ev_op (ev_ixT (j := 0) (v := sW) (ev_var rfl) ev_c (ex_t e1 ht) rfl) ev_c (rv_eq rfl))) (by decide)) (fun _ H2 e2 => ?_) (fun hb => by cases hb)
      have e12 := e1.trans e2
      exact s_ret (ev_call (z := .bl (decide (RB.cutI W (sideF S) W.m = M))) (ea_cons (ev_var rfl) (ea_cons (ev_var rfl) (ea_cons (ev_var rfl) ea_nil))) fun H3 e Q q E =>
        ⟨v, W, M, t, a, S, rfl, hw.mono (e12.trans e), g, hM, ex_t (e12.trans e) ht, ex_l (e12.trans e) hS, hs, q⟩) fun H3 e3 => q H3 (e12.trans e3)
end
end RBW
/-! RBW6: the law's small defs. -/
namespace RBW
open PySem PySem.Spec PyProof.Rows L2 Evl RBX
section
variable {P : Program} {w : World} {K : PySem.W.Frag} {mg : Str → Option Value} {base : Heap} {f : Addr} {fd : FuncData}
/-! ### _law_cell_at -/
def cellAt (ns : List Int) (k : Nat) : Int := ns.getD k 0
def sp_law_cell_at (K : PySem.W.Frag) : Sp := fun vs H Q _ => ∃ (a : Addr) (ns : List Int) (k : Nat), vs = [.ref a, nV k] ∧ SqL K H a (ns.map V.int) ∧ RetV (.int (cellAt ns k)) H Q
theorem ok_law_cell_at (Z : Blt mg) (F : Fun K "_law_cell_at" "_law_cell_at" s_law_cell_at f fd) : FnOk P w K mg base CX0 1 f fd ["script", "k"] (sp_law_cell_at K) := by
  refine F.ok sc_law_cell_at (fun vs H Q E h => ?_) (fun cdv A outer s H vs Q E hr h => ?_)
  · obtain ⟨home, zs, place, rfl, _⟩ := h
    rfl
  · obtain ⟨a, ns, k, rfl, hS, q⟩ := h
    refine ⟨_, (pss_cons (ps_if (pt_cmpR op_lt (pv 1) (pe_callB (len_seqK K) (by rfl) Z.len PySem.boot_len (pa_cons (pv 0) pa_nil)) (nomark _)) (pss_one (ps_ret (pe_ix (ix_listK K) (pv 0) (pv 1) (fun _ _ => rfl)))) pss_nil)
  (pss_one (ps_ret pe_int))), ?_⟩
    refine q_when (b := decide (k < ns.length)) (et_is (et_test (ev_op (ev_var rfl) (ev_len (ev_var rfl) hS) rv_I0)) ?_) (fun hb H1 e1 => ?_) (fun hb H1 e1 => ?_)
    · rw [List.length_map, decide_eq_decide]; omega
    · have hk := of_decide_eq_true hb
      refine s_ret (ev_op (ev_var rfl) (ev_var rfl) (rv_ixL (v := .int (cellAt ns k)) (ex_l e1 hS) (atI_nat ?_))) fun H2 e2 => q H2 (e1.trans e2)
      unfold cellAt
      rw [List.getElem?_map, List.getD_eq_getElem?_getD, List.getElem?_eq_getElem hk]; rfl
    · have hk := of_decide_eq_false hb
      refine s_ret (ev_is ev_c ?_) fun H2 e2 => q H2 (e1.trans e2)
      unfold cellAt
      rw [List.getD_eq_getElem?_getD, List.getElem?_eq_none (by omega)]; rfl
/-! ### _law_left -/
def stirOf (c k : Int) : Int := (c % 998244353 + 7919 * k + 1) * 69621 % 2147483647
def lawLeft (c k way : Int) : Int := if way = 0 then c else stirOf c k * stirOf c k * (stirOf c k + 40692) % (10 ^ 18 + 9)
def sp_law_left (_ : PySem.W.Frag) : Sp := fun vs H Q _ => ∃ (c k way : Int), vs = [.int c, .int k, .int way] ∧ (0 ≤ k ∧ k ≤ 1000000) ∧ RetV (.int (lawLeft c k way)) H Q
theorem ok_law_left (F : Fun K "_law_left" "_law_left" s_law_left f fd) : FnOk P w K mg base CX0 1 f fd ["cell", "k", "way"] (sp_law_left K) := by
  refine F.ok sc_law_left (fun vs H Q E h => ?_) (fun cdv A outer s H vs Q E hr h => ?_)
  · obtain ⟨c, k, way, rfl, _⟩ := h
    rfl
  · obtain ⟨c, k, way, rfl, hk, q⟩ := h
    refine ⟨_, (pss_cons (ps_if (pt_cmpR op_eq (pv 2) pe_int (nomark _)) (pss_one (ps_ret (pv 0))) pss_nil)
  (pss_cons (ps_set (i := 3) sc_law_left.nd rfl (.inl rfl) (pe_op op_mod (pe_op op_mul (pe_op op_add (pe_op op_add (pe_op op_mod (pv 0) pe_int) (pe_op op_mul pe_int (pv 1))) pe_int) pe_int) pe_int))
  (pss_one (ps_ret (pe_op op_mod (pe_op op_mul (pe_op op_mul (pv 3) (pv 3)) (pe_op op_add (pv 3) pe_int)) (pe_op op_add (pe_op op_pow pe_int pe_int) pe_int)))))), ?_⟩
    refine q_when (b := decide (way = 0)) (et_is (et_test (ev_op (ev_var rfl) ev_c (rv_eq rfl))) ?_) (fun hb H1 e1 => ?_) (fun hb H1 e1 => ?_)
    · rw [decide_eq_decide]
      exact ⟨fun h => V.int.inj h, fun h => congrArg V.int h⟩
    · refine s_ret (ev_is (ev_var rfl) ?_) fun H2 e2 => q H2 (e1.trans e2)
      unfold lawLeft
      rw [if_pos (of_decide_eq_true hb)]
    · refine q_asg (v := .int (stirOf c k)) (ev_op (ev_op (ev_op (ev_op (ev_op (ev_var rfl) ev_c (rv_I (by decide))) (ev_op ev_c (ev_var rfl) (rv_I (.inl (by decide)))) rv_I0) ev_c rv_I0) ev_c (rv_I (.inr (by decide)))) ev_c (rv_I (by decide))) fun H2 e2 => ?_
      have h0 : 0 ≤ stirOf c k := Int.emod_nonneg _ (by decide)
      have h1 : stirOf c k < 2147483647 := Int.emod_lt_of_pos _ (by decide)
      refine s_ret (v := .int (lawLeft c k way)) (ev_is (ev_op (ev_op (ev_op (ev_var rfl) (ev_var rfl) (rv_I (.inl ⟨by omega, by omega⟩))) (ev_op (ev_var rfl) ev_c rv_I0) (rv_I (.inr ⟨by omega, by omega⟩))) (ev_op (ev_op ev_c ev_c (rv_I ⟨by decide, by decide, by decide⟩)) ev_c rv_I0) (rv_I (by decide))) ?_) fun H3 e3 => q H3 ((e1.trans e2).trans e3)
      unfold lawLeft
      rw [if_neg (of_decide_eq_false hb)]; rfl
/-! ### _law_tie -/
def tieL (left mode : Int) : Int := if mode = 0 then 1 + left % 9 else if mode = 1 then 1 else if mode = 2 then 1 + left % 10 ^ 30 else 1 + left % 2
def tieOf (left : Int) (n mode : Nat) : RB.Tie := ⟨(left % n).toNat, ((left % n + 1 + left / n % (n - 1)) % n).toNat, tieL (left / n / (n - 1)) mode⟩
theorem tieOf_good (left : Int) (n mode : Nat) (h2 : 2 ≤ n) : (tieOf left n mode).a < n ∧ (tieOf left n mode).b < n ∧ (tieOf left n mode).a ≠ (tieOf left n mode).b ∧ 1 ≤ (tieOf left n mode).l := by
  have hn : (0 : Int) < n := by omega
  have a0 := Int.emod_nonneg left (show (n : Int) ≠ 0 by omega)
  have a1 := Int.emod_lt_of_pos left hn
  have c0 := Int.emod_nonneg (left / n) (show ((n : Int) - 1) ≠ 0 by omega)
  have c1 := Int.emod_lt_of_pos (left / n) (show (0 : Int) < (n : Int) - 1 by omega)
  show (left % n).toNat < n ∧ ((left % n + 1 + left / n % (n - 1)) % n).toNat < n ∧ (left % n).toNat ≠ ((left % n + 1 + left / n % (n - 1)) % n).toNat ∧ 1 ≤ tieL (left / n / (n - 1)) mode
  generalize left % (n : Int) = x at *
  generalize left / (n : Int) % ((n : Int) - 1) = y at *
  have b0 := Int.emod_nonneg (x + 1 + y) (show (n : Int) ≠ 0 by omega)
  have b1 := Int.emod_lt_of_pos (x + 1 + y) hn
  refine ⟨by omega, by omega, ?_, ?_⟩
  · intro h
    by_cases hlt : x + 1 + y < n
    · rw [Int.emod_eq_of_lt (by omega) hlt] at h; omega
    · have e : (x + 1 + y) % (n : Int) = x + 1 + y - n := by
        rw [← Int.sub_emod_right, Int.emod_eq_of_lt (by omega) (by omega)]
      rw [e] at h; omega
  · unfold tieL
    generalize left / (n : Int) / ((n : Int) - 1) = z
    have h9 := Int.emod_nonneg z (show (9 : Int) ≠ 0 by decide)
    have h30 := Int.emod_nonneg z (show ((10 : Int) ^ 30) ≠ 0 by decide)
    have h2' := Int.emod_nonneg z (show (2 : Int) ≠ 0 by decide)
    split
    · omega
    · split
      · omega
      · split <;> omega
def tieV (t : RB.Tie) : List V := [nV t.a, nV t.b, .int t.l]
def sp_law_tie (_ : PySem.W.Frag) : Sp := fun vs H Q _ => ∃ (left : Int) (n mode : Nat), vs = [.int left, nV n, nV mode] ∧ 2 ≤ n ∧ n ≤ 5 ∧ mode < 4 ∧ ∀ p H2, H p = none → Ex H H2 → H2 p = some (.tup (tieV (tieOf left n mode))) → Q (.ref p) H2
theorem ok_law_tie (F : Fun K "_law_tie" "_law_tie" s_law_tie f fd) : FnOk P w K mg base CX0 1 f fd ["left", "points", "mode"] (sp_law_tie K) := by
  refine F.ok sc_law_tie (fun vs H Q E h => ?_) (fun cdv A outer s H vs Q E hr h => ?_)
  · obtain ⟨left, n, mode, rfl, _⟩ := h
    rfl
  · obtain ⟨left, n, mode, rfl, h2, h5, h4, q⟩ := h
    refine ⟨_, (pss_cons (ps_set (i := 3) sc_law_tie.nd rfl (.inl rfl) (pe_op op_mod (pv 0) (pv 1)))
  (pss_cons (ps_set (i := 0) sc_law_tie.nd rfl (.inl rfl) (pe_op op_fdiv (pv 0) (pv 1)))
  (pss_cons (ps_set (i := 4) sc_law_tie.nd rfl (.inl rfl) (pe_op op_mod (pe_op op_add (pe_op op_add (pv 3) pe_int) (pe_op op_mod (pv 0) (pe_op op_sub (pv 1) pe_int))) (pv 1)))
  (pss_cons (ps_set (i := 0) sc_law_tie.nd rfl (.inl rfl) (pe_op op_fdiv (pv 0) (pe_op op_sub (pv 1) pe_int)))
  (pss_one (ps_ret (pe_tup (pa_cons (pv 3) (pa_cons (pv 4) (pa_cons (pe_ix (ix_listK K) (pe_lst (pa_cons (pe_op op_add pe_int (pe_op op_mod (pv 0) pe_int)) (pa_cons pe_int (pa_cons (pe_op op_add pe_int (pe_op op_mod (pv 0) (pe_op op_pow pe_int pe_int))) (pa_cons (pe_op op_add pe_int (pe_op op_mod (pv 0) pe_int)) pa_nil))))) (pv 2) (fun _ _ => rfl)) pa_nil)))))))))), ?_⟩
    have hn : (0 : Int) < n := by omega
    refine q_asg (v := .int (left % n)) (ev_op (ev_var rfl) (ev_var rfl) (rv_I hn)) fun H1 e1 => ?_
    refine q_asg (v := .int (left / n)) (ev_op (ev_var rfl) (ev_var rfl) (rv_I ⟨hn, by omega⟩)) fun H2 e2 => ?_
    refine q_asg (v := .int ((left % n + 1 + left / n % (n - 1)) % n)) (ev_op (ev_op (ev_op (ev_var rfl) ev_c rv_I0) (ev_op (ev_var rfl) (ev_op (ev_var rfl) ev_c rv_I0) (rv_I (by omega))) rv_I0) (ev_var rfl) (rv_I hn)) fun H3 e3 => ?_
    refine q_asg (v := .int (left / n / (n - 1))) (ev_op (ev_var rfl) (ev_op (ev_var rfl) ev_c rv_I0) (rv_I ⟨by omega, by omega⟩)) fun H4 e4 => ?_
    have e14 := ((e1.trans e2).trans e3).trans e4
    have a0 := Int.emod_nonneg left (show (n : Int) ≠ 0 by omega)
    have b0 := Int.emod_nonneg (left % n + 1 + left / n % (n - 1)) (show (n : Int) ≠ 0 by omega)
    refine s_retU (xs := tieV (tieOf left n mode)) (eu_tup (ea_cons (ev_is (ev_var rfl) ?_) (ea_cons (ev_is (ev_var rfl) ?_) (ea_cons (ev_opL1 (xs := [.int (1 + left / n / (n - 1) % 9), .int 1, .int (1 + left / n / (n - 1) % 10 ^ 30), .int (1 + left / n / (n - 1) % 2)]) (y := nV mode) (el_lst (ea_cons (ev_op ev_c (ev_op (ev_var rfl) ev_c (rv_I (by decide))) rv_I0) (ea_cons ev_c (ea_cons (ev_op ev_c (ev_op (ev_var rfl) (ev_op ev_c ev_c (rv_I ⟨by decide, by decide, by decide⟩)) (rv_I (by decide))) rv_I0) (ea_cons (ev_op ev_c (ev_op (ev_var rfl) ev_c (rv_I (by decide))) rv_I0) ea_nil)))) (by show 4 ≤ 100000; decide)) (fun _ _ => ev_var rfl) fun p H5 hp e5 => rv_ixL (sq_of hp) (atI_nat ?_)) ea_nil))) (by show 3 ≤ 100000; decide)) fun p H5 np e5 hp => q p H5 (fresh_back e14 np) (e14.trans e5) hp
    · show V.int (left % n) = V.int (((left % n).toNat : Nat) : Int)
      rw [Int.toNat_of_nonneg a0]
    · show V.int _ = V.int (((((left % n + 1 + left / n % (n - 1)) % n).toNat : Nat)) : Int)
      rw [Int.toNat_of_nonneg b0]
    · match mode, h4 with
      | 0, _ => rfl
      | 1, _ => rfl
      | 2, _ => rfl
      | 3, _ => rfl
/-! ### _law_least -/
def sp_law_least (_ : PySem.W.Frag) : Sp := fun vs H Q _ => ∃ (x : Option Int) (y : Int), vs = [oV x, .int y] ∧ RetV (.int (RB.leastO x y)) H Q
theorem ok_law_least (F : Fun K "_law_least" "_law_least" s_law_least f fd) : FnOk P w K mg base CX0 1 f fd ["one", "more"] (sp_law_least K) := by
  refine F.ok sc_law_least (fun vs H Q E h => ?_) (fun cdv A outer s H vs Q E hr h => ?_)
  · obtain ⟨x, y, rfl, _⟩ := h
    rfl
  · obtain ⟨x, y, rfl, q⟩ := h
    refine ⟨_, (pss_cons (ps_if (PW.pt (pw_or (pt_cmpR op_isN (pv 0) pe_non (nomark _)) (pw_or1 (pt_cmpR op_lt (pv 1) (pv 0) (nomark _))))) (pss_one (ps_ret (pv 1))) pss_nil)
  (pss_one (ps_ret (pv 0)))), ?_⟩
    cases x with
    | none => exact q_when (b := true) (et_or (a := true) (b := true) (et_test (ev_isN (ev_var (v := .non) rfl))) (fun z => by cases z)) (fun _ H1 e1 => s_ret (ev_var rfl) fun H2 e2 => q H2 (e1.trans e2)) (fun hb => by cases hb)
    | some d =>
      refine q_when (b := decide (y < d)) (et_is (et_or (a := false) (et_test (ev_isN (ev_var (v := .int d) rfl))) fun _ => et_test (ev_op (ev_var rfl) (ev_var (v := .int d) rfl) rv_I0)) (Bool.false_or _)) (fun hb H1 e1 => s_ret (ev_is (ev_var rfl) ?_) fun H2 e2 => q H2 (e1.trans e2)) (fun hb H1 e1 => s_ret (ev_is (ev_var (v := .int d) rfl) ?_) fun H2 e2 => q H2 (e1.trans e2))
      · show V.int y = V.int (if y < d then y else d)
        rw [if_pos (of_decide_eq_true hb)]
      · show V.int d = V.int (if y < d then y else d)
        rw [if_neg (of_decide_eq_false hb)]
/-! ### _law_length -/
def sp_law_length (K : PySem.W.Frag) : Sp := fun vs H Q _ => ∃ (v : V) (W : RB.Web) (x : Nat), vs = [v, nV x] ∧ IsWeb K H v W ∧ W.Good ∧ RetV (.int (RB.lenOf W x)) H Q
theorem ok_law_length (Z : Blt mg) (F : Fun K "_law_length" "_law_length" s_law_length f fd) : FnOk P w K mg base CX0 1 f fd ["web", "some"] (sp_law_length K) := by
  refine F.ok sc_law_length (fun vs H Q E h => ?_) (fun cdv A outer s H vs Q E hr h => ?_)
  · obtain ⟨v, W, x, rfl, _⟩ := h
    rfl
  · obtain ⟨v, W, x, rfl, hw, g, q⟩ := h
    refine ⟨_, (pss_one (ps_ret (pe_callB (sumK K) (by rfl) Z.sum (by decide +kernel) (pa_cons (pe_lc (own := [("k", 2)]) rfl sc_law_length.nd (pi_range1 (by rfl) Z.range (pa_cons (pe_callB (len_seqK K) (by rfl) Z.len PySem.boot_len (pa_cons (pe_ix (ix_tupK K) (pv 0) pe_int (fun _ _ => rfl)) pa_nil)) pa_nil)) (blkOk_by (N := N_law_length) (sc := defScope s_law_length) (by decide +kernel)) (fun _ _ _ _ _ => (pg_name (i := 2) sc_law_length.nd rfl (.inl rfl))) (fun _ _ _ _ _ => (pts_one (pt_cmpR op_eq (pe_op op_and (pe_op op_shr (pv 1) (pv 2)) pe_int) pe_int (nomark _)))) (fun _ _ _ _ _ => (pe_ix (ix_tupK K) (pe_ix (ix_tupK K) (pe_ix (ix_tupK K) (pv 0) pe_int (fun _ _ => rfl)) (pv 2) (fun _ _ => rfl)) pe_int (fun _ _ => rfl)))) pa_nil)))), ?_⟩
    have m6 := g.m6
    refine s_ret (ev_sumL (ns := (RB.tiesOf W x).map W.l) ?_) fun H2 e2 => ?_
    · rw [List.map_map]
      exact el_lcRn (n := W.m) (fun k => x.testBit k) (fun k => V.int (W.l k)) (ea_cons (ev_m hw (ev_var rfl)) ea_nil) (by omega) (fun _ => rfl) (fun k H2 e2 hk => et_bit (ev_var rfl) (ev_var rfl)) (fun k H2 e2 hk _ => ev_l (hw.mono e2) (ev_var rfl) (ev_var rfl) hk)
    · rw [← len_sum]
      exact q H2 e2
/-! ### _law_odd -/
def sp_law_odd (_ : PySem.W.Frag) : Sp := fun vs H Q _ => ∃ (x : Nat), vs = [nV x] ∧ RetV (.bl (RB.oddN x)) H Q
theorem ok_law_odd (F : Fun K "_law_odd" "_law_odd" s_law_odd f fd) : FnOk P w K mg base CX0 1 f fd ["number"] (sp_law_odd K) := by
  refine F.ok sc_law_odd (fun vs H Q E h => ?_) (fun cdv A outer s H vs Q E hr h => ?_)
  · obtain ⟨x, rfl, _⟩ := h
    rfl
  · obtain ⟨x, rfl, q⟩ := h
    refine ⟨_, (pss_cons (ps_set (i := 1) sc_law_odd.nd rfl (.inl rfl) pe_bl)
  (pss_cons (ps_while PassesOwn.never (pt_cmpR op_gt (pv 0) pe_int (nomark _)) (pss_cons (ps_set (i := 1) sc_law_odd.nd rfl (.inl rfl) (pe_cmpR op_ne (pv 1) (pe_cmpR op_eq (pe_op op_mod (pv 0) pe_int) pe_int (nomark _)) (nomark _)))
  (pss_one (ps_set (i := 0) sc_law_odd.nd rfl (.inl rfl) (pe_op op_fdiv (pv 0) pe_int)))))
  (pss_one (ps_ret (pv 1))))), ?_⟩
    refine q_asg ev_c fun H1 e1 => ?_
    refine q_while (fun n σ' H' => ∃ b, σ' = [some (nV n), some (.bl b)] ∧ xor b (RB.oddN n) = RB.oddN x ∧ Ex H H') x ⟨false, rfl, Bool.false_xor _, e1⟩ ?_
    rintro n σ' H2 ⟨b, rfl, hb, e2⟩
    refine ⟨decide (0 < n), et_is (et_test (ev_op (ev_var rfl) ev_c rv_I0)) (by simp only [decide_eq_decide]; omega), fun hc H3 e3 => ?_, fun hc H3 e3 => ?_⟩
    · have hn := of_decide_eq_true hc
      refine ⟨fun σ' H' => ∃ b, σ' = [some (nV (n / 2)), some (.bl b)] ∧ xor b (RB.oddN (n / 2)) = RB.oddN x ∧ Ex H H', fun σ2 H2 h => ⟨n / 2, by omega, h⟩, ?_⟩
      refine q_asg (ev_neb (y := n % 2 == 1) (ev_var rfl) (ev_is (ev_op (ev_op (ev_var rfl) ev_c (rv_I (by decide))) ev_c (rv_eq rfl)) (congrArg V.bl ?_))) fun H4 e4 => ?_
      · rw [Bool.eq_iff_iff, decide_eq_true_iff, beq_iff_eq]
        exact ⟨fun h => by have := V.int.inj h; omega, fun h => congrArg V.int (by omega)⟩
      · refine s_asg (v := nV (n / 2)) (ev_is (ev_op (ev_var rfl) ev_c (rv_I ⟨by decide, by decide⟩)) (congrArg V.int (by omega))) fun H5 e5 => ⟨_, rfl, ?_, ((e2.trans e3).trans e4).trans e5⟩
        rw [Bool.xor_assoc, ← RB.oddN_pos (by omega)]
        exact hb
    · have hn : n = 0 := Nat.eq_zero_of_not_pos (of_decide_eq_false hc)
      subst hn
      rw [RB.oddN_zero, Bool.xor_false] at hb
      subst hb
      exact s_ret (ev_var rfl) fun H4 e4 => q H4 ((e2.trans e3).trans e4)
/-! ### _law_cut -/
def sp_law_cut (K : PySem.W.Frag) : Sp := fun vs H Q _ => ∃ (v : V) (W : RB.Web) (a : Addr) (S : List Nat), vs = [v, .ref a] ∧ IsWeb K H v W ∧ W.Good ∧ SqL K H a (S.map nV) ∧ RetV (nV (RB.cutI W (sideF S) W.m)) H Q
theorem ok_law_cut (Z : Blt mg) (F : Fun K "_law_cut" "_law_cut" s_law_cut f fd) : FnOk P w K mg base CX0 1 f fd ["web", "side"] (sp_law_cut K) := by
  refine F.ok sc_law_cut (fun vs H Q E h => ?_) (fun cdv A outer s H vs Q E hr h => ?_)
  · obtain ⟨v, W, a, S, rfl, _⟩ := h
    rfl
  · obtain ⟨v, W, a, S, rfl, hw, g, hS, q⟩ := h
    refine ⟨_, (pss_cons (ps_set (i := 2) sc_law_cut.nd rfl (.inl rfl) pe_int)
  (pss_cons (ps_for PassesOwn.never rfl (pi_range1 (by rfl) Z.range (pa_cons (pe_callB (len_seqK K) (by rfl) Z.len PySem.boot_len (pa_cons (pe_ix (ix_tupK K) (pv 0) pe_int (fun _ _ => rfl)) pa_nil)) pa_nil)) (pg_name (i := 3) sc_law_cut.nd rfl (.inl rfl)) (pss_one (ps_if (pt_cmpR op_ne (pe_cmpR (in_seqK K) (pe_ix (ix_tupK K) (pe_ix (ix_tupK K) (pe_ix (ix_tupK K) (pv 0) pe_int (fun _ _ => rfl)) (pv 3) (fun _ _ => rfl)) pe_int (fun _ _ => rfl)) (pv 1) (by rfl)) (pe_cmpR (in_seqK K) (pe_ix (ix_tupK K) (pe_ix (ix_tupK K) (pe_ix (ix_tupK K) (pv 0) pe_int (fun _ _ => rfl)) (pv 3) (fun _ _ => rfl)) pe_int (fun _ _ => rfl)) (pv 1) (by rfl)) (nomark _)) (pss_one (ps_set (i := 2) sc_law_cut.nd rfl (.inl rfl) (pe_op op_add (pv 2) (pe_op op_shl pe_int (pv 3))))) pss_nil)))
  (pss_one (ps_ret (pv 2))))), ?_⟩
    have m6 := g.m6
    refine q_asg ev_c fun H1 e1 => ?_
    refine q_forRn (n := W.m) (ea_cons (ev_m (hw.mono e1) (ev_var rfl)) ea_nil) (by omega) (fun i σ' H' => ∃ y3, σ' = [some v, some (.ref a), some (nV (RB.cutI W (sideF S) i)), y3] ∧ Ex H H') (fun H2 e2 => ⟨none, rfl, e1.trans e2⟩) ?_ ?_
    · rintro i σ' H2 hi ⟨y3, rfl, e2⟩
      refine s_when (b := RB.crosses W (sideF S) i) (et_neb (ev_inS (ev_a (hw.mono e2) (ev_var rfl) (ev_var rfl) hi) (ev_var rfl) (ex_l e2 hS)) (ev_inS (ev_b (hw.mono e2) (ev_var rfl) (ev_var rfl) hi) (ev_var rfl) (ex_l e2 hS))) (fun hb H3 e3 => ?_) (fun hb H3 e3 => ?_)
      · refine s_asg (v := nV (RB.cutI W (sideF S) (i + 1))) (ev_is (ev_op (ev_var rfl) (ev_shl1 (k := i) (ev_var rfl) (by omega)) rv_I0) ?_) fun H4 e4 => ⟨_, rfl, (e2.trans e3).trans e4⟩
        show V.int (((RB.cutI W (sideF S) i : Nat) : Int) + ((2 ^ i : Nat) : Int)) = V.int ((if RB.crosses W (sideF S) i = true then RB.cutI W (sideF S) i + 2 ^ i else RB.cutI W (sideF S) i : Nat) : Int)
        rw [if_pos hb]; rfl
      · refine ⟨some (nV i), ?_, e2.trans e3⟩
        have : RB.cutI W (sideF S) (i + 1) = RB.cutI W (sideF S) i := if_neg (by rw [hb]; decide)
        rw [this]; rfl
    · rintro σ' H2 ⟨y3, rfl, e2⟩
      exact s_ret (ev_var rfl) fun H3 e3 => q H3 (e2.trans e3)
end
end RBW
/-! RBW7: lists of lists that change; _law_walk. -/
namespace RBW
open PySem PySem.Spec PyProof.Rows L2 Evl RBX
/-- a list at E of the lists at rs, the i-th one holding g i; all new over H0 -/
structure Rows (H0 H : Hp) (E : Addr) (rs : List Addr) (g : Nat → List V) : Prop where
  ex : Ex H0 H
  top : H E = some (.lst (rs.map V.ref))
  nd : rs.Nodup
  ne : E ∉ rs
  new : H0 E = none ∧ ∀ r ∈ rs, H0 r = none
  row : ∀ i r, rs[i]? = some r → H r = some (.lst (g i))
theorem Rows.mono {H0 H H' : Hp} {E : Addr} {rs : List Addr} {g : Nat → List V} (h : Rows H0 H E rs g) (e : Ex H H') : Rows H0 H' E rs g :=
  ⟨h.ex.trans e, e _ _ h.top, h.nd, h.ne, h.new, fun i r hr => e _ _ (h.row i r hr)⟩
theorem Rows.upd {H0 H : Hp} {E r : Addr} {rs : List Addr} {g g' : Nat → List V} {i : Nat} {ys : List V} (h : Rows H0 H E rs g) (hr : rs[i]? = some r) (h1 : ∀ q, q ≠ i → g' q = g q) (h2 : g' i = ys) : Rows H0 (upd H r (.lst ys)) E rs g' := by
  have hm : r ∈ rs := List.mem_of_getElem? hr
  refine ⟨h.ex.mut (h.new.2 r hm), ?_, h.nd, h.ne, h.new, fun j q hq => ?_⟩
  · have hE : E ≠ r := fun e => h.ne (e ▸ hm)
    rw [upd_ne hE]; exact h.top
  · by_cases e : j = i
    · subst e
      rw [hr] at hq
      cases hq
      rw [upd_same, h2]
    · have : q ≠ r := fun z => e (nd_ix h.nd (z ▸ hq) hr)
      rw [upd_ne this, h1 j e]
      exact h.row j q hq
theorem Rows.congr {H0 H : Hp} {E : Addr} {rs : List Addr} {g g' : Nat → List V} (h : Rows H0 H E rs g) (hg : ∀ i, i < rs.length → g' i = g i) : Rows H0 H E rs g' :=
  ⟨h.ex, h.top, h.nd, h.ne, h.new, fun i r hr => by rw [hg i (List.getElem?_eq_some_iff.mp hr).1]; exact h.row i r hr⟩
section
variable {K : PySem.W.Frag} {σ : L2.St} {H H0 : Hp} {ta tb te tl : TE} {t : TT}
theorem Rows.at' {E : Addr} {rs : List Addr} {g : Nat → List V} {i : Nat} (h : Rows H0 H E rs g) (hi : i < rs.length) (he : Ev ta σ H (.ref E)) (hx : Ev tb σ H (nV i)) : ∃ r, rs[i]? = some r ∧ Ev (tOp (rIxL K) ta tb) σ H (.ref r) ∧ H r = some (.lst (g i)) := by
  have hr : rs[i]? = some rs[i] := List.getElem?_eq_getElem hi
  exact ⟨rs[i], hr, ev_ixL he hx h.top (by rw [List.getElem?_map, hr]; rfl), h.row i _ hr⟩
/-- [(a new list) for .. in range(n)] -/
theorem lc_news {ta : TA} {te : TE} {j n : Nat} {vs : List Nat} {xs : List V} (h : EvA ta σ H [nV n]) (hn : n ≤ 1000) (hw : ∀ x, wipe ((wipe σ vs).set j (some x)) vs = wipe σ vs) (he : ∀ (i : Nat) H1, EvL te ((wipe σ vs).set j (some (nV i))) H1 xs) :
    ∀ H1, Ex H H1 → ∀ Q : VK, (∀ D H2 (rs : List Addr), H1 D = none → rs.length = n → Rows H1 H2 D rs (fun _ => xs) → Q (.ref D) H2) → tLc (iRng1 ta) (gName j) tYes te vs σ H1 Q := fun H1 e1 Q q =>
  h H1 e1 _ fun H2 e2 => ⟨(n : Int), rfl, by omega, by omega, fun D nD =>
    lc_range (lo := 0) (n := (n : Int).toNat) (fun i H' => ∃ rs : List Addr, rs.length = i ∧ Rows H1 H' D rs (fun _ => xs)) ⟨[], rfl, e2.trans (Ex.new nD), upd_same, List.nodup_nil, by simp, ⟨fresh_back e2 nD, by simp⟩, fun i r hr => by simp at hr⟩ (fun i H' hi ⟨rs, hl, R⟩ => ⟨hw _, by
      have hi' : i < n := by rw [Int.toNat_natCast] at hi; exact hi
      show te ((wipe σ vs).set j (some (.int ((0 : Int) + (i : Int))))) H' _
      rw [Int.zero_add]
      refine he i H' H' (Ex.refl H') _ fun p H3 np e3 hp => ⟨rs.map V.ref, e3 _ _ R.top, ?_, rs ++ [p], by simp [hl], ?_⟩
      · rw [List.length_map, hl]; exact sz_lt (by omega)
      · have hD : D ≠ p := ne_of_none R.top np
        have hpr : p ∉ rs := fun z => by
          obtain ⟨k, hk⟩ := List.getElem?_of_mem z
          exact (ne_of_none (R.row k p hk) np) rfl
        refine ⟨(R.ex.trans e3).mut R.new.1, by rw [upd_same, List.map_append]; rfl, ?_, ?_, ⟨R.new.1, fun r hr => ?_⟩, fun k r hk => ?_⟩
        · rw [List.nodup_append]
          exact ⟨R.nd, by simp, fun a ha b hb e => hpr (by rw [List.mem_singleton.mp hb] at e; exact e ▸ ha)⟩
        · intro z
          rcases List.mem_append.mp z with z | z
          · exact R.ne z
          · exact hD (List.mem_singleton.mp z)
        · rcases List.mem_append.mp hr with z | z
          · exact R.new.2 r z
          · rw [List.mem_singleton.mp z]; exact fresh_back R.ex np
        · by_cases hkl : k < rs.length
          · rw [List.getElem?_append_left hkl] at hk
            have : r ≠ D := fun z => R.ne (z ▸ List.mem_of_getElem? hk)
            rw [upd_ne this]
            exact e3 _ _ (R.row k r hk)
          · rw [List.getElem?_append_right (by omega)] at hk
            have : r = p := by
              cases h0 : k - rs.length with
              | zero => rw [h0] at hk; exact (Option.some.inj hk).symm
              | succ z => rw [h0] at hk; cases hk
            subst this
            rw [upd_ne hD.symm]; exact hp⟩)
      (fun H' ⟨rs, hl, R⟩ => q D H' rs (fresh_back e2 nD) (by rw [Int.toNat_natCast] at hl; exact hl) R)⟩
theorem q_asgNews {ta : TA} {te : TE} {i j n : Nat} {vs : List Nat} {xs : List V} {tz : TS} {D : Ends} (h : EvA ta σ H [nV n]) (hn : n ≤ 1000) (hw : ∀ x, wipe ((wipe σ vs).set j (some x)) vs = wipe σ vs) (he : ∀ (i : Nat) H1, EvL te ((wipe σ vs).set j (some (nV i))) H1 xs)
    (k : ∀ l H2 (rs : List Addr), H l = none → rs.length = n → Rows H H2 l rs (fun _ => xs) → tz D (σ.set i (some (.ref l))) H2) : tSeq (tAsg (tLc (iRng1 ta) (gName j) tYes te vs) (gName i)) tz D σ H :=
  lc_news h hn hw he H (Ex.refl H) (fun x H1 => tz D (σ.set i (some x)) H1) fun l H2 rs a b c => k l H2 rs a b c
/-- x = [(..)]: a new list of one new tuple -/
theorem q_asgLU {i : Nat} {ta : TA} {xs : List V} {tz : TS} {D : Ends} (h : EvA ta σ H xs) (hl : xs.length ≤ 100000) (k : ∀ t l H2, H t = none → Ex H H2 → H2 t = some (.tup xs) → H2 l = none → tz D (σ.set i (some (.ref l))) (upd H2 l (.lst [.ref t]))) :
    tSeq (tAsg (tLst (tCons (tTup ta) tNil)) (gName i)) tz D σ H :=
  eu_tup h hl H (Ex.refl H) (fun x H1 => [x].length ≤ sizeLine ∧ ∀ l, H1 l = none → tz D (σ.set i (some (.ref l))) (upd H1 l (.lst [x]))) fun t H2 nt e ht => ⟨by show 1 ≤ sizeLine; decide, fun l nl => k t l H2 nt e ht nl⟩
theorem ev_eqSI {ks js : List Nat} {p : Addr} (ha : Ev ta σ H (.ref p)) (hs : SqL K H p (ks.map nV)) (hb : EvL tb σ H (js.map nV)) : Ev (tOp (rEqD K) ta tb) σ H (.bl (decide (ks = js))) := fun H1 e Q k =>
  ha H1 e _ fun H2 e2 => hb H2 (e.trans e2) _ fun q H3 _ e3 hq => ⟨_, _, dp_ints (ex_l ((e.trans e2).trans e3) hs), dp_ints (sq_of hq), shaped_ints ks, shaped_ints js, by rw [eqvL_ints]; exact k H3 (e2.trans e3)⟩
/-- the sum of a list that stands -/
theorem ev_sumS {ns : List Int} {p : Addr} (ha : Ev ta σ H (.ref p)) (hs : SqL K H p (ns.map V.int)) : Ev (tCB (rSum K) (tCons ta tNil)) σ H (.int ns.sum) := fun H1 e Q q =>
  ha H1 e _ fun H2 e2 => ⟨p, ns, rfl, ex_l (e.trans e2) hs, q H2 e2⟩
end
theorem sum_perm {xs ys : List Int} (h : xs.Perm ys) : xs.sum = ys.sum := by
  induction h with
  | nil => rfl
  | cons x _ ih => rw [List.sum_cons, List.sum_cons, ih]
  | swap x y l => simp only [List.sum_cons]; omega
  | trans _ _ h1 h2 => exact h1.trans h2
/-- the walk so far: pairs of the ties ks -/
def WalkL (K : PySem.W.Frag) (H : Hp) (l : Addr) (ks : List Nat) : Prop := ∃ ts : List Addr, H l = some (.lst (ts.map V.ref)) ∧ ts.length = ks.length ∧ ∀ (i k : Nat), ks[i]? = some k → ∃ t d, ts[i]? = some t ∧ t ≠ l ∧ SqT K H t [nV k, .int d]
theorem WalkL.mono {K : PySem.W.Frag} {H H' : Hp} {l : Addr} {ks : List Nat} (h : WalkL K H l ks) (e : Ex H H') : WalkL K H' l ks := by
  obtain ⟨ts, h1, h2, h3⟩ := h
  exact ⟨ts, e _ _ h1, h2, fun i k hk => let ⟨t, d, a, b, c⟩ := h3 i k hk; ⟨t, d, a, b, ex_t e c⟩⟩
theorem sqT_upd {K : PySem.W.Frag} {H : Hp} {l t : Addr} {o : HO} {xs : List V} (h : SqT K H t xs) (ne : t ≠ l) : SqT K (upd H l o) t xs := by
  rcases h with (h | ⟨u, h⟩) | h
  · exact .inl (.inl (by rw [upd_ne ne]; exact h))
  · exact .inl (.inr ⟨u, by rw [upd_ne ne]; exact h⟩)
  · exact .inr h
theorem WalkL.snoc {K : PySem.W.Frag} {H : Hp} {l p : Addr} {ks : List Nat} {ts : List Addr} {z : Nat} {d : Int} (h1 : ts.length = ks.length) (h2 : ∀ (i k : Nat), ks[i]? = some k → ∃ t d, ts[i]? = some t ∧ t ≠ l ∧ SqT K H t [nV k, .int d]) (np : p ≠ l) (hp : SqT K H p [nV z, .int d]) :
    WalkL K (upd H l (.lst (ts.map V.ref ++ [.ref p]))) l (ks ++ [z]) := by
  refine ⟨ts ++ [p], by rw [upd_same, List.map_append]; rfl, by simp [h1], fun i k hk => ?_⟩
  by_cases hi : i < ks.length
  · rw [List.getElem?_append_left hi] at hk
    obtain ⟨t, d', a, b, c⟩ := h2 i k hk
    exact ⟨t, d', by rw [List.getElem?_append_left (by omega)]; exact a, b, sqT_upd c b⟩
  · rw [List.getElem?_append_right (by omega)] at hk
    have h0 : i - ks.length = 0 := by
      cases q : i - ks.length with
      | zero => rfl
      | succ n => rw [q] at hk; cases hk
    rw [h0] at hk
    have : k = z := (Option.some.inj hk).symm
    subst this
    exact ⟨p, d, by rw [List.getElem?_append_right (by omega), show i - ts.length = 0 by omega]; rfl, np, sqT_upd hp np⟩
section
variable {P : Program} {w : World} {K : PySem.W.Frag} {mg : Str → Option Value} {base : Heap} {f : Addr} {fd : FuncData}
theorem filter_take {W : RB.Web} {ks : List Nat} {i k : Nat} (hk : ks[i]? = some k) (p : Nat) : ((ks.take (i + 1)).filter fun j => RB.inc W j p) = ((ks.take i).filter fun j => RB.inc W j p) ++ if RB.inc W k p = true then [k] else [] := by
  rw [List.take_add_one, hk, List.filter_append]
  congr 1
  show ([k].filter _) = _
  rw [List.filter_cons]
  split <;> rfl
def badRows (W : RB.Web) (x : Nat) : List Nat := (List.range W.n).filter fun p => !(decide (0 = (tiesAt W x p).length) || decide (2 = (tiesAt W x p).length))
theorem deg02_iff (W : RB.Web) (x : Nat) : RB.Deg02 W x ↔ RB.tiesOf W x ≠ [] ∧ badRows W x = [] := by
  unfold RB.Deg02 badRows
  rw [List.filter_eq_nil_iff]
  refine and_congr Iff.rfl ?_
  constructor
  · intro h p hp
    have := h p (List.mem_range.mp hp)
    rw [deg_tiesAt] at this
    rcases this with h | h <;> rw [h] <;> decide
  · intro h p hp
    have := h p (List.mem_range.mpr hp)
    rw [deg_tiesAt]
    simp only [Bool.not_eq_true', Bool.not_eq_false, Bool.or_eq_true, decide_eq_true_iff] at this
    omega
def sp_law_walk (K : PySem.W.Frag) : Sp := fun vs H Q _ => ∃ (v : V) (W : RB.Web) (x : Nat), vs = [v, nV x] ∧ IsWeb K H v W ∧ W.Good ∧ ∀ u H2, Ex H H2 → (decide (u = V.non)) = (!RB.ringB W x) → Q u H2
theorem ok_law_walk (Z : Blt mg) (F : Fun K "_law_walk" "_law_walk" s_law_walk f fd) : FnOk P w K mg base CX0 1 f fd ["web", "some"] (sp_law_walk K) := by
  refine F.ok sc_law_walk (fun vs H Q E h => ?_) (fun cdv A outer s H vs Q E hr h => ?_)
  · obtain ⟨v, W, x, rfl, _⟩ := h
    rfl
  · obtain ⟨v, W, x, rfl, hw, g, q⟩ := h
    refine ⟨_, (pss_cons (ps_setLc (i := 2) (own := [("point", 9)]) rfl sc_law_walk.nd rfl rfl (sw_true rfl rfl rfl (by decide +kernel)) (pi_range1 (by rfl) Z.range (pa_cons (pe_ix (ix_tupK K) (pv 0) pe_int (fun _ _ => rfl)) pa_nil)) (blkOk_by (N := N_law_walk) (sc := defScope s_law_walk) (by decide +kernel)) (fun _ _ _ _ _ => (pg_name (i := 9) sc_law_walk.nd rfl (.inl rfl))) (fun _ _ _ _ _ => pts_nil) (fun _ _ _ _ _ => (pe_lst pa_nil)))
  (pss_cons (ps_setLc (i := 3) (own := [("k", 4)]) rfl sc_law_walk.nd rfl rfl (sw_true rfl rfl rfl (by decide +kernel)) (pi_range1 (by rfl) Z.range (pa_cons (pe_callB (len_seqK K) (by rfl) Z.len PySem.boot_len (pa_cons (pe_ix (ix_tupK K) (pv 0) pe_int (fun _ _ => rfl)) pa_nil)) pa_nil)) (blkOk_by (N := N_law_walk) (sc := defScope s_law_walk) (by decide +kernel)) (fun _ _ _ _ _ => (pg_name (i := 4) sc_law_walk.nd rfl (.inl rfl))) (fun _ _ _ _ _ => (pts_one (pt_cmpR op_eq (pe_op op_and (pe_op op_shr (pv 1) (pv 4)) pe_int) pe_int (nomark _)))) (fun _ _ _ _ _ => (pv 4)))
  (pss_cons (ps_for PassesOwn.never rfl (pi_listK K (pv 3)) (pg_name (i := 4) sc_law_walk.nd rfl (.inl rfl)) (pss_cons (ps_expr (pe_bmK K (pe_bm PySem.F.plainAttrs_list PySem.F.slot_list_append PySem.F.type_list_append mt_append (pe_ix (ix_listK K) (pv 2) (pe_ix (ix_tupK K) (pe_ix (ix_tupK K) (pe_ix (ix_tupK K) (pv 0) pe_int (fun _ _ => rfl)) (pv 4) (fun _ _ => rfl)) pe_int (fun _ _ => rfl)) (fun _ _ => rfl)) (pa_cons (pv 4) pa_nil))))
  (pss_one (ps_expr (pe_bmK K (pe_bm PySem.F.plainAttrs_list PySem.F.slot_list_append PySem.F.type_list_append mt_append (pe_ix (ix_listK K) (pv 2) (pe_ix (ix_tupK K) (pe_ix (ix_tupK K) (pe_ix (ix_tupK K) (pv 0) pe_int (fun _ _ => rfl)) (pv 4) (fun _ _ => rfl)) pe_int (fun _ _ => rfl)) (fun _ _ => rfl)) (pa_cons (pv 4) pa_nil)))))))
  (pss_cons (ps_if (PW.pt (pw_or (pt_cmpR (eqDK K hr.units) (pv 3) (pe_lst pa_nil) (nomark _)) (pw_or1 (pt_cmpR op_gt (pe_callB (len_seqK K) (by rfl) Z.len PySem.boot_len (pa_cons (pe_lc (own := [("row", 10)]) rfl sc_law_walk.nd (pi_listK K (pv 2)) (blkOk_by (N := N_law_walk) (sc := defScope s_law_walk) (by decide +kernel)) (fun _ _ _ _ _ => (pg_name (i := 10) sc_law_walk.nd rfl (.inl rfl))) (fun _ _ _ _ _ => (pts_one (pt_cmpR (notIn_seqK K) (pe_callB (len_seqK K) (by rfl) Z.len PySem.boot_len (pa_cons (pv 10) pa_nil)) (pe_tup (pa_cons pe_int (pa_cons pe_int pa_nil))) (by rfl)))) (fun _ _ _ _ _ => (pv 10))) pa_nil)) pe_int (nomark _))))) (pss_one (ps_ret pe_non)) pss_nil)
  (pss_cons (ps_asg (pe_slice (sl_tupK K) (pe_ix (ix_tupK K) (pe_ix (ix_tupK K) (pv 0) pe_int (fun _ _ => rfl)) (pe_ix (ix_listK K) (pv 3) pe_int (fun _ _ => rfl)) (fun _ _ => rfl)) po_none (po_some pe_int)) (pg_tupK K (pg_tup rfl (pgs_cons (pg_name (i := 5) sc_law_walk.nd rfl (.inl rfl)) (pgs_cons (pg_name (i := 6) sc_law_walk.nd rfl (.inl rfl)) pgs_nil)))))
  (pss_cons (ps_set (i := 7) sc_law_walk.nd rfl (.inl rfl) (pe_lst (pa_cons (pe_tup (pa_cons (pe_ix (ix_listK K) (pv 3) pe_int (fun _ _ => rfl)) (pa_cons pe_int pa_nil))) pa_nil)))
  (pss_cons (ps_while PassesOwn.never (pt_cmpR op_ne (pv 6) (pv 5) (nomark _)) (pss_cons (ps_set (i := 8) sc_law_walk.nd rfl (.inl rfl) (pe_op op_sub (pe_callB (sumK K) (by rfl) Z.sum (by decide +kernel) (pa_cons (pe_ix (ix_listK K) (pv 2) (pv 6) (fun _ _ => rfl)) pa_nil)) (pe_ix (ix_tupK K) (pe_ix (ix_listK K) (pv 7) (pe_un un_neg pe_int) (fun _ _ => rfl)) pe_int (fun _ _ => rfl))))
  (pss_one (ps_if (pt_cmpR op_eq (pe_ix (ix_tupK K) (pe_ix (ix_tupK K) (pe_ix (ix_tupK K) (pv 0) pe_int (fun _ _ => rfl)) (pv 8) (fun _ _ => rfl)) pe_int (fun _ _ => rfl)) (pv 6) (nomark _)) (pss_cons (ps_expr (pe_bmK K (pe_bm PySem.F.plainAttrs_list PySem.F.slot_list_append PySem.F.type_list_append mt_append (pv 7) (pa_cons (pe_tup (pa_cons (pv 8) (pa_cons pe_int pa_nil))) pa_nil))))
  (pss_one (ps_set (i := 6) sc_law_walk.nd rfl (.inl rfl) (pe_ix (ix_tupK K) (pe_ix (ix_tupK K) (pe_ix (ix_tupK K) (pv 0) pe_int (fun _ _ => rfl)) (pv 8) (fun _ _ => rfl)) pe_int (fun _ _ => rfl))))) (pss_cons (ps_expr (pe_bmK K (pe_bm PySem.F.plainAttrs_list PySem.F.slot_list_append PySem.F.type_list_append mt_append (pv 7) (pa_cons (pe_tup (pa_cons (pv 8) (pa_cons (pe_un un_neg pe_int) pa_nil))) pa_nil))))
  (pss_one (ps_set (i := 6) sc_law_walk.nd rfl (.inl rfl) (pe_ix (ix_tupK K) (pe_ix (ix_tupK K) (pe_ix (ix_tupK K) (pv 0) pe_int (fun _ _ => rfl)) (pv 8) (fun _ _ => rfl)) pe_int (fun _ _ => rfl)))))))))
  (pss_cons (ps_if (pt_cmpR op_ne (pe_callB (len_seqK K) (by rfl) Z.len PySem.boot_len (pa_cons (pv 7) pa_nil)) (pe_callB (len_seqK K) (by rfl) Z.len PySem.boot_len (pa_cons (pv 3) pa_nil)) (nomark _)) (pss_one (ps_ret pe_non)) pss_nil)
  (pss_one (ps_ret (pv 7))))))))))), ?_⟩
    have n5 := g.n5
    have m6 := g.m6
    have t6 := tiesOf_len W g x
    have hno : ¬ RB.IsRing W x → ∀ H2, Ex H H2 → Q .non H2 := fun h H2 e => q _ H2 e (by
      cases hb : RB.ringB W x with
      | false => rfl
      | true => exact absurd (RB.ringB_iff.mp hb) h)
    -- ends
    refine q_asgNews (n := W.n) (xs := []) (ea_cons (ev_n hw (ev_var rfl)) ea_nil) (by omega) (fun _ => rfl) (fun _ _ => el_lst ea_nil (by decide)) fun En H1 rs nEn hl R1 => ?_
    -- ties
    refine q_asgL (xs := (RB.tiesOf W x).map nV) (el_lcRn (n := W.m) (fun k => x.testBit k) nV (ea_cons (ev_m (hw.mono R1.ex) (ev_var rfl)) ea_nil) (by omega) (fun _ => rfl) (fun k H2 e2 hk => et_bit (ev_var rfl) (ev_var rfl)) (fun k H2 e2 hk _ => ev_var rfl)) fun T H2 nT e2 hT => ?_
    have R2 := R1.mono e2
    have hTr : T ∉ rs := fun z => by
      obtain ⟨k, hk⟩ := List.getElem?_of_mem z
      exact (ne_of_none (R1.row k T hk) nT) rfl
    -- ends filled
    refine q_forLn (xs := (RB.tiesOf W x).map nV) (ev_var rfl) (sq_of hT)
      (fun i σ' H' => ∃ y4, σ' = [some v, some (nV x), some (.ref En), some (.ref T), y4, none, none, none, none, none, none] ∧ H' T = some (.lst ((RB.tiesOf W x).map nV)) ∧ Rows H H' En rs (fun p => (((RB.tiesOf W x).take i).filter fun j => RB.inc W j p).map nV))
      (fun H3 e3 => ⟨none, rfl, e3 _ _ hT, R2.mono e3⟩) (fun i σ' H' _ h => let ⟨_, _, h, _⟩ := h; sq_of h) ?_ ?_
    · rintro i y σ' H3 hy ⟨y4, rfl, hT3, R3⟩
      rw [List.getElem?_map] at hy
      obtain ⟨k, hk, rfl⟩ := Option.map_eq_some_iff.mp hy
      have hkt := List.mem_of_getElem? hk
      have hm := (RB.mem_tiesOf.mp hkt).1
      have hlen : ∀ p : Nat, ((((RB.tiesOf W x).take i).filter fun j => RB.inc W j p).map nV).length ≤ 6 := fun p => by
        rw [List.length_map]
        exact Nat.le_trans (List.length_filter_le _ _) (Nat.le_trans (by rw [List.length_take]; exact Nat.min_le_right _ _) t6)
      have an := g.an k hm
      have bn := g.bn k hm
      have ab := g.ab k hm
      obtain ⟨ra, hra, ea, hrow⟩ := R3.at' (K := K) (i := W.a k) (σ := [some v, some (nV x), some (.ref En), some (.ref T), some (nV k), none, none, none, none, none, none]) (ta := tVar 2) (by omega) (ev_var rfl) (ev_a (K := K) (tw := tVar 0) (tk := tVar 4) (hw.mono R3.ex) (ev_var rfl) (ev_var rfl) hm)
      refine q_app hrow ea (ev_var rfl) (by have := hlen (W.a k); omega) fun H4 e4 => ?_
      have R4 := (R3.mono e4).upd (g' := fun p => if p = W.a k then (((RB.tiesOf W x).take i).filter fun j => RB.inc W j p).map nV ++ [nV k] else (((RB.tiesOf W x).take i).filter fun j => RB.inc W j p).map nV) hra (fun q hq => if_neg hq) (if_pos rfl)
      have hTa : T ≠ ra := fun z => hTr (z ▸ List.mem_of_getElem? hra)
      obtain ⟨rb, hrb, eb, hrowb⟩ := R4.at' (K := K) (i := W.b k) (σ := [some v, some (nV x), some (.ref En), some (.ref T), some (nV k), none, none, none, none, none, none]) (ta := tVar 2) (by omega) (ev_var rfl) (ev_b (K := K) (tw := tVar 0) (tk := tVar 4) (hw.mono R4.ex) (ev_var rfl) (ev_var rfl) hm)
      rw [if_neg (Ne.symm ab)] at hrowb
      refine s_app hrowb eb (ev_var rfl) (by have := hlen (W.b k); omega) fun H5 e5 => ?_
      have hTb : T ≠ rb := fun z => hTr (z ▸ List.mem_of_getElem? hrb)
      refine ⟨_, rfl, ?_, (R4.mono e5).upd hrb (fun q hq => ?_) ?_⟩
      · rw [upd_ne hTb]
        exact e5 _ _ (by rw [upd_ne hTa]; exact e4 _ _ hT3)
      · show (((RB.tiesOf W x).take (i + 1)).filter fun j => RB.inc W j q).map nV = _
        rw [filter_take hk q]
        by_cases h1 : q = W.a k
        · subst h1
          rw [if_pos rfl, if_pos (RB.inc_iff.mpr (.inl rfl)), List.map_append]; rfl
        · rw [if_neg h1, if_neg (fun z => (RB.inc_iff.mp z).elim (fun e => h1 e.symm) fun e => hq e.symm), List.append_nil]
      · show (((RB.tiesOf W x).take (i + 1)).filter fun j => RB.inc W j (W.b k)).map nV = _
        rw [filter_take hk, if_pos (RB.inc_iff.mpr (.inr rfl)), List.map_append]; rfl
    · rintro σ' H3 ⟨y4, rfl, hT3, R3⟩
      rw [List.length_map, List.take_length] at R3
      have R3' : Rows H H3 En rs (fun p => (tiesAt W x p).map nV) := R3
      have few : (badRows W x).length ≤ 40000 := Nat.le_trans (List.length_filter_le _ _) (by rw [List.length_range]; omega)
      -- the test of the degrees
      refine q_when (b := decide (RB.tiesOf W x = []) || decide (0 < (badRows W x).length)) (et_or (et_test (ev_eqSI (js := []) (ev_var rfl) (sq_of hT3) (el_lst ea_nil (by decide)))) fun _ => et_is (et_test (ev_op (ev_lenN (xs := (badRows W x).map fun i => V.ref (rs.getD i 0)) ?_) ev_c rv_I0)) ?_) (fun hb H4 e4 => ?_) (fun hb H4 e4 => ?_)
      · have ers : rs.map V.ref = (List.range W.n).map fun i => V.ref (rs.getD i 0) := by
          apply List.ext_getElem?
          intro i
          by_cases hi : i < W.n
          · rw [List.getElem?_map, List.getElem?_map, List.getElem?_range hi, List.getElem?_eq_getElem (by omega)]
            show some (V.ref _) = some (V.ref (rs.getD i 0))
            rw [List.getD_eq_getElem?_getD, List.getElem?_eq_getElem (by omega)]; rfl
          · rw [List.getElem?_eq_none (by rw [List.length_map]; omega), List.getElem?_eq_none (by rw [List.length_map, List.length_range]; omega)]
        have htop := R3'.top
        rw [ers] at htop
        refine el_lcS (ks := List.range W.n) (toV := fun i => V.ref (rs.getD i 0)) (fun p => !(decide (0 = (tiesAt W x p).length) || decide (2 = (tiesAt W x p).length))) (fun i => V.ref (rs.getD i 0)) (ev_var rfl) (sq_of htop) (by rw [List.length_range]; omega) (fun _ => rfl) (fun i H4 e4 hi => ?_) (fun i H4 e4 hi _ => ev_var rfl)
        have hi' : i < rs.length := by have := List.mem_range.mp hi; omega
        have hri : rs[i]? = some (rs.getD i 0) := by rw [List.getD_eq_getElem?_getD, List.getElem?_eq_getElem hi']; rfl
        refine et_is (et_test (ev_niU (x := nV (tiesAt W x i).length) (xs := [nV 0, nV 2]) (ev_lenS (ev_var rfl) (sq_of (e4 _ _ (R3'.row i _ hri)))) (eu_tup (ea_cons ev_c (ea_cons ev_c ea_nil)) (by show 2 ≤ 100000; decide)) rfl rfl)) ?_
        rw [inV_two]
      · rw [List.length_map, decide_eq_decide]; omega
      · refine s_ret ev_c fun H5 e5 => hno (fun hring => ?_) H5 ((R3.ex.trans e4).trans e5)
        obtain ⟨d1, d2⟩ := (deg02_iff W x).mp (hring.deg02 g)
        rw [decide_eq_false d1, d2] at hb
        cases hb
      · have c : RB.Deg02 W x := by
          rw [Bool.or_eq_false_iff] at hb
          refine (deg02_iff W x).mpr ⟨of_decide_eq_false hb.1, ?_⟩
          exact List.length_eq_zero_iff.mp (Nat.eq_zero_of_not_pos (of_decide_eq_false hb.2))
        obtain ⟨k0, kr, ek⟩ := List.exists_cons_of_ne_nil c.1
        have hk0 : k0 ∈ RB.tiesOf W x := by rw [ek]; exact List.mem_cons_self
        have hm0 := (RB.mem_tiesOf.mp hk0).1
        have R4 := R3'.mono e4
        have hT4 := e4 _ _ hT3
        have ev0 : ∀ {σ' : L2.St} {H5 : Hp}, Ex H4 H5 → σ'[3]? = some (some (.ref T)) → Ev (tOp (rIxL K) (tVar 3) (tC (.int 0))) σ' H5 (nV k0) := fun {σ' H5} e h => ev_ixL (j := 0) (ev_var h) ev_c (e _ _ hT4) (by rw [ek]; rfl)
        obtain ⟨r0, er0, hr0⟩ := ev_tie (K := K) (k := k0) (σ := [some v, some (nV x), some (.ref En), some (.ref T), y4, none, none, none, none, none, none]) (tw := tVar 0) (tk := tOp (rIxL K) (tVar 3) (tC (.int 0))) (hw.mono R4.ex) (ev_var rfl) (ev0 (Ex.refl _) rfl) hm0
        refine q_unp2U (eu_ends er0 hr0) fun H5 e5 => ?_
        -- walk = [(ties[0], 1)]
        refine q_asgLU (xs := [nV k0, .int 1]) (ea_cons (ev0 e5 rfl) (ea_cons ev_c ea_nil)) (by show 2 ≤ 100000; decide) fun t0 l H6 nt0 e6 ht0 nl => ?_
        have e56 := e5.trans e6
        have R6 := R4.mono e56
        have e46 : Ex H4 (upd H6 l (.lst [.ref t0])) := e56.trans (Ex.new nl)
        have nl4 : H4 l = none := fresh_back e56 nl
        have hl0 : t0 ≠ l := ne_of_none ht0 nl
        -- the loop
        refine q_while (fun n σ' H' => ∃ (ks : List Nat) (at' : Nat) (y8 : Option V), n + ks.length = (RB.tiesOf W x).length ∧ σ' = [some v, some (nV x), some (.ref En), some (.ref T), y4, some (nV (W.a k0)), some (nV at'), some (.ref l), y8, none, none] ∧ Ex H4 H' ∧ WalkL K H' l ks ∧ RB.Going W x (W.a k0) ks at')
          ((RB.tiesOf W x).length - 1) ⟨[k0], W.b k0, none, by rw [ek]; rfl, rfl, e46, ⟨[t0], upd_same, rfl, fun i k hk => ?_⟩, RB.Going.first g hk0⟩ ?_
        · match i, hk with
          | 0, hk =>
            cases hk
            exact ⟨t0, 1, rfl, hl0, sqT_upd (st_of ht0) hl0⟩
        · rintro n σ' H7 ⟨ks, at', y8, hn, rfl, e7, hwk, hgo⟩
          have eH7 := R4.ex.trans e7
          refine ⟨!decide (at' = W.a k0), et_nen (ev_var rfl) (ev_var rfl), fun hb H8 e8 => ?_, fun hb H8 e8 => ?_⟩
          · have hne : at' ≠ W.a k0 := fun z => by rw [decide_eq_true z] at hb; cases hb
            have e48 := e7.trans e8
            have hwk8 := hwk.mono e8
            obtain ⟨js, kl, ejs⟩ : ∃ js kl, ks = js ++ [kl] := by
              rcases List.eq_nil_or_concat ks with h | ⟨js, kl, h⟩
              · exact absurd h hgo.ne
              · exact ⟨js, kl, by rw [h, List.concat_eq_append]⟩
            subst ejs
            obtain ⟨z, hperm, hz, hzi, hzn⟩ := RB.Going.other g hgo hne c
            have hnext := hgo.next g hne c hz hzi hzn
            have hzm := (RB.mem_tiesOf.mp hz).1
            have hatn : at' < W.n := RB.inc_lt g hzm hzi
            have hle := hnext.len_le
            obtain ⟨ts, hts, htl, htk⟩ := hwk8
            obtain ⟨tl, dl, htl1, htl2, htl3⟩ := htk js.length kl (by simp)
            obtain ⟨ts', ets⟩ : ∃ ts', ts = ts' ++ [tl] := by
              rcases List.eq_nil_or_concat ts with h | ⟨a, b, h⟩
              · rw [h] at htl1; cases htl1
              · rw [List.concat_eq_append] at h
                subst h
                have : a.length = js.length := by simp at htl; exact htl
                rw [List.getElem?_append_right (by omega), show js.length - a.length = 0 by omega] at htl1
                exact ⟨a, by rw [Option.some.inj htl1]⟩
            have htsL : H8 l = some (.lst (ts'.map V.ref ++ [.ref tl])) := by rw [hts, ets, List.map_append]; rfl
            obtain ⟨ra, hra, era, hrow⟩ := (R4.mono e48).at' (K := K) (i := at') (σ := [some v, some (nV x), some (.ref En), some (.ref T), y4, some (nV (W.a k0)), some (nV at'), some (.ref l), y8, none, none]) (ta := tVar 2) (tb := tVar 6) (by omega) (ev_var rfl) (ev_var rfl)
            have hsum : (((tiesAt W x at').map fun k : Nat => (k : Int)).sum) = (kl : Int) + (z : Int) := by
              have : ((tiesAt W x at').map fun k : Nat => (k : Int)).Perm [(kl : Int), (z : Int)] := hperm.map _
              rw [sum_perm this]
              simp
            refine ⟨fun σ2 H2 => ∃ (ks : List Nat) (at' : Nat) (y8 : Option V), (n - 1) + ks.length = (RB.tiesOf W x).length ∧ σ2 = [some v, some (nV x), some (.ref En), some (.ref T), y4, some (nV (W.a k0)), some (nV at'), some (.ref l), y8, none, none] ∧ Ex H4 H2 ∧ WalkL K H2 l ks ∧ RB.Going W x (W.a k0) ks at', fun σ2 H2 h => ⟨n - 1, ?_, h⟩, ?_⟩
            · simp only [List.length_append, List.length_cons, List.length_nil] at hn hle
              omega
            have hn' : n - 1 + (js ++ [kl] ++ [z]).length = (RB.tiesOf W x).length := by
              simp only [List.length_append, List.length_cons, List.length_nil] at hn hle ⊢
              omega
            refine q_asg (v := nV z) (ev_is (ev_op (ev_sumS (ns := (tiesAt W x at').map fun k : Nat => (k : Int)) era (sq_of (by rw [hrow, List.map_map]; rfl))) (ev_ixT (j := 0) (v := nV kl) (ev_op (ev_var rfl) (ev_un (x := .int 1) ev_c ru_neg) (rv_ixL (sq_of htsL) (atI_last _ _))) ev_c htl3 rfl) rv_I0) (congrArg V.int ?_)) fun H9 e9 => ?_
            · rw [hsum]; omega
            have e49 := e48.trans e9
            have hts9 := e9 _ _ hts
            have hfew : (ts.map V.ref).length < 100000 := by rw [List.length_map, htl]; omega
            have htk9 : ∀ (i k : Nat), (js ++ [kl])[i]? = some k → ∃ t d, ts[i]? = some t ∧ t ≠ l ∧ SqT K H9 t [nV k, .int d] := fun i k hk => let ⟨t, d, a, b, cc⟩ := htk i k hk; ⟨t, d, a, b, ex_t e9 cc⟩
            have hw9 := hw.mono (R4.ex.trans e49)
            refine s_if (et_eqn (i := W.a z) (j := at') (ev_a hw9 (ev_var rfl) (ev_var rfl) hzm) (ev_var rfl)) (fun hb2 HA eA => ?_) (fun hb2 HA eA => ?_)
            · refine q_appU (eA _ _ hts9) (ev_var rfl) (eu_tup (ea_cons (ev_var rfl) (ea_cons ev_c ea_nil)) (by show 2 ≤ 100000; decide)) hfew fun p HB np eB hp => ?_
              have epl : p ≠ l := (ne_of_none (eA _ _ hts9) np).symm
              have eC : Ex H4 (upd HB l (.lst (ts.map V.ref ++ [.ref p]))) := ((e49.trans eA).trans eB).mut nl4
              refine s_asg (v := nV (RB.oth W z at')) (ev_is (ev_b (k := z) (hw.mono (R4.ex.trans eC)) (ev_var rfl) (ev_var rfl) hzm) ?_) fun HD eD => ⟨_, _, _, hn', rfl, eC.trans eD, (WalkL.snoc htl (fun i k hk => let ⟨t, d, a, b, cc⟩ := htk9 i k hk; ⟨t, d, a, b, ex_t (eA.trans eB) cc⟩) epl (st_of hp)).mono eD, hnext⟩
              unfold RB.oth
              rw [if_pos (of_decide_eq_true hb2)]
            · refine q_appU (eA _ _ hts9) (ev_var rfl) (eu_tup (ea_cons (ev_var rfl) (ea_cons (ev_un (x := .int 1) ev_c ru_neg) ea_nil)) (by show 2 ≤ 100000; decide)) hfew fun p HB np eB hp => ?_
              have epl : p ≠ l := (ne_of_none (eA _ _ hts9) np).symm
              have eC : Ex H4 (upd HB l (.lst (ts.map V.ref ++ [.ref p]))) := ((e49.trans eA).trans eB).mut nl4
              refine s_asg (v := nV (RB.oth W z at')) (ev_is (ev_a (k := z) (hw.mono (R4.ex.trans eC)) (ev_var rfl) (ev_var rfl) hzm) ?_) fun HD eD => ⟨_, _, _, hn', rfl, eC.trans eD, (WalkL.snoc htl (fun i k hk => let ⟨t, d, a, b, cc⟩ := htk9 i k hk; ⟨t, d, a, b, ex_t (eA.trans eB) cc⟩) epl (st_of hp)).mono eD, hnext⟩
              unfold RB.oth
              rw [if_neg (of_decide_eq_false hb2)]
          · have heq : at' = W.a k0 := by
              cases h : decide (at' = W.a k0) with
              | true => exact of_decide_eq_true h
              | false => rw [h] at hb; cases hb
            subst heq
            have hdone := RB.Going.done g hgo c
            obtain ⟨ts, hts, htl, htk⟩ := hwk.mono e8
            refine q_when (b := !decide (ks.length = (RB.tiesOf W x).length)) (et_nen (ev_is (ev_len (ev_var rfl) (sq_of hts)) (by rw [List.length_map, htl])) (ev_lenS (ev_var rfl) (sq_of (e8 _ _ (e7 _ _ hT4))))) (fun hb2 H9 e9 => ?_) (fun hb2 H9 e9 => ?_)
            · refine s_ret ev_c fun HA eA => hno (fun hring => ?_) HA (((eH7.trans e8).trans e9).trans eA)
              rw [decide_eq_true (hdone.mpr hring)] at hb2
              cases hb2
            · refine s_ret (ev_var rfl) fun HA eA => q _ HA (((eH7.trans e8).trans e9).trans eA) ?_
              have hring : RB.IsRing W x := hdone.mp (by
                cases h : decide (ks.length = (RB.tiesOf W x).length) with
                | true => exact of_decide_eq_true h
                | false => rw [h] at hb2; cases hb2)
              rw [RB.ringB_iff.mpr hring]; rfl
end
end RBW
/-! RBW8: values by a word about them; _law_worths, _law_nearest. -/
namespace RBW
open PySem PySem.Spec PyProof.Rows L2 Evl RBX
/-! ### what stands but lists -/
def ExT (H H' : Hp) : Prop := ∀ a o, H a = some o → (∀ xs, o ≠ .lst xs) → H' a = some o
theorem exT {H H' : Hp} (e : Ex H H') : ExT H H' := fun a o h _ => e a o h
theorem ExT.refl (H : Hp) : ExT H H := fun _ _ h _ => h
theorem ExT.trans {H H1 H2 : Hp} (a : ExT H H1) (b : ExT H1 H2) : ExT H H2 := fun x o h n => b x o (a x o h n) n
theorem ExT.upd {H : Hp} {l : Addr} {xs ys : List V} (h : H l = some (.lst xs)) : ExT H (upd H l (.lst ys)) := fun a o e n => by
  have : a ≠ l := fun z => by
    subst z
    rw [h] at e
    exact n xs (Option.some.inj e).symm
  rw [upd_ne this]; exact e
theorem sqT_t {K : PySem.W.Frag} {H H' : Hp} {t : Addr} {xs : List V} (e : ExT H H') (h : SqT K H t xs) : SqT K H' t xs := by
  rcases h with (h | ⟨u, h⟩) | h
  · exact .inl (.inl (e _ _ h fun ys q => by cases q))
  · exact .inl (.inr ⟨u, e _ _ h fun ys q => by cases q⟩)
  · exact .inr h
abbrev VP := V → Hp → Prop
def StT (R : VP) : Prop := ∀ v H H', ExT H H' → R v H → R v H'
def EvP (te : TE) (σ : L2.St) (H : Hp) (R : VP) : Prop := ∀ H1, Ex H H1 → ∀ Q : VK, (∀ v H2, Ex H1 H2 → R v H2 → Q v H2) → te σ H1 Q
/-- a tuple of n, the i-th one as R i says -/
def TupOf (K : PySem.W.Frag) (n : Nat) (R : Nat → VP) : VP := fun v H => ∃ (p : Addr) (xs : List V), v = .ref p ∧ SqT K H p xs ∧ xs.length = n ∧ ∀ i, i < n → ∃ x, xs[i]? = some x ∧ R i x H
def LstOf (n : Nat) (R : Nat → VP) : VP := fun v H => ∃ (p : Addr) (xs : List V), v = .ref p ∧ H p = some (.lst xs) ∧ xs.length = n ∧ ∀ i, i < n → ∃ x, xs[i]? = some x ∧ R i x H
theorem TupOf.st {K : PySem.W.Frag} {n : Nat} {R : Nat → VP} (h : ∀ i, StT (R i)) : StT (TupOf K n R) := fun v H H' e ⟨p, xs, a, b, c, d⟩ =>
  ⟨p, xs, a, sqT_t e b, c, fun i hi => let ⟨x, hx, r⟩ := d i hi; ⟨x, hx, h i x H H' e r⟩⟩
/-- a pair of worths -/
def PairIs (K : PySem.W.Frag) (a b : Option Int) : VP := fun v H => ∃ r, v = .ref r ∧ SqT K H r [oV a, oV b]
theorem PairIs.st {K : PySem.W.Frag} {a b : Option Int} : StT (PairIs K a b) := fun v H H' e ⟨r, h1, h2⟩ => ⟨r, h1, sqT_t e h2⟩
def RowIs (K : PySem.W.Frag) (n : Nat) (g : RB.Far) : VP := TupOf K n fun j => PairIs K (g j false) (g j true)
theorem RowIs.st {K : PySem.W.Frag} {n : Nat} {g : RB.Far} : StT (RowIs K n g) := TupOf.st fun _ => PairIs.st
theorem RowIs.row {K : PySem.W.Frag} {n : Nat} {g : RB.Far} {v : V} {H : Hp} (h : RowIs K n g v H) : IsRow K H v n g := by
  obtain ⟨p, xs, a, b, c, d⟩ := h
  exact ⟨p, xs, a, b, c, fun j hj => let ⟨x, hx, r, e, s⟩ := d j hj; ⟨r, by rw [hx, e], s⟩⟩
theorem IsRow.is {K : PySem.W.Frag} {n : Nat} {g : RB.Far} {v : V} {H : Hp} (h : IsRow K H v n g) : RowIs K n g v H := by
  obtain ⟨p, xs, a, b, c, d⟩ := h
  exact ⟨p, xs, a, b, c, fun j hj => let ⟨r, hx, s⟩ := d j hj; ⟨_, hx, r, rfl, s⟩⟩
def WorIs (K : PySem.W.Frag) (n : Nat) (F : Nat → RB.Far) : VP := TupOf K n fun i => RowIs K n (F i)
theorem WorIs.st {K : PySem.W.Frag} {n : Nat} {F : Nat → RB.Far} : StT (WorIs K n F) := TupOf.st fun _ => RowIs.st
theorem WorIs.wor {K : PySem.W.Frag} {n : Nat} {F : Nat → RB.Far} {v : V} {H : Hp} (h : WorIs K n F v H) : IsWor K H v n F := by
  obtain ⟨p, xs, a, b, c, d⟩ := h
  exact ⟨p, xs, a, b, c, fun j hj => let ⟨x, hx, r⟩ := d j hj; ⟨x, hx, r.row⟩⟩
theorem IsWor.is {K : PySem.W.Frag} {n : Nat} {F : Nat → RB.Far} {v : V} {H : Hp} (h : IsWor K H v n F) : WorIs K n F v H := by
  obtain ⟨p, xs, a, b, c, d⟩ := h
  exact ⟨p, xs, a, b, c, fun j hj => let ⟨x, hx, r⟩ := d j hj; ⟨x, hx, r.is⟩⟩
section
variable {K : PySem.W.Frag} {σ : L2.St} {H H0 : Hp} {ta tb te tl : TE} {t : TT} {tz : TS} {D : Ends}
theorem EvP.mono {H' : Hp} {R : VP} (e : Ex H H') (h : EvP te σ H R) : EvP te σ H' R := fun H1 a Q q => h H1 (e.trans a) Q q
theorem EvP.imp {R R' : VP} (h : EvP te σ H R) (hi : ∀ v H1, Ex H H1 → R v H1 → R' v H1) : EvP te σ H R' := fun H1 e Q q => h H1 e Q fun v H2 e2 r => q v H2 e2 (hi v H2 (e.trans e2) r)
theorem s_retP {R : VP} (h : EvP te σ H R) (k : ∀ v H1, Ex H H1 → R v H1 → D.rt v H1) : tRet te D σ H := h H (Ex.refl H) _ k
theorem q_asgP {i : Nat} {R : VP} (h : EvP te σ H R) (k : ∀ v H1, Ex H H1 → R v H1 → tz D (σ.set i (some v)) H1) : tSeq (tAsg te (gName i)) tz D σ H := h H (Ex.refl H) (fun x H1 => tz D (σ.set i (some x)) H1) k
/-- tuple(xs), xs a new list -/
theorem ep_tup {n : Nat} {R : Nat → VP} (hR : ∀ i, StT (R i)) (h : EvP te σ H (LstOf n R)) : EvP (tCB (rTupS K) (tCons te tNil)) σ H (TupOf K n R) := fun H1 e Q q =>
  h H1 e _ fun v H2 e2 ⟨p, xs, ev, hp, hl, hx⟩ => ⟨p, xs, by rw [ev], .inl ⟨sq_of hp, fun l nl => q _ _ (e2.trans (Ex.new nl)) ⟨l, xs, rfl, st_of upd_same, hl, fun i hi => let ⟨x, a, r⟩ := hx i hi; ⟨x, a, hR i x _ _ (exT (Ex.new nl)) r⟩⟩⟩⟩
/-- .. that stands -/
theorem ep_tupS {n : Nat} {R : Nat → VP} (hR : ∀ i, StT (R i)) {v : V} (h : Ev te σ H v) (hv : LstOf n R v H) : EvP (tCB (rTupS K) (tCons te tNil)) σ H (TupOf K n R) :=
  ep_tup hR fun H1 e Q q => h H1 e _ fun H2 e2 => q v H2 e2 (by
    obtain ⟨p, xs, a, b, c, d⟩ := hv
    have e3 := e.trans e2
    exact ⟨p, xs, a, e3 _ _ b, c, fun i hi => let ⟨x, hx, r⟩ := d i hi; ⟨x, hx, hR i x _ _ (exT e3) r⟩⟩)
/-- one turn of a comprehension -/
theorem lp_turn {R : Nat → VP} (hR : ∀ i, StT (R i)) {H1 : Hp} {Dl : Addr} {i n : Nat} {σ2 : L2.St} {H' : Hp} (hn : i < 40000) (nD : H1 Dl = none) (he : EvP te σ2 H' (R i))
    (p : Ex H1 H' ∧ ∃ xs, H' Dl = some (.lst xs) ∧ xs.length = i ∧ ∀ j, j < i → ∃ x, xs[j]? = some x ∧ R j x H') :
    te σ2 H' fun y H4 => ∃ acc, H4 Dl = some (.lst acc) ∧ acc.length < sizeLine ∧ (Ex H1 (upd H4 Dl (.lst (acc ++ [y]))) ∧ ∃ xs, upd H4 Dl (.lst (acc ++ [y])) Dl = some (.lst xs) ∧ xs.length = i + 1 ∧ ∀ j, j < i + 1 → ∃ x, xs[j]? = some x ∧ R j x (upd H4 Dl (.lst (acc ++ [y])))) := by
  obtain ⟨e1, xs, hD, hl, hx⟩ := p
  refine he H' (Ex.refl H') _ fun y H4 e4 r => ⟨xs, e4 _ _ hD, sz_lt (by omega), (e1.trans e4).mut nD, xs ++ [y], upd_same, by simp [hl], fun j hj => ?_⟩
  have eT : ExT H4 (upd H4 Dl (.lst (xs ++ [y]))) := ExT.upd (e4 _ _ hD)
  by_cases hji : j < i
  · obtain ⟨x, h1, h2⟩ := hx j hji
    exact ⟨x, by rw [List.getElem?_append_left (by omega)]; exact h1, hR j x _ _ ((exT e4).trans eT) h2⟩
  · have : j = i := by omega
    subst this
    exact ⟨y, by rw [List.getElem?_append_right (by omega), show j - xs.length = 0 by omega]; rfl, hR j y _ _ eT r⟩
/-- [e for x in range(n)] -/
theorem lp_range {ta : TA} {j n : Nat} {vs : List Nat} {R : Nat → VP} (hR : ∀ i, StT (R i)) (h : EvA ta σ H [nV n]) (hn : n ≤ 1000) (hw : ∀ x, wipe ((wipe σ vs).set j (some x)) vs = wipe σ vs)
    (he : ∀ (i : Nat) H1, Ex H H1 → i < n → EvP te ((wipe σ vs).set j (some (nV i))) H1 (R i)) : EvP (tLc (iRng1 ta) (gName j) tYes te vs) σ H (LstOf n R) := fun H1 e1 Q q =>
  h H1 e1 _ fun H2 e2 => ⟨(n : Int), rfl, by omega, by omega, fun Dl nD =>
    lc_range (lo := 0) (n := (n : Int).toNat) (fun i H' => Ex H2 H' ∧ ∃ xs, H' Dl = some (.lst xs) ∧ xs.length = i ∧ ∀ j, j < i → ∃ x, xs[j]? = some x ∧ R j x H') ⟨Ex.new nD, [], upd_same, rfl, fun j hj => absurd hj (Nat.not_lt_zero j)⟩ (fun i H' hi p => ⟨hw _, by
      have hi' : i < n := by rw [Int.toNat_natCast] at hi; exact hi
      show te ((wipe σ vs).set j (some (.int ((0 : Int) + (i : Int))))) H' _
      rw [Int.zero_add]
      exact lp_turn (n := n) hR (by omega) nD (he i H' ((e1.trans e2).trans p.1) hi') p⟩)
      (fun H' ⟨e3, xs, a, b, c⟩ => q _ H' (e2.trans e3) ⟨Dl, xs, rfl, a, by rw [Int.toNat_natCast] at b; exact b, fun i hi => c i (by rw [Int.toNat_natCast]; exact hi)⟩)⟩
/-- [e for x in (a list that stands)] -/
theorem lp_list {a : Addr} {ys : List V} {j : Nat} {vs : List Nat} {R : Nat → VP} (hR : ∀ i, StT (R i)) (h : Ev tl σ H (.ref a)) (hs : SqL K H a ys) (hn : ys.length ≤ 1000) (hw : ∀ x, wipe ((wipe σ vs).set j (some x)) vs = wipe σ vs)
    (he : ∀ (i : Nat) y H1, Ex H H1 → ys[i]? = some y → EvP te ((wipe σ vs).set j (some y)) H1 (R i)) : EvP (tLc (iList K tl) (gName j) tYes te vs) σ H (LstOf ys.length R) := fun H1 e1 Q q =>
  h H1 e1 _ fun H2 e2 => ⟨a, rfl, ⟨ys, ex_l (e1.trans e2) hs⟩, fun Dl nD =>
    lc_list (xs := ys) (fun i H' => Ex H2 H' ∧ ∃ xs, H' Dl = some (.lst xs) ∧ xs.length = i ∧ ∀ j, j < i → ∃ x, xs[j]? = some x ∧ R j x H') ⟨Ex.new nD, [], upd_same, rfl, fun j hj => absurd hj (Nat.not_lt_zero j)⟩ (fun i H' _ p => ex_l ((e1.trans e2).trans p.1) hs) (fun i y H' hy p => ⟨hw _, by
      have := (List.getElem?_eq_some_iff.mp hy).1
      exact lp_turn (n := ys.length) hR (by omega) nD (he i y H' ((e1.trans e2).trans p.1) hy) p⟩)
      (fun H' ⟨e3, xs, a, b, c⟩ => q _ H' (e2.trans e3) ⟨Dl, xs, rfl, a, b, c⟩)⟩
/-- [e for x in (a tuple that stands)] -/
theorem lp_tup {a : Addr} {ys : List V} {j : Nat} {vs : List Nat} {R : Nat → VP} (hR : ∀ i, StT (R i)) (h : Ev tl σ H (.ref a)) (hs : SqT K H a ys) (hn : ys.length ≤ 1000) (hw : ∀ x, wipe ((wipe σ vs).set j (some x)) vs = wipe σ vs)
    (he : ∀ (i : Nat) y H1, Ex H H1 → ys[i]? = some y → EvP te ((wipe σ vs).set j (some y)) H1 (R i)) : EvP (tLc (iTup K tl) (gName j) tYes te vs) σ H (LstOf ys.length R) := fun H1 e1 Q q =>
  h H1 e1 _ fun H2 e2 => ⟨a, rfl, ⟨ys, ex_t (e1.trans e2) hs⟩, fun Dl nD =>
    lc_tup (xs := ys) (fun i H' => Ex H2 H' ∧ ∃ xs, H' Dl = some (.lst xs) ∧ xs.length = i ∧ ∀ j, j < i → ∃ x, xs[j]? = some x ∧ R j x H') ⟨Ex.new nD, [], upd_same, rfl, fun j hj => absurd hj (Nat.not_lt_zero j)⟩ (fun i H' _ p => ex_t ((e1.trans e2).trans p.1) hs) (fun i y H' hy p => ⟨hw _, by
      have := (List.getElem?_eq_some_iff.mp hy).1
      exact lp_turn (n := ys.length) hR (by omega) nD (he i y H' ((e1.trans e2).trans p.1) hy) p⟩)
      (fun H' ⟨e3, xs, a, b, c⟩ => q _ H' (e2.trans e3) ⟨Dl, xs, rfl, a, b, c⟩)⟩
/-- for a, b in [(x, y), (z, u)] -/
theorem s_forPairs {t1 t2 : TA} {j1 j2 : Nat} {x1 y1 x2 y2 : V} {tu : TS} (h1 : EvA t1 σ H [x1, y1]) (h2 : ∀ H1, Ex H H1 → EvA t2 σ H1 [x2, y2]) (Pv : Hp → Nat → L2.St → Hp → Prop)
    (h0 : ∀ G, Ex H G → Pv G 0 σ G) (hst : ∀ G i σ' H', Ex H G → Pv G i σ' H' → ∀ a o, H a = none → G a = some o → H' a = some o)
    (hs1 : ∀ G σ' H', Ex H G → Pv G 0 σ' H' → tu { D with nx := Pv G 1, ct := Pv G 1, bk := D.nx } ((σ'.set j1 (some x1)).set j2 (some y1)) H')
    (hs2 : ∀ G σ' H', Ex H G → Pv G 1 σ' H' → tu { D with nx := Pv G 2, ct := Pv G 2, bk := D.nx } ((σ'.set j1 (some x2)).set j2 (some y2)) H')
    (hd : ∀ G σ' H', Ex H G → Pv G 2 σ' H' → D.nx σ' H') : tFor (iList K (tLst (tCons (tTup t1) (tCons (tTup t2) tNil)))) (gTup K 2 (gCons (gName j1) (gCons (gName j2) gNil))) tu D σ H := by
  unfold tFor iList tLst
  unfold tCons
  refine eu_tup h1 (by show 2 ≤ 100000; decide) H (Ex.refl H) _ fun p H2 np e2 hp => ?_
  refine eu_tup (h2 H2 e2) (by show 2 ≤ 100000; decide) H2 (Ex.refl H2) _ fun q H3 nq e3 hq => ?_
  unfold tNil
  refine ⟨by show 2 ≤ sizeLine; decide, fun L nL => ?_⟩
  have eG : Ex H (upd H3 L (.lst [.ref p, .ref q])) := (e2.trans e3).trans (Ex.new nL)
  have pL : p ≠ L := ne_of_none (e3 _ _ hp) nL
  have qL : q ≠ L := ne_of_none hq nL
  refine ⟨L, rfl, ⟨_, sq_of upd_same⟩, for_list (xs := [.ref p, .ref q]) (Pv (upd H3 L (.lst [.ref p, .ref q]))) (h0 _ eG) (fun i σ' H' _ pv => sq_of (hst _ _ _ _ eG pv L _ (fresh_back (e2.trans e3) nL) upd_same)) (fun i x σ' H' hx pv => ?_) (fun σ' H' pv => hd _ σ' H' eG pv)⟩
  match i, hx with
  | 0, hx =>
    cases hx
    exact ⟨p, _, rfl, st_of (hst _ _ _ _ eG pv p _ np (by rw [upd_ne pL]; exact e3 _ _ hp)), rfl, x1, _, rfl, y1, _, rfl, rfl, hs1 _ σ' H' eG pv⟩
  | 1, hx =>
    cases hx
    exact ⟨q, _, rfl, st_of (hst _ _ _ _ eG pv q _ (fresh_back e2 nq) (by rw [upd_ne qL]; exact hq)), rfl, x2, _, rfl, y2, _, rfl, rfl, hs2 _ σ' H' eG pv⟩
  | i + 2, hx => cases hx
end
end RBW
/-! RBW9: _law_worths, _law_nearest. -/
namespace RBW
open PySem PySem.Spec PyProof.Rows L2 Evl RBX
section
variable {P : Program} {w : World} {K : PySem.W.Frag} {mg : Str → Option Value} {base : Heap} {f : Addr} {fd : FuncData}
/-! ### _law_worths -/
def rowV (g : RB.Far) (p : Nat) : List V := [oV (g p false), oV (g p true)]
theorem rowV_get (g : RB.Far) (p : Nat) (s : Bool) : (rowV g p)[bI s]? = some (oV (g p s)) := by cases s <;> rfl
theorem rowV_setF (g : RB.Far) (b : Nat) (t : Bool) (x : Option Int) : rowV (RB.setF g b t x) b = (rowV g b).set (bI t) (oV x) := by
  unfold rowV RB.setF
  cases t
  · rw [if_pos ⟨rfl, rfl⟩, if_neg (fun h => by cases h.2)]; rfl
  · rw [if_neg (fun h => by cases h.2), if_pos ⟨rfl, rfl⟩]; rfl
theorem rowV_setF' (g : RB.Far) (b q : Nat) (t : Bool) (x : Option Int) (h : q ≠ b) : rowV (RB.setF g b t x) q = rowV g q := by
  unfold rowV RB.setF
  rw [if_neg (fun z => h z.1), if_neg (fun z => h z.1)]
theorem bI_eq (j : Nat) (h : j < 2) : j = bI (j == 1) := by
  match j, h with
  | 0, _ => rfl
  | 1, _ => rfl
def sp_law_worths (K : PySem.W.Frag) : Sp := fun vs H Q _ => ∃ (v : V) (W : RB.Web) (M u : Nat), vs = [v, nV M, nV u] ∧ IsWeb K H v W ∧ W.Good ∧ u < W.n ∧ ∀ x H2, Ex H H2 → RowIs K W.n (RB.farR W M u) x H2 → Q x H2
theorem ok_law_worths (Z : Blt mg) (F : Fun K "_law_worths" "_law_worths" s_law_worths f fd) (D_law_least : Def P w K mg base "_law_least" 1 ["one", "more"] (sp_law_least K)) : FnOk P w K mg base CX0 2 f fd ["web", "marks", "point"] (sp_law_worths K) := by
  refine F.ok sc_law_worths (fun vs H Q E h => ?_) (fun cdv A outer s H vs Q E hr h => ?_)
  · obtain ⟨v, W, M, u, rfl, _⟩ := h
    rfl
  · obtain ⟨v, W, M, u, rfl, hw, g, hu, q⟩ := h
    refine ⟨_, (pss_cons (ps_setLc (i := 3) (own := [("other", 7)]) rfl sc_law_worths.nd rfl rfl (sw_true rfl rfl rfl (by decide +kernel)) (pi_range1 (by rfl) Z.range (pa_cons (pe_ix (ix_tupK K) (pv 0) pe_int (fun _ _ => rfl)) pa_nil)) (blkOk_by (N := N_law_worths) (sc := defScope s_law_worths) (by decide +kernel)) (fun _ _ _ _ _ => (pg_name (i := 7) sc_law_worths.nd rfl (.inl rfl))) (fun _ _ _ _ _ => pts_nil) (fun _ _ _ _ _ => (pe_lst (pa_cons pe_non (pa_cons pe_non pa_nil)))))
  (pss_cons (ps_asg pe_int (pg_sub (pe_ix (ix_listK K) (pv 3) (pv 2) (fun _ _ => rfl)) pe_int set_list))
  (pss_cons (ps_for PassesOwn.never rfl (pi_range1 (by rfl) Z.range (pa_cons (pe_op op_mul pe_int (pe_ix (ix_tupK K) (pv 0) pe_int (fun _ _ => rfl))) pa_nil)) (pg_name (i := 4) sc_law_worths.nd rfl (.inl rfl)) (pss_one (ps_for PassesOwn.never rfl (pi_range1 (by rfl) Z.range (pa_cons (pe_callB (len_seqK K) (by rfl) Z.len PySem.boot_len (pa_cons (pe_ix (ix_tupK K) (pv 0) pe_int (fun _ _ => rfl)) pa_nil)) pa_nil)) (pg_name (i := 5) sc_law_worths.nd rfl (.inl rfl)) (pss_cons (ps_asg (pe_ix (ix_tupK K) (pe_ix (ix_tupK K) (pv 0) pe_int (fun _ _ => rfl)) (pv 5) (fun _ _ => rfl)) (pg_tupK K (pg_tup rfl (pgs_cons (pg_name (i := 6) sc_law_worths.nd rfl (.inl rfl)) (pgs_cons (pg_name (i := 7) sc_law_worths.nd rfl (.inl rfl)) (pgs_cons (pg_name (i := 8) sc_law_worths.nd rfl (.inl rfl)) pgs_nil))))))
  (pss_cons (ps_set (i := 9) sc_law_worths.nd rfl (.inl rfl) (pe_op op_and (pe_op op_shr (pv 1) (pv 5)) pe_int))
  (pss_one (ps_for PassesOwn.never rfl (pi_listK K (pe_lst (pa_cons (pe_tup (pa_cons (pv 6) (pa_cons (pv 7) pa_nil))) (pa_cons (pe_tup (pa_cons (pv 7) (pa_cons (pv 6) pa_nil))) pa_nil)))) (pg_tupK K (pg_tup rfl (pgs_cons (pg_name (i := 10) sc_law_worths.nd rfl (.inl rfl)) (pgs_cons (pg_name (i := 11) sc_law_worths.nd rfl (.inl rfl)) pgs_nil)))) (pss_one (ps_for PassesOwn.never rfl (pi_range1 (by rfl) Z.range (pa_cons pe_int pa_nil)) (pg_name (i := 12) sc_law_worths.nd rfl (.inl rfl)) (pss_one (ps_if (pt_cmpR op_notN (pe_ix (ix_listK K) (pe_ix (ix_listK K) (pv 3) (pv 10) (fun _ _ => rfl)) (pv 12) (fun _ _ => rfl)) pe_non (nomark _)) (pss_one (ps_asg (pe_callD D_law_least hr (by decide) (by rfl) (pa_cons (pe_ix (ix_listK K) (pe_ix (ix_listK K) (pv 3) (pv 11) (fun _ _ => rfl)) (pe_op op_xor (pv 12) (pv 9)) (fun _ _ => rfl)) (pa_cons (pe_op op_add (pe_ix (ix_listK K) (pe_ix (ix_listK K) (pv 3) (pv 10) (fun _ _ => rfl)) (pv 12) (fun _ _ => rfl)) (pv 8)) pa_nil))) (pg_sub (pe_ix (ix_listK K) (pv 3) (pv 11) (fun _ _ => rfl)) (pe_op op_xor (pv 12) (pv 9)) set_list))) pss_nil)))))))))))
  (pss_one (ps_ret (pe_callTy (tuple_ofK K) (by rfl) Z.tuple (by decide +kernel) (pa_cons (pe_lc (own := [("pair", 13)]) rfl sc_law_worths.nd (pi_listK K (pv 3)) (blkOk_by (N := N_law_worths) (sc := defScope s_law_worths) (by decide +kernel)) (fun _ _ _ _ _ => (pg_name (i := 13) sc_law_worths.nd rfl (.inl rfl))) (fun _ _ _ _ _ => pts_nil) (fun _ _ _ _ _ => (pe_callTy (tuple_ofK K) (by rfl) Z.tuple (by decide +kernel) (pa_cons (pv 13) pa_nil)))) pa_nil))))))), ?_⟩
    have n5 := g.n5
    have m6 := g.m6
    refine q_asgNews (n := W.n) (xs := [.non, .non]) (ea_cons (ev_n hw (ev_var rfl)) ea_nil) (by omega) (fun _ => rfl) (fun _ _ => el_lst (ea_cons ev_c (ea_cons ev_c ea_nil)) (by show 2 ≤ 100000; decide)) fun En H1 rs nEn hl R1 => ?_
    obtain ⟨r0, hr0, er0, hrow0⟩ := R1.at' (K := K) (i := u) (σ := [some v, some (nV M), some (nV u), some (.ref En), none, none, none, none, none, none, none, none, none, none]) (ta := tVar 3) (tb := tVar 2) (by omega) (ev_var rfl) (ev_var rfl)
    refine q_setL (j := 0) hrow0 ev_c er0 ev_c (by show 0 < 2; decide) fun H2 e2 => ?_
    have R2 := (R1.mono e2).upd (g' := rowV (RB.far0 u)) hr0 (fun q hq => by
      show rowV (RB.setF (fun _ _ => none) u false (some 0)) q = _
      rw [rowV_setF' _ _ _ _ _ hq]; rfl) (ys := [V.non, V.non].set 0 (.int 0)) (by
      show rowV (RB.setF (fun _ _ => none) u false (some 0)) u = _
      rw [rowV_setF]; rfl)
    refine q_forRn (n := 2 * W.n) (ea_cons (ev_is (ev_op ev_c (ev_n (hw.mono R2.ex) (ev_var rfl)) (rv_I (.inl (by decide)))) (congrArg V.int (by omega))) ea_nil) (by omega)
      (fun i σ' H' => ∃ y4 y5 y6 y7 y8 y9 y10 y11 y12, σ' = [some v, some (nV M), some (nV u), some (.ref En), y4, y5, y6, y7, y8, y9, y10, y11, y12, none] ∧ Rows H H' En rs (rowV ((List.range i).foldl (RB.roundR W M) (RB.far0 u))))
      (fun H3 e3 => ⟨_, _, _, _, _, _, _, _, _, rfl, R2.mono e3⟩) ?_ ?_
    · rintro i σ' H3 hi ⟨y4, y5, y6, y7, y8, y9, y10, y11, y12, rfl, R3⟩
      have goalR : rowV ((List.range (i + 1)).foldl (RB.roundR W M) (RB.far0 u)) = rowV ((List.range W.m).foldl (RB.tieR W M) ((List.range i).foldl (RB.roundR W M) (RB.far0 u))) := by
        rw [List.range_succ, List.foldl_append]; rfl
      rw [goalR]
      generalize (List.range i).foldl (RB.roundR W M) (RB.far0 u) = fi at R3 ⊢
      refine s_forRn (n := W.m) (ea_cons (ev_m (hw.mono R3.ex) (ev_var rfl)) ea_nil) (by omega)
        (fun k σ' H' => ∃ y5 y6 y7 y8 y9 y10 y11 y12, σ' = [some v, some (nV M), some (nV u), some (.ref En), some (nV i), y5, y6, y7, y8, y9, y10, y11, y12, none] ∧ Rows H H' En rs (rowV ((List.range k).foldl (RB.tieR W M) fi)))
        (fun H4 e4 => ⟨_, _, _, _, _, _, _, _, rfl, R3.mono e4⟩) ?_ (fun σ' H4 ⟨y5, y6, y7, y8, y9, y10, y11, y12, e, R⟩ => ⟨_, _, _, _, _, _, _, _, _, e, R⟩)
      rintro k σ' H4 hk ⟨y5, y6, y7, y8, y9, y10, y11, y12, rfl, R4⟩
      have goalT : rowV ((List.range (k + 1)).foldl (RB.tieR W M) fi) = rowV ((List.range 2).foldl (RB.wayR W M k) ((List.range k).foldl (RB.tieR W M) fi)) := by
        rw [List.range_succ, List.foldl_append]; rfl
      rw [goalT]
      generalize (List.range k).foldl (RB.tieR W M) fi = fk at R4 ⊢
      obtain ⟨r, h1, h2⟩ := ev_tie (K := K) (k := k) (σ := [some v, some (nV M), some (nV u), some (.ref En), some (nV i), some (nV k), y6, y7, y8, y9, y10, y11, y12, none]) (tw := tVar 0) (tk := tVar 5) (hw.mono R4.ex) (ev_var rfl) (ev_var rfl) hk
      refine q_unp3 h1 h2 fun H5 e5 => ?_
      refine q_asg (ev_bitn (x := M) (k := k) (ev_var rfl) (ev_var rfl)) fun H6 e6 => ?_
      have R6 := R4.mono (e5.trans e6)
      -- one way along the tie
      have way : ∀ (G : Hp) (w' : Nat) (fw : RB.Far) (σ' : L2.St) (H7 : Hp) (nx : L2.St → Hp → Prop) (bk : L2.St → Hp → Prop) (y10 y11 y12 : Option V), w' < 2 →
          σ' = [some v, some (nV M), some (nV u), some (.ref En), some (nV i), some (nV k), some (nV (W.a k)), some (nV (W.b k)), some (.int (W.l k)), some (nV (bI (M.testBit k))), some (nV (RB.fro W k w')), some (nV (RB.too W k w')), y12, none] → Rows H H7 En rs (rowV fw) → (∀ a o, a ∉ rs → G a = some o → H7 a = some o) →
          (∀ σ'' H'' y12, σ'' = [some v, some (nV M), some (nV u), some (.ref En), some (nV i), some (nV k), some (nV (W.a k)), some (nV (W.b k)), some (.int (W.l k)), some (nV (bI (M.testBit k))), some (nV (RB.fro W k w')), some (nV (RB.too W k w')), y12, none] → Rows H H'' En rs (rowV (RB.wayR W M k fw w')) → (∀ a o, a ∉ rs → G a = some o → H'' a = some o) → nx σ'' H'') →
          tFor (iRng1 (tCons (tC (.int 2)) tNil)) (gName 12) (tIfS (tTest (tOp (fun x y H Q => y = .non ∧ Q (.bl (!decide (x = .non))) H) (tOp (rIxL K) (tOp (rIxL K) (tVar 3) (tVar 10)) (tVar 12)) (tC .non)))
            (tAsg (tCall (sp_law_least K) [] E0 (tCons (tOp (rIxL K) (tOp (rIxL K) (tVar 3) (tVar 11)) (tOp (rI0 fun i j => .int (Builtin.bitXor i j)) (tVar 12) (tVar 9))) (tCons (tOp (rI0 fun i j => .int (i + j)) (tOp (rIxL K) (tOp (rIxL K) (tVar 3) (tVar 10)) (tVar 12)) (tVar 8)) tNil)))
              (gSub (tOp (rIxL K) (tVar 3) (tVar 11)) (tOp (rI0 fun i j => .int (Builtin.bitXor i j)) (tVar 12) (tVar 9)) rSetL)) tNext) { nx := nx, rt := Q, bk := bk, ct := nx } σ' H7 := by
        intro G w' fw σ' H7 nx bk y10 y11 y12 hw' hσ R7 kG k'
        subst hσ
        have hfro : RB.fro W k w' < W.n := by unfold RB.fro; split; exact g.an k hk; exact g.bn k hk
        have htoo : RB.too W k w' < W.n := by unfold RB.too; split; exact g.bn k hk; exact g.an k hk
        refine s_forRn (n := 2) (ea_cons ev_c ea_nil) (by omega)
          (fun j σ'' H'' => ∃ y12, σ'' = [some v, some (nV M), some (nV u), some (.ref En), some (nV i), some (nV k), some (nV (W.a k)), some (nV (W.b k)), some (.int (W.l k)), some (nV (bI (M.testBit k))), some (nV (RB.fro W k w')), some (nV (RB.too W k w')), y12, none] ∧ Rows H H'' En rs (rowV ((List.range j).foldl (fun f s => RB.relax W M k w' f (s == 1)) fw)) ∧ ∀ a o, a ∉ rs → G a = some o → H'' a = some o)
          (fun H8 e8 => ⟨_, rfl, R7.mono e8, fun a o ha h => e8 _ _ (kG a o ha h)⟩) ?_ (fun σ'' H'' ⟨y12, e, R, kk⟩ => k' σ'' H'' y12 e R kk)
        rintro j σ'' H8 hj ⟨y12, rfl, R8, k8⟩
        have goalS : rowV ((List.range (j + 1)).foldl (fun f s => RB.relax W M k w' f (s == 1)) fw) = rowV (RB.relax W M k w' ((List.range j).foldl (fun f s => RB.relax W M k w' f (s == 1)) fw) (j == 1)) := by
          rw [List.range_succ, List.foldl_append]; rfl
        rw [goalS]
        generalize (List.range j).foldl (fun f s => RB.relax W M k w' f (s == 1)) fw = fj at R8 ⊢
        have hjb := bI_eq j hj
        generalize (j == 1) = sj at hjb ⊢
        subst hjb
        obtain ⟨ra, hra, era, hrowa⟩ := R8.at' (K := K) (i := RB.fro W k w') (σ := [some v, some (nV M), some (nV u), some (.ref En), some (nV i), some (nV k), some (nV (W.a k)), some (nV (W.b k)), some (.int (W.l k)), some (nV (bI (M.testBit k))), some (nV (RB.fro W k w')), some (nV (RB.too W k w')), some (nV (bI sj)), none]) (ta := tVar 3) (tb := tVar 10) (by omega) (ev_var rfl) (ev_var rfl)
        have hval := ev_ixL (K := K) (tb := tVar 12) (j := bI sj) era (ev_var rfl) hrowa (rowV_get fj _ sj)
        cases hd : fj (RB.fro W k w') sj with
        | none =>
          rw [hd] at hval
          refine s_when (b := false) (et_test (ev_notN (x := .non) hval)) (fun hb => by cases hb) fun _ H9 e9 => ⟨_, rfl, ?_, fun a o ha h => e9 _ _ (k8 a o ha h)⟩
          rw [RB.relax_none hd]
          exact R8.mono e9
        | some d =>
          rw [hd] at hval
          refine s_when (b := true) (et_test (ev_notN (x := .int d) hval)) (fun _ H9 e9 => ?_) (fun hb => by cases hb)
          have R9 := R8.mono e9
          obtain ⟨rb, hrb, erb, hrowb⟩ := R9.at' (K := K) (i := RB.too W k w') (σ := [some v, some (nV M), some (nV u), some (.ref En), some (nV i), some (nV k), some (nV (W.a k)), some (nV (W.b k)), some (.int (W.l k)), some (nV (bI (M.testBit k))), some (nV (RB.fro W k w')), some (nV (RB.too W k w')), some (nV (bI sj)), none]) (ta := tVar 3) (tb := tVar 11) (by omega) (ev_var rfl) (ev_var rfl)
          refine s_setL (j := bI (xor sj (M.testBit k))) (v := oV (some (RB.leastO (fj (RB.too W k w') (xor sj (M.testBit k))) (d + W.l k)))) hrowb
            (ev_call (ea_cons (ev_ixL erb (ev_xorn (s := sj) (b := M.testBit k) (ev_var rfl) (ev_var rfl)) hrowb (rowV_get fj _ _)) (ea_cons (ev_op (hval.mono e9) (ev_var rfl) rv_I0) ea_nil)) fun HA eA Q q E => ⟨_, _, rfl, q⟩) erb (ev_xorn (s := sj) (b := M.testBit k) (ev_var rfl) (ev_var rfl)) ?_ fun HA eA => ⟨_, rfl, ?_, fun a o ha h => ?_⟩
          · cases xor sj (M.testBit k)
            · show 0 < 2; decide
            · show 1 < 2; decide
          · refine (R9.mono eA).upd hrb (fun q hq => ?_) ?_
            · rw [RB.relax_some hd]
              exact rowV_setF' _ _ _ _ _ hq
            · rw [RB.relax_some hd]
              exact rowV_setF _ _ _ _
          · have : a ≠ rb := fun z => ha (z ▸ List.mem_of_getElem? hrb)
            rw [upd_ne this]
            exact eA _ _ (e9 _ _ (k8 a o ha h))
      have hnew : ∀ a : Addr, H6 a = none → a ∉ rs := fun a ha z => by
        obtain ⟨j, hj⟩ := List.getElem?_of_mem z
        rw [R6.row j a hj] at ha
        cases ha
      refine s_forPairs (x1 := nV (W.a k)) (y1 := nV (W.b k)) (x2 := nV (W.b k)) (y2 := nV (W.a k)) (ea_cons (ev_var rfl) (ea_cons (ev_var rfl) ea_nil)) (fun H7 _ => ea_cons (ev_var rfl) (ea_cons (ev_var rfl) ea_nil))
        (fun G j σ' H' => ∃ y10 y11 y12, σ' = [some v, some (nV M), some (nV u), some (.ref En), some (nV i), some (nV k), some (nV (W.a k)), some (nV (W.b k)), some (.int (W.l k)), some (nV (bI (M.testBit k))), y10, y11, y12, none] ∧ Rows H H' En rs (rowV ((List.range j).foldl (RB.wayR W M k) fk)) ∧ ∀ a o, a ∉ rs → G a = some o → H' a = some o)
        (fun G eG => ⟨_, _, _, rfl, R6.mono eG, fun a o _ h => h⟩) (fun G j σ' H' _ ⟨_, _, _, _, _, kk⟩ a o ha h => kk a o (hnew a ha) h) ?_ ?_ (fun G σ' H' _ ⟨y10, y11, y12, e, R, _⟩ => ⟨_, _, _, _, _, _, _, _, e, R⟩)
      · rintro G σ' H7 eG ⟨y10, y11, y12, rfl, R7, k7⟩
        exact way G 0 fk _ H7 _ _ none none y12 (by decide) rfl R7 k7 fun σ'' H'' y12 e R kk => ⟨_, _, y12, e, R, kk⟩
      · rintro G σ' H7 eG ⟨y10, y11, y12, rfl, R7, k7⟩
        exact way G 1 (RB.wayR W M k fk 0) _ H7 _ _ none none y12 (by decide) rfl R7 k7 fun σ'' H'' y12 e R kk => ⟨_, _, y12, e, R, kk⟩
    · rintro σ' H3 ⟨y4, y5, y6, y7, y8, y9, y10, y11, y12, rfl, R3⟩
      have R3' : Rows H H3 En rs (rowV (RB.farR W M u)) := R3
      have := lp_list (K := K) (H := H3) (a := En) (ys := rs.map V.ref) (tl := tVar 3) (te := tCB (rTupS K) (tCons (tVar 13) tNil)) (j := 13) (vs := [13]) (σ := [some v, some (nV M), some (nV u), some (.ref En), y4, y5, y6, y7, y8, y9, y10, y11, y12, none])
        (R := fun i => PairIs K (RB.farR W M u i false) (RB.farR W M u i true)) (fun _ => PairIs.st) (ev_var rfl) (sq_of R3'.top) (by rw [List.length_map]; omega) (fun _ => rfl) (fun i y H4 e4 hy => by
          rw [List.getElem?_map] at hy
          obtain ⟨r, hr, rfl⟩ := Option.map_eq_some_iff.mp hy
          have hrow := e4 _ _ (R3'.row i r hr)
          exact fun H5 e5 Q q => ⟨.ref r, rfl, r, _, rfl, .inl ⟨sq_of (e5 _ _ hrow), fun l nl => q _ _ (Ex.new nl) ⟨l, rfl, st_of upd_same⟩⟩⟩)
      rw [List.length_map, hl] at this
      exact s_retP (ep_tup (fun _ => PairIs.st) this) fun x H4 e4 hx => q x H4 (R3.ex.trans e4) hx
end
end RBW
/-! RBW10: _law_nearest, _law_raised, _law_lowered, _law_any, _law_tried. -/
namespace RBW
open PySem PySem.Spec PyProof.Rows L2 Evl RBX
section
variable {P : Program} {w : World} {K : PySem.W.Frag} {mg : Str → Option Value} {base : Heap} {f : Addr} {fd : FuncData}
/-! ### _law_nearest -/
/-- _law_walk(..) is not None -/
theorem ev_walk {σ : L2.St} {H : Hp} {tw tx : TE} {v : V} {W : RB.Web} {x : Nat} (hw : IsWeb K H v W) (g : W.Good) (h1 : Ev tw σ H v) (h2 : Ev tx σ H (nV x)) :
    Ev (tOp (fun x y H Q => y = .non ∧ Q (.bl (!decide (x = .non))) H) (tCall (sp_law_walk K) [] E0 (tCons tw (tCons tx tNil))) (tC .non)) σ H (.bl (RB.ringB W x)) := fun H1 e Q q =>
  h1 H1 e _ fun H2 e2 => h2 H2 (e.trans e2) _ fun H3 e3 => ⟨v, W, x, rfl, hw.mono ((e.trans e2).trans e3), g, fun u H4 e4 hu => ⟨rfl, by
    rw [hu, Bool.not_not]
    exact q H4 ((e2.trans e3).trans e4)⟩⟩
theorem pow_le64 {m : Nat} (h : m ≤ 6) : 2 ^ m ≤ 64 := Nat.le_trans (Nat.pow_le_pow_right (by decide) h) (by decide)
def sp_law_nearest (K : PySem.W.Frag) : Sp := fun vs H Q _ => ∃ (v : V) (W : RB.Web) (M : Nat), vs = [v, nV M] ∧ IsWeb K H v W ∧ W.Good ∧ RetV (oV (RB.nearest W M)) H Q
theorem ok_law_nearest (Z : Blt mg) (F : Fun K "_law_nearest" "_law_nearest" s_law_nearest f fd) (D_law_odd : Def P w K mg base "_law_odd" 1 ["number"] (sp_law_odd K)) (D_law_walk : Def P w K mg base "_law_walk" 1 ["web", "some"] (sp_law_walk K))
    (D_law_least : Def P w K mg base "_law_least" 1 ["one", "more"] (sp_law_least K)) (D_law_length : Def P w K mg base "_law_length" 1 ["web", "some"] (sp_law_length K)) : FnOk P w K mg base CX0 2 f fd ["web", "marks"] (sp_law_nearest K) := by
  refine F.ok sc_law_nearest (fun vs H Q E h => ?_) (fun cdv A outer s H vs Q E hr h => ?_)
  · obtain ⟨v, W, M, rfl, _⟩ := h
    rfl
  · obtain ⟨v, W, M, rfl, hw, g, q⟩ := h
    refine ⟨_, (pss_cons (ps_set (i := 2) sc_law_nearest.nd rfl (.inl rfl) pe_non)
  (pss_cons (ps_for PassesOwn.never rfl (pi_range2 (by rfl) Z.range (pa_cons pe_int (pa_cons (pe_op op_shl pe_int (pe_callB (len_seqK K) (by rfl) Z.len PySem.boot_len (pa_cons (pe_ix (ix_tupK K) (pv 0) pe_int (fun _ _ => rfl)) pa_nil))) pa_nil))) (pg_name (i := 3) sc_law_nearest.nd rfl (.inl rfl)) (pss_one (ps_if (PW.pt (pw_and (pt_val (pe_callD D_law_odd hr (by decide) (by rfl) (pa_cons (pe_op op_and (pv 3) (pv 1)) pa_nil))) (pw_and1 (pt_cmpR op_notN (pe_callD D_law_walk hr (by decide) (by rfl) (pa_cons (pv 0) (pa_cons (pv 3) pa_nil))) pe_non (nomark _))))) (pss_one (ps_set (i := 2) sc_law_nearest.nd rfl (.inl rfl) (pe_callD D_law_least hr (by decide) (by rfl) (pa_cons (pv 2) (pa_cons (pe_callD D_law_length hr (by decide) (by rfl) (pa_cons (pv 0) (pa_cons (pv 3) pa_nil))) pa_nil))))) pss_nil)))
  (pss_one (ps_ret (pv 2))))), ?_⟩
    have m6 := g.m6
    have p64 := pow_le64 m6
    have p1 : 1 ≤ 2 ^ W.m := Nat.one_le_two_pow
    refine q_asg ev_c fun H1 e1 => ?_
    refine q_forR2 (lo := 1) (n := ((2 ^ W.m : Nat) : Int)) (ea_cons ev_c (ea_cons (ev_shl1 (ev_m (hw.mono e1) (ev_var rfl)) (by omega)) ea_nil)) ⟨by omega, by omega, by omega, by omega⟩
      (fun i σ' H' => ∃ y3, σ' = [some v, some (nV M), some (oV (RB.nearI W M i)), y3] ∧ Ex H H') (fun H2 e2 => ⟨none, rfl, e1.trans e2⟩) ?_ ?_
    · rintro i σ' H2 hi ⟨y3, rfl, e2⟩
      have hlt : i + 1 < 2 ^ W.m := by omega
      have e0 : (1 : Int) + (i : Int) = ((i + 1 : Nat) : Int) := by omega
      rw [e0]
      refine s_when (b := RB.oddOf W M (i + 1) && RB.ringB W (i + 1)) (et_and (et_B (ev_call (ea_cons (ev_is (ev_op (ev_var rfl) (ev_var rfl) rv_I0) (congrArg V.int (land_nat (i + 1) M))) ea_nil) fun H3 e Q q E => ⟨(i + 1) &&& M, rfl, fun H4 e4 => ?_⟩)) fun _ => et_test (ev_walk (hw.mono e2) g (ev_var rfl) (ev_var rfl))) (fun hb H3 e3 => ?_) (fun hb H3 e3 => ?_)
      · rw [RB.oddN_common hlt]; exact q H4 e4
      · refine s_asg (v := .int (RB.leastO (RB.nearI W M i) (RB.lenOf W (i + 1)))) (ev_call (ea_cons (ev_var rfl) (ea_cons (ev_call (z := .int (RB.lenOf W (i + 1))) (ea_cons (ev_var rfl) (ea_cons (ev_var rfl) ea_nil)) fun H4 e Q q E => ⟨v, W, i + 1, rfl, hw.mono ((e2.trans e3).trans e), g, q⟩) ea_nil)) fun H4 e Q q E => ⟨_, _, rfl, q⟩) fun H4 e4 => ⟨some (nV (i + 1)), ?_, (e2.trans e3).trans e4⟩
        have : RB.nearI W M (i + 1) = some (RB.leastO (RB.nearI W M i) (RB.lenOf W (i + 1))) := by
          rw [RB.nearI_succ]; exact if_pos hb
        rw [this]; rfl
      · refine ⟨some (nV (i + 1)), ?_, e2.trans e3⟩
        have : RB.nearI W M (i + 1) = RB.nearI W M i := by
          rw [RB.nearI_succ]
          exact if_neg (by rw [hb]; decide)
        rw [this]; rfl
    · rintro σ' H2 ⟨y3, rfl, e2⟩
      have e0 : (((2 ^ W.m : Nat) : Int) - 1).toNat = 2 ^ W.m - 1 := by omega
      rw [e0]
      exact s_ret (ev_var rfl) fun H3 e3 => q H3 (e2.trans e3)
/-! ### any worths -/
def PairAny (K : PySem.W.Frag) : VP := fun v H => ∃ a b, PairIs K a b v H
def RowAny (K : PySem.W.Frag) (n : Nat) : VP := TupOf K n fun _ => PairAny K
def WorAny (K : PySem.W.Frag) (n : Nat) : VP := TupOf K n fun _ => RowAny K n
theorem PairAny.st : StT (PairAny K) := fun v H H' e ⟨a, b, h⟩ => ⟨a, b, PairIs.st v H H' e h⟩
theorem RowAny.st {n : Nat} : StT (RowAny K n) := TupOf.st fun _ => PairAny.st
theorem WorAny.st {n : Nat} : StT (WorAny K n) := TupOf.st fun _ => RowAny.st
theorem RowAny.row {n : Nat} {v : V} {H : Hp} (h : RowAny K n v H) : ∃ g, IsRow K H v n g := by
  obtain ⟨p, xs, a, b, c, d⟩ := h
  have d' : ∀ j, ∃ (ab : Option Int × Option Int), j < n → ∃ r, xs[j]? = some (.ref r) ∧ SqT K H r [oV ab.1, oV ab.2] := fun j => by
    by_cases hj : j < n
    · obtain ⟨x, hx, y, z, r, e, s⟩ := d j hj
      exact ⟨(y, z), fun _ => ⟨r, by rw [hx, e], s⟩⟩
    · exact ⟨(none, none), fun h => absurd h hj⟩
  refine ⟨fun j s => if s = true then (Classical.choose (d' j)).2 else (Classical.choose (d' j)).1, p, xs, a, b, c, fun j hj => ?_⟩
  exact Classical.choose_spec (d' j) hj
theorem WorAny.wor {n : Nat} {v : V} {H : Hp} (h : WorAny K n v H) : ∃ F, IsWor K H v n F := by
  obtain ⟨p, xs, a, b, c, d⟩ := h
  have d' : ∀ j, ∃ (g : RB.Far), j < n → ∃ u, xs[j]? = some u ∧ IsRow K H u n g := fun j => by
    by_cases hj : j < n
    · obtain ⟨x, hx, r⟩ := d j hj
      obtain ⟨g, hg⟩ := r.row
      exact ⟨g, fun _ => ⟨x, hx, hg⟩⟩
    · exact ⟨fun _ _ => none, fun h => absurd h hj⟩
  exact ⟨fun j => Classical.choose (d' j), p, xs, a, b, c, fun j hj => Classical.choose_spec (d' j) hj⟩
theorem WorIs.any {n : Nat} {F : Nat → RB.Far} {v : V} {H : Hp} (h : WorIs K n F v H) : WorAny K n v H := by
  obtain ⟨p, xs, a, b, c, d⟩ := h
  exact ⟨p, xs, a, b, c, fun i hi => let ⟨x, hx, p', xs', a', b', c', d'⟩ := d i hi; ⟨x, hx, p', xs', a', b', c', fun j hj => let ⟨y, hy, r⟩ := d' j hj; ⟨y, hy, _, _, r⟩⟩⟩
section
variable {σ : L2.St} {H H0 : Hp} {ta tb te tl : TE} {t : TT} {tz : TS} {D : Ends}
theorem ep_ev {v : V} {R : VP} (h : Ev te σ H v) (hR : ∀ H1, Ex H H1 → R v H1) : EvP te σ H R := fun H1 e Q q => h H1 e Q fun H2 e2 => q v H2 e2 (hR H2 (e.trans e2))
theorem ep_U {xs : List V} {R : VP} (h : EvU te σ H xs) (hR : ∀ p H1, Ex H H1 → H1 p = some (.tup xs) → R (.ref p) H1) : EvP te σ H R := fun H1 e Q q => h H1 e Q fun p H2 _ e2 hp => q _ H2 e2 (hR p H2 (e.trans e2) hp)
/-- xs.append(e) -/
theorem s_appP {l : Addr} {xs : List V} {R : VP} (hl : H l = some (.lst xs)) (ha : Ev ta σ H (.ref l)) (h : EvP te σ H R) (hz : xs.length < 100000) (k : ∀ v H1, Ex H H1 → R v H1 → D.nx σ (upd H1 l (.lst (xs ++ [v])))) :
    tDrop (tBM K "list" rAppend ta (tCons te tNil)) D σ H :=
  ha H (Ex.refl H) _ fun Ha ea => ⟨Or.inl ⟨rfl, xs, sq_of (ea l _ hl)⟩, h Ha ea _ fun v Hb eb r => ⟨l, xs, v, rfl, rfl, eb l _ (ea l _ hl), sz_lt hz, k v Hb (ea.trans eb) r⟩⟩
/-- a list so far, one more -/
theorem LstOf.snoc {l : Addr} {i : Nat} {R : VP} (hR : StT R) {xs : List V} {v : V} {H1 : Hp} (hl : H l = some (.lst xs)) (e : Ex H H1) (hn : xs.length = i) (hx : ∀ j, j < i → ∃ x, xs[j]? = some x ∧ R x H) (hv : R v H1) :
    LstOf (i + 1) (fun _ => R) (.ref l) (upd H1 l (.lst (xs ++ [v]))) := by
  have eT : ExT H1 (upd H1 l (.lst (xs ++ [v]))) := ExT.upd (e _ _ hl)
  refine ⟨l, xs ++ [v], rfl, upd_same, by simp [hn], fun j hj => ?_⟩
  by_cases hji : j < i
  · obtain ⟨x, h1, h2⟩ := hx j hji
    exact ⟨x, by rw [List.getElem?_append_left (by omega)]; exact h1, hR x _ _ ((exT e).trans eT) h2⟩
  · have : j = i := by omega
    subst this
    exact ⟨v, by rw [List.getElem?_append_right (by omega), show j - xs.length = 0 by omega]; rfl, hR v _ _ eT hv⟩
theorem LstOf.moveT {l : Addr} {i : Nat} {R : VP} (hR : StT R) {H1 : Hp} (h : LstOf i (fun _ => R) (.ref l) H) (e : ExT H H1) (hl : ∀ xs, H l = some (.lst xs) → H1 l = some (.lst xs)) : LstOf i (fun _ => R) (.ref l) H1 := by
  obtain ⟨p, xs, a, b, c, d⟩ := h
  cases a
  exact ⟨l, xs, rfl, hl xs b, c, fun j hj => let ⟨x, hx, r⟩ := d j hj; ⟨x, hx, hR x _ _ e r⟩⟩
theorem LstOf.ex {l : Addr} {i : Nat} {R : VP} (hR : StT R) {H1 : Hp} (h : LstOf i (fun _ => R) (.ref l) H) (e : Ex H H1) : LstOf i (fun _ => R) (.ref l) H1 := h.moveT hR (exT e) fun xs hx => e _ _ hx
/-- int(a truth) -/
theorem ev_intB {k : Bool} (h : Ev ta σ H (.bl k)) : Ev (tCB (fun xs H Q => (∃ i, xs = [.int i] ∧ Q (.int i) H) ∨ ∃ k, xs = [.bl k] ∧ Q (.int (if k = true then 1 else 0)) H) (tCons ta tNil)) σ H (.int (if k = true then 1 else 0)) := fun H1 e Q q =>
  h H1 e _ fun H2 e2 => .inr ⟨k, rfl, q H2 e2⟩
theorem CMul.bool {i : Int} {k : Bool} : CMul i (if k = true then 1 else 0) := .inr (by cases k <;> decide)
def IsO : VP := fun v _ => ∃ y, v = oV y
theorem IsO.st : StT IsO := fun v H H' e h => h
theorem two_pair {v : V} (h : TupOf K 2 (fun _ => IsO) v H) : PairAny K v H := by
  obtain ⟨p, xs, a, b, c, d⟩ := h
  obtain ⟨x0, h0, y0, e0⟩ := d 0 (by decide)
  obtain ⟨x1, h1, y1, e1⟩ := d 1 (by decide)
  refine ⟨y0, y1, p, a, ?_⟩
  match xs, c with
  | [z0, z1], _ =>
    have q0 : z0 = x0 := Option.some.inj h0
    have q1 : z1 = x1 := Option.some.inj h1
    rw [← e0, ← e1, ← q0, ← q1]; exact b
end
/-! ### _law_raised -/
/-- the outer comprehension's own names -/
def scRaised : Scope := match defBody s_law_raised with
  | [.Return (some (.Call _ [.ListComp _ _ sc _] _ _)) _] => sc
  | _ => ⟨.function, .nil, false, false, .nil⟩
def sp_law_raised (K : PySem.W.Frag) : Sp := fun vs H Q _ => ∃ (wv : V) (n : Nat) (more : Int), vs = [wv, .int more] ∧ n ≤ 5 ∧ WorAny K n wv H ∧ ∀ x H2, Ex H H2 → WorAny K n x H2 → Q x H2
theorem ok_law_raised (Z : Blt mg) (F : Fun K "_law_raised" "_law_raised" s_law_raised f fd) : FnOk P w K mg base CX0 1 f fd ["worths", "more"] (sp_law_raised K) := by
  refine F.ok sc_law_raised (fun vs H Q E h => ?_) (fun cdv A outer s H vs Q E hr h => ?_)
  · obtain ⟨wv, n, more, rfl, _⟩ := h
    rfl
  · obtain ⟨wv, n, more, rfl, n5, hw, q⟩ := h
    refine ⟨_, (pss_one (ps_ret (pe_callTy (tuple_ofK K) (by rfl) Z.tuple (by decide +kernel) (pa_cons (pe_lc (own := [("row", 3)]) rfl sc_law_raised.nd (pi_tupK K (pv 0)) (blkOk_by (N := N_law_raised) (sc := defScope s_law_raised) (by decide +kernel)) (fun _ _ _ _ _ => (pg_name (i := 3) sc_law_raised.nd rfl (.inl rfl))) (fun _ _ _ _ _ => pts_nil) (fun _ _ _ _ _ => (pe_callTy (tuple_ofK K) (by rfl) Z.tuple (by decide +kernel) (pa_cons (pe_lc (own := [("pair", 2)]) rfl sc_law_raised.nd (pi_tupK K (pv 3)) (blkOk_by (N := N_law_raised) (sc := (relS scRaised (defScope s_law_raised))) (by decide +kernel)) (fun _ _ _ _ _ => (pg_name (i := 2) sc_law_raised.nd rfl (.inl rfl))) (fun _ _ _ _ _ => pts_nil) (fun _ _ _ _ _ => (pe_tup (pa_cons (pe_ix (ix_tupK K) (pv 2) pe_int (fun _ _ => rfl)) (pa_cons (pe_ifExp (pt_cmpR op_isN (pe_ix (ix_tupK K) (pv 2) pe_int (fun _ _ => rfl)) pe_non (nomark _)) pe_non (pe_op op_add (pe_ix (ix_tupK K) (pv 2) pe_int (fun _ _ => rfl)) (pv 1))) pa_nil))))) pa_nil)))) pa_nil)))), ?_⟩
    obtain ⟨p, us, rfl, hp, hl, hu⟩ := hw
    subst hl
    refine s_retP (ep_tup (fun _ => RowAny.st) (lp_tup (ys := us) (fun _ => RowAny.st) (ev_var rfl) hp (by omega) (fun _ => rfl) fun i y H1 e1 hy => ?_)) fun x H2 e2 hx => q x H2 e2 hx
    have hi : i < us.length := (List.getElem?_eq_some_iff.mp hy).1
    obtain ⟨y', hy', hrow⟩ := hu i hi
    have ey : y = y' := by
      rw [hy] at hy'
      exact Option.some.inj hy'
    subst ey
    obtain ⟨pr, xs, rfl, hpr, hxl, hxx⟩ := hrow
    show EvP _ _ _ (TupOf K us.length fun _ => PairAny K)
    rw [← hxl]
    refine ep_tup (fun _ => PairAny.st) (lp_tup (ys := xs) (fun _ => PairAny.st) (ev_var rfl) (ex_t e1 hpr) (by omega) (fun _ => rfl) fun j z H2 e2 hz => ?_)
    have hj : j < xs.length := (List.getElem?_eq_some_iff.mp hz).1
    obtain ⟨z', hz', a, b, rr, ez, hs⟩ := hxx j (by omega)
    have ezz : z = .ref rr := by
      rw [hz, ez] at hz'
      exact Option.some.inj hz'
    subst ezz
    have hs2 := ex_t (e1.trans e2) hs
    cases b with
    | none => exact ep_U (eu_tup (ea_cons (ev_ixT (j := 0) (v := oV a) (ev_var rfl) ev_c hs2 rfl) (ea_cons (ev_if (b := true) (et_test (ev_isN (x := .non) (ev_ixT (j := 1) (ev_var rfl) ev_c hs2 rfl))) (fun _ => ev_c) (fun hb => by cases hb)) ea_nil)) (by show 2 ≤ 100000; decide)) fun p H3 e3 hp => ⟨a, none, p, rfl, st_of hp⟩
    | some d => exact ep_U (eu_tup (ea_cons (ev_ixT (j := 0) (v := oV a) (ev_var rfl) ev_c hs2 rfl) (ea_cons (ev_if (v := .int (d + more)) (b := false) (et_test (ev_isN (x := .int d) (ev_ixT (j := 1) (ev_var rfl) ev_c hs2 rfl))) (fun hb => by cases hb) (fun _ => ev_op (ev_ixT (j := 1) (v := .int d) (ev_var rfl) ev_c hs2 rfl) (ev_var rfl) rv_I0)) ea_nil)) (by show 2 ≤ 100000; decide)) fun p H3 e3 hp => ⟨a, some (d + more), p, rfl, st_of hp⟩
/-! ### _law_lowered -/
def sp_law_lowered (K : PySem.W.Frag) : Sp := fun vs H Q _ => ∃ (v wv : V) (W : RB.Web) (left : Int), vs = [v, wv, .int left] ∧ IsWeb K H v W ∧ W.Good ∧ WorAny K W.n wv H ∧ ∀ x H2, Ex H H2 → WorAny K W.n x H2 → Q x H2
theorem ok_law_lowered (Z : Blt mg) (F : Fun K "_law_lowered" "_law_lowered" s_law_lowered f fd) : FnOk P w K mg base CX0 1 f fd ["web", "worths", "left"] (sp_law_lowered K) := by
  refine F.ok sc_law_lowered (fun vs H Q E h => ?_) (fun cdv A outer s H vs Q E hr h => ?_)
  · obtain ⟨v, wv, W, left, rfl, _⟩ := h
    rfl
  · obtain ⟨v, wv, W, left, rfl, hw, g, hwor, q⟩ := h
    refine ⟨_, (pss_cons (ps_set (i := 3) sc_law_lowered.nd rfl (.inl rfl) (pe_lst pa_nil))
  (pss_cons (ps_for PassesOwn.never rfl (pi_range1 (by rfl) Z.range (pa_cons (pe_ix (ix_tupK K) (pv 0) pe_int (fun _ _ => rfl)) pa_nil)) (pg_name (i := 4) sc_law_lowered.nd rfl (.inl rfl)) (pss_cons (ps_set (i := 5) sc_law_lowered.nd rfl (.inl rfl) (pe_lst pa_nil))
  (pss_cons (ps_for PassesOwn.never rfl (pi_range1 (by rfl) Z.range (pa_cons (pe_ix (ix_tupK K) (pv 0) pe_int (fun _ _ => rfl)) pa_nil)) (pg_name (i := 6) sc_law_lowered.nd rfl (.inr rfl)) (pss_cons (ps_set (i := 7) sc_law_lowered.nd rfl (.inr rfl) (pe_lc (own := [("s", 9)]) rfl sc_law_lowered.nd (pi_range1 (by rfl) Z.range (pa_cons pe_int pa_nil)) (blkOk_by (N := N_law_lowered) (sc := defScope s_law_lowered) (by decide +kernel)) (fun _ _ _ _ _ => (pg_name (i := 9) sc_law_lowered.nd rfl (.inl rfl))) (fun _ _ _ _ _ => pts_nil) (fun _ _ _ _ _ => (pe_op op_mod (pe_op op_shr (pv 2) (pe_op op_add (pe_op op_mul pe_int (pv 6)) (pv 9))) pe_int))))
  (pss_cons (ps_asg (pe_op op_mul (pe_ix (ix_listK K) (pv 7) pe_int (fun _ _ => rfl)) (pe_callTy call_int1 (by rfl) Z.int (by decide +kernel) (pa_cons (pe_cmpR op_ne (pv 6) (pv 4) (nomark _)) pa_nil))) (pg_sub (pv 7) pe_int set_list))
  (pss_cons (ps_set (i := 8) sc_law_lowered.nd rfl (.inr rfl) (pe_ix (ix_tupK K) (pe_ix (ix_tupK K) (pv 1) (pv 4) (fun _ _ => rfl)) (pv 6) (fun _ _ => rfl)))
  (pss_one (ps_expr (pe_bmK K (pe_bm PySem.F.plainAttrs_list PySem.F.slot_list_append PySem.F.type_list_append mt_append (pv 5) (pa_cons (pe_callTy (tuple_ofK K) (by rfl) Z.tuple (by decide +kernel) (pa_cons (pe_lc (own := [("s", 9)]) rfl sc_law_lowered.nd (pi_range1 (by rfl) Z.range (pa_cons pe_int pa_nil)) (blkOk_by (N := N_law_lowered) (sc := defScope s_law_lowered) (by decide +kernel)) (fun _ _ _ _ _ => (pg_name (i := 9) sc_law_lowered.nd rfl (.inl rfl))) (fun _ _ _ _ _ => pts_nil) (fun _ _ _ _ _ => (pe_ifExp (pt_cmpR op_isN (pe_ix (ix_tupK K) (pv 8) (pv 9) (fun _ _ => rfl)) pe_non (nomark _)) pe_non (pe_op op_sub (pe_ix (ix_tupK K) (pv 8) (pv 9) (fun _ _ => rfl)) (pe_ix (ix_listK K) (pv 7) (pv 9) (fun _ _ => rfl)))))) pa_nil)) pa_nil)))))))))
  (pss_one (ps_expr (pe_bmK K (pe_bm PySem.F.plainAttrs_list PySem.F.slot_list_append PySem.F.type_list_append mt_append (pv 3) (pa_cons (pe_callTy (tuple_ofK K) (by rfl) Z.tuple (by decide +kernel) (pa_cons (pv 5) pa_nil)) pa_nil))))))))
  (pss_one (ps_ret (pe_callTy (tuple_ofK K) (by rfl) Z.tuple (by decide +kernel) (pa_cons (pv 3) pa_nil)))))), ?_⟩
    have n5 := g.n5
    obtain ⟨F', hF⟩ := hwor.wor
    refine q_asgL (el_lst ea_nil (by decide)) fun ml H1 nml e1 hml => ?_
    refine q_forRn (n := W.n) (ea_cons (ev_n (hw.mono e1) (ev_var rfl)) ea_nil) (by omega)
      (fun i σ' H' => ∃ y4 y5 y6 y7 y8, σ' = [some v, some wv, some (.int left), some (.ref ml), y4, y5, y6, y7, y8, none] ∧ Ex H H' ∧ LstOf i (fun _ => RowAny K W.n) (.ref ml) H')
      (fun H2 e2 => ⟨_, _, _, _, _, rfl, e1.trans e2, ml, [], rfl, e2 _ _ hml, rfl, fun j hj => absurd hj (Nat.not_lt_zero j)⟩) ?_ ?_
    · rintro i σ' H2 hi ⟨y4, y5, y6, y7, y8, rfl, e2, hmade⟩
      refine q_asgL (el_lst ea_nil (by decide)) fun rl H3 nrl e3 hrl => ?_
      have hmlr : ml ≠ rl := by
        obtain ⟨p, xs, a, b, _⟩ := hmade
        cases a
        exact ne_of_none b nrl
      have nrl0 : H rl = none := fresh_back e2 nrl
      refine q_forRn (n := W.n) (ea_cons (ev_n (hw.mono (e2.trans e3)) (ev_var rfl)) ea_nil) (by omega)
        (fun j σ' H' => ∃ y6 y7 y8, σ' = [some v, some wv, some (.int left), some (.ref ml), some (nV i), some (.ref rl), y6, y7, y8, none] ∧ Ex H H' ∧ LstOf i (fun _ => RowAny K W.n) (.ref ml) H' ∧ LstOf j (fun _ => PairAny K) (.ref rl) H')
        (fun H4 e4 => ⟨_, _, _, rfl, (e2.trans e3).trans e4, hmade.ex RowAny.st (e3.trans e4), rl, [], rfl, e4 _ _ hrl, rfl, fun j hj => absurd hj (Nat.not_lt_zero j)⟩) ?_ ?_
      · rintro j σ' H4 hj ⟨y6, y7, y8, rfl, e4, hm4, hr4⟩
        refine q_asgL (xs := [.int (left / 2 ^ (2 * (j : Int) + (0 : Nat)).toNat % 2), .int (left / 2 ^ (2 * (j : Int) + (1 : Nat)).toNat % 2)]) (el_lcRn (n := 2) (fun _ => true) (fun s => .int (left / 2 ^ (2 * (j : Int) + (s : Nat)).toNat % 2)) (ea_cons ev_c ea_nil) (by omega) (fun _ => rfl) (fun _ _ _ _ => et_yes)
          (fun s H5 e5 hs _ => ev_op (ev_op (ev_var rfl) (ev_op (ev_op ev_c (ev_var rfl) (rv_I (.inl (by decide)))) (ev_var rfl) rv_I0) (rv_I (by omega))) ev_c (rv_I (by decide)))) fun ll H5 nll e5 hll => ?_
        have nll0 : H ll = none := fresh_back e4 nll
        obtain ⟨pm, xsm, am, bm, cm, dm⟩ := hm4
        cases am
        obtain ⟨pr, xsr, ar, br, cr, dr⟩ := hr4
        cases ar
        have hmll : ml ≠ ll := ne_of_none bm nll
        have hrll : rl ≠ ll := ne_of_none br nll
        refine q_setL (j := 0) (v := .int (left / 2 ^ (2 * (j : Int) + (0 : Nat)).toNat % 2 * if (!decide (nV j = nV i)) = true then 1 else 0)) hll (ev_op (ev_ixL (j := 0) (ev_var rfl) ev_c hll rfl) (ev_intB (ev_op (ev_var rfl) (ev_var rfl) (rv_ne rfl))) (rv_I CMul.bool)) (ev_var rfl) ev_c (by show 0 < 2; decide) fun H6 e6 => ?_
        have eX : Ex H (upd H6 ll (.lst ([V.int (left / 2 ^ (2 * (j : Int) + (0 : Nat)).toNat % 2), .int (left / 2 ^ (2 * (j : Int) + (1 : Nat)).toNat % 2)].set 0 (.int (left / 2 ^ (2 * (j : Int) + (0 : Nat)).toNat % 2 * if (!decide (nV j = nV i)) = true then 1 else 0))))) := ((e4.trans e5).trans e6).mut nll0
        obtain ⟨u, hu1, hu2⟩ := ev_row (K := K) (i := i) (σ := [some v, some wv, some (.int left), some (.ref ml), some (nV i), some (.ref rl), some (nV j), some (.ref ll), y8, none]) (tw := tVar 1) (ti := tVar 4) (hF.mono eX) (ev_var rfl) (ev_var rfl) hi
        obtain ⟨rr, hr1, hr2⟩ := ev_pair (K := K) (tj := tVar 6) hu2 hu1 (ev_var rfl) hj
        refine q_asg hr1 fun H7 e7 => ?_
        have hbr7 : H7 rl = some (.lst xsr) := e7 _ _ (by rw [upd_ne hrll]; exact e6 _ _ (e5 _ _ br))
        have hbm7 : H7 ml = some (.lst xsm) := e7 _ _ (by rw [upd_ne hmll]; exact e6 _ _ (e5 _ _ bm))
        have t47 : ExT H4 H7 := ((exT (e5.trans e6)).trans (ExT.upd (e6 _ _ hll))).trans (exT e7)
        have hll7 := e7 _ _ (upd_same (H := H6) (a := ll) (o := .lst ([V.int (left / 2 ^ (2 * (j : Int) + (0 : Nat)).toNat % 2), .int (left / 2 ^ (2 * (j : Int) + (1 : Nat)).toNat % 2)].set 0 (.int (left / 2 ^ (2 * (j : Int) + (0 : Nat)).toNat % 2 * if (!decide (nV j = nV i)) = true then 1 else 0)))))
        generalize left / 2 ^ (2 * (j : Int) + (0 : Nat)).toNat % 2 * (if (!decide (nV j = nV i)) = true then 1 else 0) = l0 at hll7
        generalize left / 2 ^ (2 * (j : Int) + (0 : Nat)).toNat % 2 = l00 at hll7
        generalize left / 2 ^ (2 * (j : Int) + (1 : Nat)).toNat % 2 = l1 at hll7
        have hlt : ∀ s, s < 2 → ∃ y, ([V.int l00, .int l1].set 0 (.int l0))[s]? = some (.int y) := fun s hs => by
          match s, hs with
          | 0, _ => exact ⟨l0, rfl⟩
          | 1, _ => exact ⟨l1, rfl⟩
        have hrt : ∀ s, s < 2 → ∃ y, [oV (F' i j false), oV (F' i j true)][s]? = some (oV y) := fun s hs => by
          match s, hs with
          | 0, _ => exact ⟨_, rfl⟩
          | 1, _ => exact ⟨_, rfl⟩
        refine s_appP (R := PairAny K) hbr7 (ev_var rfl) (EvP.imp (ep_tup (fun _ => IsO.st) (lp_range (n := 2) (R := fun _ => IsO) (fun _ => IsO.st) (ea_cons ev_c ea_nil) (by omega) (fun _ => rfl) fun s H8 e8 hs => ?_)) fun x H8 _ hx => two_pair hx) (by omega) fun x H8 e8 hx => ⟨_, _, _, rfl, ?_, ?_, LstOf.snoc PairAny.st hbr7 e8 cr (fun k hk => let ⟨y, hy, r⟩ := dr k hk; ⟨y, hy, PairAny.st y _ _ t47 r⟩) hx⟩
        · obtain ⟨y, hy⟩ := hrt s hs
          obtain ⟨z, hz⟩ := hlt s hs
          have hr3 := ex_t (e7.trans e8) hr2
          cases y with
          | none => exact ep_ev (v := .non) (ev_if (b := true) (et_test (ev_isN (x := .non) (ev_ixT (ev_var rfl) (ev_var rfl) hr3 hy))) (fun _ => ev_c) (fun hb => by cases hb)) fun _ _ => ⟨none, rfl⟩
          | some d => exact ep_ev (v := .int (d - z)) (ev_if (b := false) (et_test (ev_isN (x := .int d) (ev_ixT (ev_var rfl) (ev_var rfl) hr3 hy))) (fun hb => by cases hb) (fun _ => ev_op (ev_ixT (v := .int d) (ev_var rfl) (ev_var rfl) hr3 hy) (ev_ixL (ev_var rfl) (ev_var rfl) (e8 _ _ hll7) hz) rv_I0)) fun _ _ => ⟨some (d - z), rfl⟩
        · exact ((eX.trans e7).trans e8).mut nrl0
        · exact ⟨ml, xsm, rfl, by rw [upd_ne hmlr]; exact e8 _ _ hbm7, cm, fun k hk => let ⟨y, hy, r⟩ := dm k hk; ⟨y, hy, RowAny.st y _ _ ((t47.trans (exT e8)).trans (ExT.upd (e8 _ _ hbr7))) r⟩⟩
      · rintro σ' H4 ⟨y6, y7, y8, rfl, e4, hm4, hr4⟩
        obtain ⟨pm, xsm, am, bm, cm, dm⟩ := hm4
        cases am
        have nml0 : H ml = none := nml
        refine s_appP (R := RowAny K W.n) bm (ev_var rfl) (ep_tupS (fun _ => PairAny.st) (ev_var rfl) hr4) (by omega) fun x H5 e5 hx => ⟨_, _, _, _, _, rfl, (e4.trans e5).mut nml0, LstOf.snoc RowAny.st bm e5 cm dm hx⟩
    · rintro σ' H2 ⟨y4, y5, y6, y7, y8, rfl, e2, hmade⟩
      exact s_retP (ep_tupS (fun _ => RowAny.st) (ev_var rfl) hmade) fun x H3 e3 hx => q x H3 (e2.trans e3) hx
end
end RBW
/-! RBW11: _law_any, _law_tried, _law_web. -/
namespace RBW
open PySem PySem.Spec PyProof.Rows L2 Evl RBX
section
variable {P : Program} {w : World} {K : PySem.W.Frag} {mg : Str → Option Value} {base : Heap} {f : Addr} {fd : FuncData}
/-! ### _law_any -/
def sp_law_any (K : PySem.W.Frag) : Sp := fun vs H Q _ => ∃ (v : V) (W : RB.Web) (left : Int), vs = [v, .int left] ∧ IsWeb K H v W ∧ W.Good ∧ ∀ x H2, Ex H H2 → WorAny K W.n x H2 → Q x H2
theorem ok_law_any (Z : Blt mg) (F : Fun K "_law_any" "_law_any" s_law_any f fd) (D_law_left : Def P w K mg base "_law_left" 1 ["cell", "k", "way"] (sp_law_left K)) : FnOk P w K mg base CX0 2 f fd ["web", "left"] (sp_law_any K) := by
  refine F.ok sc_law_any (fun vs H Q E h => ?_) (fun cdv A outer s H vs Q E hr h => ?_)
  · obtain ⟨v, W, left, rfl, _⟩ := h
    rfl
  · obtain ⟨v, W, left, rfl, hw, g, q⟩ := h
    refine ⟨_, (pss_cons (ps_set (i := 2) sc_law_any.nd rfl (.inl rfl) (pe_lst pa_nil))
  (pss_cons (ps_for PassesOwn.never rfl (pi_range1 (by rfl) Z.range (pa_cons (pe_ix (ix_tupK K) (pv 0) pe_int (fun _ _ => rfl)) pa_nil)) (pg_name (i := 3) sc_law_any.nd rfl (.inl rfl)) (pss_cons (ps_set (i := 4) sc_law_any.nd rfl (.inl rfl) (pe_lst pa_nil))
  (pss_cons (ps_for PassesOwn.never rfl (pi_range1 (by rfl) Z.range (pa_cons (pe_ix (ix_tupK K) (pv 0) pe_int (fun _ _ => rfl)) pa_nil)) (pg_name (i := 5) sc_law_any.nd rfl (.inl rfl)) (pss_cons (ps_set (i := 6) sc_law_any.nd rfl (.inl rfl) (pe_callD D_law_left hr (by decide) (by rfl) (pa_cons (pv 1) (pa_cons (pe_op op_add (pe_op op_mul pe_int (pv 3)) (pv 5)) (pa_cons pe_int pa_nil)))))
  (pss_cons (ps_set (i := 7) sc_law_any.nd rfl (.inl rfl) (pe_op op_mod (pe_op op_fdiv (pv 6) pe_int) pe_int))
  (pss_cons (ps_if (pt_cmpR op_eq (pe_op op_mod (pv 1) pe_int) pe_int (nomark _)) (pss_one (ps_set (i := 7) sc_law_any.nd rfl (.inl rfl) pe_non)) pss_nil)
  (pss_one (ps_expr (pe_bmK K (pe_bm PySem.F.plainAttrs_list PySem.F.slot_list_append PySem.F.type_list_append mt_append (pv 4) (pa_cons (pe_tup (pa_cons (pe_op op_mul (pe_op op_mod (pv 6) pe_int) (pe_callTy call_int1 (by rfl) Z.int (by decide +kernel) (pa_cons (pe_cmpR op_ne (pv 5) (pv 3) (nomark _)) pa_nil))) (pa_cons (pv 7) pa_nil))) pa_nil)))))))))
  (pss_one (ps_expr (pe_bmK K (pe_bm PySem.F.plainAttrs_list PySem.F.slot_list_append PySem.F.type_list_append mt_append (pv 2) (pa_cons (pe_callTy (tuple_ofK K) (by rfl) Z.tuple (by decide +kernel) (pa_cons (pv 4) pa_nil)) pa_nil))))))))
  (pss_one (ps_ret (pe_callTy (tuple_ofK K) (by rfl) Z.tuple (by decide +kernel) (pa_cons (pv 2) pa_nil)))))), ?_⟩
    have n5 := g.n5
    refine q_asgL (el_lst ea_nil (by decide)) fun ml H1 nml e1 hml => ?_
    refine q_forRn (n := W.n) (ea_cons (ev_n (hw.mono e1) (ev_var rfl)) ea_nil) (by omega)
      (fun i σ' H' => ∃ y3 y4 y5 y6 y7, σ' = [some v, some (.int left), some (.ref ml), y3, y4, y5, y6, y7] ∧ Ex H H' ∧ LstOf i (fun _ => RowAny K W.n) (.ref ml) H')
      (fun H2 e2 => ⟨_, _, _, _, _, rfl, e1.trans e2, ml, [], rfl, e2 _ _ hml, rfl, fun j hj => absurd hj (Nat.not_lt_zero j)⟩) ?_ ?_
    · rintro i σ' H2 hi ⟨y3, y4, y5, y6, y7, rfl, e2, hmade⟩
      refine q_asgL (el_lst ea_nil (by decide)) fun rl H3 nrl e3 hrl => ?_
      have hmlr : ml ≠ rl := by
        obtain ⟨p, xs, a, b, _⟩ := hmade
        cases a
        exact ne_of_none b nrl
      have nrl0 : H rl = none := fresh_back e2 nrl
      refine q_forRn (n := W.n) (ea_cons (ev_n (hw.mono (e2.trans e3)) (ev_var rfl)) ea_nil) (by omega)
        (fun j σ' H' => ∃ y5 y6 y7, σ' = [some v, some (.int left), some (.ref ml), some (nV i), some (.ref rl), y5, y6, y7] ∧ Ex H H' ∧ LstOf i (fun _ => RowAny K W.n) (.ref ml) H' ∧ LstOf j (fun _ => PairAny K) (.ref rl) H')
        (fun H4 e4 => ⟨_, _, _, rfl, (e2.trans e3).trans e4, hmade.ex RowAny.st (e3.trans e4), rl, [], rfl, e4 _ _ hrl, rfl, fun j hj => absurd hj (Nat.not_lt_zero j)⟩) ?_ ?_
      · rintro j σ' H4 hj ⟨y5, y6, y7, rfl, e4, hm4, hr4⟩
        obtain ⟨pm, xsm, am, bm, cm, dm⟩ := hm4
        cases am
        obtain ⟨pr, xsr, ar, br, cr, dr⟩ := hr4
        cases ar
        refine q_asg (v := .int (lawLeft left (8 * (i : Int) + (j : Int)) 1)) (ev_call (ea_cons (ev_var rfl) (ea_cons (ev_op (ev_op ev_c (ev_var rfl) (rv_I (.inl (by decide)))) (ev_var rfl) rv_I0) (ea_cons ev_c ea_nil))) fun H5 e Q q E => ⟨_, _, _, rfl, ⟨by omega, by omega⟩, q⟩) fun H5 e5 => ?_
        generalize lawLeft left (8 * (i : Int) + (j : Int)) 1 = st
        refine q_asg (v := .int (st / 16 % 6)) (ev_op (ev_op (ev_var rfl) ev_c (rv_I ⟨by decide, by decide⟩)) ev_c (rv_I (by decide))) fun H6 e6 => ?_
        refine q_ifAsg (v := oV (if left % 3 = 1 then none else some (st / 16 % 6))) (b := decide (left % 3 = 1)) (et_is (et_test (ev_op (ev_op (ev_var rfl) ev_c (rv_I (by decide))) ev_c (rv_eq rfl))) ?_) (fun hb => ev_is ev_c ?_) (fun hb => ?_) fun H7 e7 => ?_
        · rw [decide_eq_decide]
          exact ⟨fun h => V.int.inj h, fun h => congrArg V.int h⟩
        · rw [if_pos (of_decide_eq_true hb)]; rfl
        · rw [if_neg (of_decide_eq_false hb)]; rfl
        generalize (if left % 3 = 1 then none else some (st / 16 % 6)) = od
        have e47 := (e5.trans e6).trans e7
        refine s_appP (R := PairAny K) (e47 _ _ br) (ev_var rfl) (ep_U (eu_tup (ea_cons (ev_op (ev_op (ev_var rfl) ev_c (rv_I (by decide))) (ev_intB (ev_op (ev_var rfl) (ev_var rfl) (rv_ne rfl))) (rv_I CMul.bool)) (ea_cons (ev_var rfl) ea_nil)) (by show 2 ≤ 100000; decide)) fun p H8 e8 hp => ⟨some _, od, p, rfl, st_of hp⟩) (by omega) fun x H8 e8 hx => ⟨_, _, _, rfl, ((e4.trans e47).trans e8).mut nrl0, ?_, LstOf.snoc PairAny.st (e47 _ _ br) e8 cr (fun k hk => let ⟨y, hy, r⟩ := dr k hk; ⟨y, hy, PairAny.st y _ _ (exT e47) r⟩) hx⟩
        exact ⟨ml, xsm, rfl, by rw [upd_ne hmlr]; exact e8 _ _ (e47 _ _ bm), cm, fun k hk => let ⟨y, hy, r⟩ := dm k hk; ⟨y, hy, RowAny.st y _ _ ((exT (e47.trans e8)).trans (ExT.upd (e8 _ _ (e47 _ _ br)))) r⟩⟩
      · rintro σ' H4 ⟨y5, y6, y7, rfl, e4, hm4, hr4⟩
        obtain ⟨pm, xsm, am, bm, cm, dm⟩ := hm4
        cases am
        refine s_appP (R := RowAny K W.n) bm (ev_var rfl) (ep_tupS (fun _ => PairAny.st) (ev_var rfl) hr4) (by omega) fun x H5 e5 hx => ⟨_, _, _, _, _, rfl, (e4.trans e5).mut nml, LstOf.snoc RowAny.st bm e5 cm dm hx⟩
    · rintro σ' H2 ⟨y3, y4, y5, y6, y7, rfl, e2, hmade⟩
      exact s_retP (ep_tupS (fun _ => RowAny.st) (ev_var rfl) hmade) fun x H3 e3 hx => q x H3 (e2.trans e3) hx
/-! ### _law_tried -/
def AllP (R : VP) (vs : List V) (H : Hp) : Prop := ∀ v ∈ vs, R v H
def EvAll (ta : TA) (σ : L2.St) (H : Hp) (n : Nat) (R : VP) : Prop := ∀ H1, Ex H H1 → ∀ Q : List V → Hp → Prop, (∀ vs H2, Ex H1 H2 → vs.length = n → AllP R vs H2 → Q vs H2) → ta σ H1 Q
theorem eall_nil {σ : L2.St} {H : Hp} {R : VP} : EvAll tNil σ H 0 R := fun H1 _ _ q => q [] H1 (Ex.refl H1) rfl fun v hv => by cases hv
theorem eall_cons {σ : L2.St} {H : Hp} {R : VP} {ta : TE} {tr : TA} {n : Nat} (hR : StT R) (h : EvP ta σ H R) (hr : EvAll tr σ H n R) : EvAll (tCons ta tr) σ H (n + 1) R := fun H1 e Q q =>
  h H1 e _ fun v H2 e2 r => hr H2 (e.trans e2) _ fun vs H3 e3 hl hall => q (v :: vs) H3 (e2.trans e3) (by simp [hl]) fun x hx => by
    rcases List.mem_cons.mp hx with here | later
    · exact here ▸ hR v _ _ (exT e3) r
    · exact hall x later
theorem q_asgLAll {σ : L2.St} {H : Hp} {R : VP} {ta : TA} {i n : Nat} {tz : TS} {D : Ends} (hR : StT R) (h : EvAll ta σ H n R) (hn : n ≤ 100000) (k : ∀ l H2 vs, H l = none → Ex H H2 → H2 l = some (.lst vs) → vs.length = n → AllP R vs H2 → tz D (σ.set i (some (.ref l))) H2) :
    tSeq (tAsg (tLst ta) (gName i)) tz D σ H :=
  h H (Ex.refl H) (fun vs H1 => vs.length ≤ sizeLine ∧ ∀ p, H1 p = none → tz D (σ.set i (some (.ref p))) (upd H1 p (.lst vs))) fun vs H1 e1 hl hall => ⟨by rw [hl]; exact sz_of hn, fun p np => k p _ vs (fresh_back e1 np) (e1.trans (Ex.new np)) upd_same hl fun x hx => hR x _ _ (exT (Ex.new np)) (hall x hx)⟩
/-- x = xs + [..] -/
theorem s_asgCat {σ : L2.St} {H : Hp} {R : VP} {ta : TE} {tb : TA} {i n : Nat} {l : Addr} {xs : List V} {D : Ends} (hR : StT R) (ha : Ev ta σ H (.ref l)) (hl : H l = some (.lst xs)) (h : EvAll tb σ H n R) (hn : xs.length + n ≤ 100000)
    (k : ∀ q H2 ys, H q = none → Ex H H2 → H2 q = some (.lst (xs ++ ys)) → ys.length = n → AllP R ys H2 → D.nx (σ.set i (some (.ref q))) H2) : tAsg (tOp rCat ta (tLst tb)) (gName i) D σ H :=
  ha H (Ex.refl H) _ fun H1 e1 => h H1 e1 (fun ys H2 => ys.length ≤ sizeLine ∧ ∀ q, H2 q = none → rCat (.ref l) (.ref q) (upd H2 q (.lst ys)) (fun x H3 => D.nx (σ.set i (some x)) H3)) fun ys H2 e2 hyl hyall => ⟨sz_of (by omega), fun q nq => by
    have hlq : l ≠ q := ne_of_none (e2 _ _ (e1 _ _ hl)) nq
    refine ⟨l, q, xs, ys, rfl, rfl, ?_, upd_same, sz_of (by omega), fun r nr => k r _ ys (fresh_back ((e1.trans e2).trans (Ex.new nq)) nr) (((e1.trans e2).trans (Ex.new nq)).trans (Ex.new nr)) upd_same hyl fun x hx => hR x _ _ (exT ((Ex.new nq).trans (Ex.new nr))) (hyall x hx)⟩
    rw [upd_ne hlq]
    exact e2 _ _ (e1 _ _ hl)⟩
def sp_law_tried (K : PySem.W.Frag) : Sp := fun vs H Q _ => ∃ (v wv : V) (W : RB.Web) (a : Addr) (ns : List Int), vs = [v, wv, .ref a] ∧ IsWeb K H v W ∧ W.Good ∧ WorAny K W.n wv H ∧ SqL K H a (ns.map V.int) ∧ ∀ p H2 xs, H p = none → Ex H H2 → H2 p = some (.lst xs) → AllP (WorAny K W.n) xs H2 → Q (.ref p) H2
theorem ok_law_tried (Z : Blt mg) (F : Fun K "_law_tried" "_law_tried" s_law_tried f fd) (D_law_raised : Def P w K mg base "_law_raised" 1 ["worths", "more"] (sp_law_raised K)) (D_law_cell_at : Def P w K mg base "_law_cell_at" 1 ["script", "k"] (sp_law_cell_at K))
    (D_law_lowered : Def P w K mg base "_law_lowered" 1 ["web", "worths", "left"] (sp_law_lowered K)) (D_law_left : Def P w K mg base "_law_left" 1 ["cell", "k", "way"] (sp_law_left K)) (D_law_any : Def P w K mg base "_law_any" 2 ["web", "left"] (sp_law_any K)) : FnOk P w K mg base CX0 3 f fd ["web", "worths", "script"] (sp_law_tried K) := by
  refine F.ok sc_law_tried (fun vs H Q E h => ?_) (fun cdv A outer s H vs Q E hr h => ?_)
  · obtain ⟨v, wv, W, a, ns, rfl, _⟩ := h
    rfl
  · obtain ⟨v, wv, W, a, ns, rfl, hw, g, hwor, hS, q⟩ := h
    refine ⟨_, (pss_cons (ps_set (i := 3) sc_law_tried.nd rfl (.inl rfl) (pe_lst (pa_cons (pv 1) (pa_cons (pe_callD D_law_raised hr (by decide) (by rfl) (pa_cons (pv 1) (pa_cons pe_int pa_nil))) (pa_cons (pe_callD D_law_raised hr (by decide) (by rfl) (pa_cons (pv 1) (pa_cons pe_int pa_nil))) pa_nil)))))
  (pss_cons (ps_for PassesOwn.never rfl (pi_range1 (by rfl) Z.range (pa_cons pe_int pa_nil)) (pg_name (i := 4) sc_law_tried.nd rfl (.inl rfl)) (pss_cons (ps_set (i := 5) sc_law_tried.nd rfl (.inl rfl) (pe_callD D_law_cell_at hr (by decide) (by rfl) (pa_cons (pv 2) (pa_cons (pe_op op_add pe_int (pv 4)) pa_nil))))
  (pss_one (ps_set (i := 3) sc_law_tried.nd rfl (.inl rfl) (pe_op op_cat (pv 3) (pe_lst (pa_cons (pe_callD D_law_lowered hr (by decide) (by rfl) (pa_cons (pv 0) (pa_cons (pv 1) (pa_cons (pe_callD D_law_left hr (by decide) (by rfl) (pa_cons (pv 5) (pa_cons (pv 4) (pa_cons pe_int pa_nil)))) pa_nil)))) (pa_cons (pe_callD D_law_any hr (by decide) (by rfl) (pa_cons (pv 0) (pa_cons (pe_op op_add (pe_op op_mod (pv 5) (pe_op op_pow pe_int pe_int)) (pv 4)) pa_nil))) pa_nil))))))))
  (pss_one (ps_ret (pv 3))))), ?_⟩
    have n5 := g.n5
    have st : StT (WorAny K W.n) := WorAny.st
    -- tried = [worths, ..]
    have all3 : EvAll (tCons (tVar 1) (tCons (tCall (sp_law_raised K) [] E0 (tCons (tVar 1) (tCons (tC (.int 1)) tNil))) (tCons (tCall (sp_law_raised K) [] E0 (tCons (tVar 1) (tCons (tC (.int 2)) tNil))) tNil))) (L2.start N_law_tried [v, wv, .ref a]) H 3 (WorAny K W.n) := by
      have raised : ∀ m : Int, EvP (tCall (sp_law_raised K) [] E0 (tCons (tVar 1) (tCons (tC (.int m)) tNil))) (L2.start N_law_tried [v, wv, .ref a]) H (WorAny K W.n) := fun m H1 e1 Q q =>
        ea_cons (ev_var (v := wv) rfl) (ea_cons ev_c ea_nil) H1 e1 _ fun H2 e2 => ⟨wv, W.n, m, rfl, n5, st _ _ _ (exT (e1.trans e2)) hwor, fun x H3 e3 hx => q x H3 (e2.trans e3) hx⟩
      exact eall_cons st (ep_ev (ev_var rfl) fun H1 e1 => st _ _ _ (exT e1) hwor) (eall_cons st (raised 1) (eall_cons st (raised 2) eall_nil))
    refine q_asgLAll st all3 (by decide) fun p H1 vs np e1 hp hl hall => ?_
    refine q_forRn (n := 2) (ea_cons ev_c ea_nil) (by omega)
      (fun i σ' H' => ∃ (l : Addr) (xs : List V) (y4 y5 : Option V), σ' = [some v, some wv, some (.ref a), some (.ref l), y4, y5] ∧ Ex H H' ∧ H l = none ∧ H' l = some (.lst xs) ∧ xs.length ≤ 100 + i * 2 ∧ AllP (WorAny K W.n) xs H')
      (fun H2 e2 => ⟨p, vs, none, none, rfl, e1.trans e2, np, e2 _ _ hp, by omega, fun x hx => st _ _ _ (exT e2) (hall x hx)⟩) ?_ ?_
    · rintro i σ' H2 hi ⟨l, xs, y4, y5, rfl, e2, nl, hl2, hlen, hall2⟩
      refine q_asg (v := .int (cellAt ns (2 + i))) (ev_call (ea_cons (ev_var rfl) (ea_cons (ev_is (w := nV (2 + i)) (ev_op ev_c (ev_var rfl) rv_I0) (congrArg V.int (by omega))) ea_nil)) fun H3 e Q q E => ⟨a, ns, 2 + i, rfl, ex_l (e2.trans e) hS, q⟩) fun H3 e3 => ?_
      generalize cellAt ns (2 + i) = cell
      have e23 := e2.trans e3
      have all2 : EvAll (tCons (tCall (sp_law_lowered K) [] E0 (tCons (tVar 0) (tCons (tVar 1) (tCons (tCall (sp_law_left K) [] E0 (tCons (tVar 5) (tCons (tVar 4) (tCons (tC (.int 1)) tNil)))) tNil))))
          (tCons (tCall (sp_law_any K) [] E0 (tCons (tVar 0) (tCons (tOp (rI0 fun i j => .int (i + j)) (tOp (rI (fun _ j => 0 < j) fun i j => .int (i % j)) (tVar 5) (tOp (rI CPow fun i j => .int (i ^ j.toNat)) (tC (.int 10)) (tC (.int 18)))) (tVar 4)) tNil))) tNil)) [some v, some wv, some (.ref a), some (.ref l), some (nV i), some (.int cell)] H3 2 (WorAny K W.n) := by
        refine eall_cons st (fun H4 e4 Q q => ?_) (eall_cons st (fun H4 e4 Q q => ?_) eall_nil)
        · exact ea_cons (ev_var (v := v) rfl) (ea_cons (ev_var (v := wv) rfl) (ea_cons (ev_call (z := .int (lawLeft cell i 1)) (ea_cons (ev_var (v := .int cell) rfl) (ea_cons (ev_var (v := nV i) rfl) (ea_cons ev_c ea_nil))) fun H5 e Q q E => ⟨cell, i, 1, rfl, ⟨by omega, by omega⟩, q⟩) ea_nil)) H4 e4 _ fun H5 e5 => ⟨v, wv, W, _, rfl, hw.mono ((e23.trans e4).trans e5), g, st _ _ _ (exT ((e23.trans e4).trans e5)) hwor, fun x H6 e6 hx => q x H6 (e5.trans e6) hx⟩
        · exact ea_cons (ev_var (v := v) rfl) (ea_cons (ev_op (ev_op (ev_var (v := .int cell) rfl) (ev_op ev_c ev_c (rv_I ⟨by decide, by decide, by decide⟩)) (rv_I (by decide))) (ev_var (v := nV i) rfl) rv_I0) ea_nil) H4 e4 _ fun H5 e5 => ⟨v, W, _, rfl, hw.mono ((e23.trans e4).trans e5), g, fun x H6 e6 hx => q x H6 (e5.trans e6) hx⟩
      refine s_asgCat st (ev_var rfl) (e3 _ _ hl2) all2 (by omega) fun q H5 ys nq e5 hq hyl hyall => ⟨q, xs ++ ys, _, _, rfl, e23.trans e5, fresh_back e23 nq, hq, by rw [List.length_append]; omega, fun x hx => ?_⟩
      · rcases List.mem_append.mp hx with old | new
        · exact st _ _ _ (exT (e3.trans e5)) (hall2 x old)
        · exact hyall x new
    · rintro σ' H2 ⟨l, xs, y4, y5, rfl, e2, nl, hl2, hlen, hall2⟩
      exact s_ret (ev_var rfl) fun H3 e3 => q l H3 xs nl (e2.trans e3) (e3 _ _ hl2) fun x hx => st _ _ _ (exT e3) (hall2 x hx)
end
end RBW
/-! RBW12: _law_web. -/
namespace RBW
open PySem PySem.Spec PyProof.Rows L2 Evl RBX
section
variable {P : Program} {w : World} {K : PySem.W.Frag} {mg : Str → Option Value} {base : Heap} {f : Addr} {fd : FuncData}
section
variable {σ : L2.St} {H H0 : Hp} {ta tb te tl : TE} {t : TT} {tz : TS} {D : Ends}
theorem el_listN {xs : List V} (h : EvL te σ H xs) : EvL (tCB (rListS K) (tCons te tNil)) σ H xs := fun H1 e Q q =>
  h H1 e _ fun p H2 np e2 hp => ⟨p, xs, rfl, .inl (sq_of hp), fun l nl => q l _ (fresh_back e2 nl) (e2.trans (Ex.new nl)) upd_same⟩
/-- if t: x = [..] -/
theorem q_ifAsgL {b : Bool} {i : Nat} {cl : Addr} {xs xs' : List V} (h : EvT t σ H b) (h1 : EvL te σ H xs') (hσ : σ.set i (some (.ref cl)) = σ) (hcl : H cl = some (.lst xs)) (k : ∀ p H1 ys, Ex H H1 → H1 p = some (.lst ys) → (b = true → ys = xs') → (b = false → ys = xs) → tz D (σ.set i (some (.ref p))) H1) :
    tSeq (tIfS t (tAsg te (gName i)) tNext) tz D σ H :=
  q_when h (fun hb H1 e1 => s_asgL (D := { D with nx := tz D }) (h1.mono e1) fun p H2 np e2 hp => k p H2 xs' (e1.trans e2) hp (fun _ => rfl) (fun z => by rw [hb] at z; cases z)) (fun hb H1 e1 => by
    have := k cl H1 xs e1 (e1 _ _ hcl) (fun z => by rw [hb] at z; cases z) (fun _ => rfl)
    rw [hσ] at this
    exact this)
theorem eu_call {sp : Sp} {vs xs : List V} {E : XK} {ta : TA} (h : EvA ta σ H vs) (hs : ∀ H1, Ex H H1 → ∀ Q : VK, (∀ p H2, H1 p = none → Ex H1 H2 → H2 p = some (.tup xs) → Q (.ref p) H2) → ∀ E : XK, sp (vs ++ []) H1 Q E) : EvU (tCall sp [] E ta) σ H xs := fun H1 e Q q =>
  h H1 e _ fun Ha ea => hs Ha (e.trans ea) Q (fun p Hb np eb hb => q p Hb (fresh_back ea np) (ea.trans eb) hb) E
/-- (x, y), y told by a word; x told by a word -/
theorem ep_tup2 {x : V} {R : VP} (hR : StT R) (ha : Ev ta σ H x) (hb : EvP tb σ H R) : EvP (tTup (tCons ta (tCons tb tNil))) σ H (fun v H' => ∃ p y, v = .ref p ∧ SqT K H' p [x, y] ∧ R y H') := fun H1 e Q q =>
  ha H1 e _ fun H2 e2 => hb H2 (e.trans e2) _ fun y H3 e3 r => ⟨by show 2 ≤ sizeLine; decide, fun p np => q _ _ ((e2.trans e3).trans (Ex.new np)) ⟨p, y, rfl, st_of upd_same, hR y _ _ (exT (Ex.new np)) r⟩⟩
theorem ep_tup2' {y : V} {R : VP} (hR : StT R) (ha : EvP ta σ H R) (hb : Ev tb σ H y) : EvP (tTup (tCons ta (tCons tb tNil))) σ H (fun v H' => ∃ p x, v = .ref p ∧ SqT K H' p [x, y] ∧ R x H') := fun H1 e Q q =>
  ha H1 e _ fun x H2 e2 r => hb H2 (e.trans e2) _ fun H3 e3 => ⟨by show 2 ≤ sizeLine; decide, fun p np => q _ _ ((e2.trans e3).trans (Ex.new np)) ⟨p, x, rfl, st_of upd_same, hR x _ _ (exT (e3.trans (Ex.new np))) r⟩⟩
end
def TieIs (K : PySem.W.Frag) (t : RB.Tie) : VP := fun v H => ∃ r, v = .ref r ∧ SqT K H r (tieV t)
theorem TieIs.st {t : RB.Tie} : StT (TieIs K t) := fun v H H' e ⟨r, h1, h2⟩ => ⟨r, h1, sqT_t e h2⟩
def GoodTie (n : Nat) (t : RB.Tie) : Prop := t.a < n ∧ t.b < n ∧ t.a ≠ t.b ∧ 1 ≤ t.l
theorem web_good {n : Nat} {ts : List RB.Tie} (h1 : 1 ≤ n) (h5 : n ≤ 5) (h6 : ts.length ≤ 6) (hg : ∀ (j : Nat) (t : RB.Tie), ts[j]? = some t → GoodTie n t) : (RB.Web.mk n ts).Good := by
  have at' : ∀ k, k < ts.length → GoodTie n ((RB.Web.mk n ts).t k) := fun k hk => hg k _ (by
    show ts[k]? = some (ts.getD k ⟨0, 0, 0⟩)
    rw [List.getD_eq_getElem?_getD, List.getElem?_eq_getElem hk]; rfl)
  exact ⟨h1, h5, h6, fun k hk => (at' k hk).1, fun k hk => (at' k hk).2.1, fun k hk => (at' k hk).2.2.1, fun k hk => (at' k hk).2.2.2⟩
theorem isWeb_t {W : RB.Web} : StT (fun v H => IsWeb K H v W) := fun v H H' e ⟨p, q, rs, h1, h2, h3, h4, h5⟩ =>
  ⟨p, q, rs, h1, sqT_t e h2, sqT_t e h3, h4, fun k hk => let ⟨r, a, b⟩ := h5 k hk; ⟨r, a, sqT_t e b⟩⟩
theorem web_of {n : Nat} {ts : List RB.Tie} {H : Hp} {v : V} (h : ∃ p y, v = .ref p ∧ SqT K H p [nV n, y] ∧ TupOf K ts.length (fun i v H => ∀ t, ts[i]? = some t → TieIs K t v H) y H) : IsWeb K H v ⟨n, ts⟩ := by
  obtain ⟨p, y, rfl, hp, q, xs, rfl, hq, hl, hx⟩ := h
  have ex : ∃ rs : List Addr, xs = rs.map V.ref ∧ ∀ (k : Nat) (t : RB.Tie), ts[k]? = some t → ∃ r, rs[k]? = some r ∧ SqT K H r (tieV t) := by
    refine ⟨xs.map fun v => match v with | .ref r => r | _ => 0, ?_, fun k t hk => ?_⟩
    · rw [List.map_map]
      apply List.ext_getElem?
      intro k
      rw [List.getElem?_map]
      by_cases hk : k < xs.length
      · obtain ⟨x, h1, h2⟩ := hx k (by omega)
        obtain ⟨r, e, _⟩ := h2 _ (List.getElem?_eq_getElem (by omega : k < ts.length))
        rw [h1, e]; rfl
      · rw [List.getElem?_eq_none (by omega)]; rfl
    · have hkl : k < ts.length := (List.getElem?_eq_some_iff.mp hk).1
      obtain ⟨x, h1, h2⟩ := hx k hkl
      obtain ⟨r, e, s⟩ := h2 t hk
      exact ⟨r, by rw [List.getElem?_map, h1, e]; rfl, s⟩
  obtain ⟨rs, rfl, hr⟩ := ex
  refine ⟨p, q, rs, rfl, hp, hq, by rw [List.length_map] at hl; exact hl, fun k hk => ?_⟩
  exact hr k _ (by
    show ts[k]? = some (ts.getD k ⟨0, 0, 0⟩)
    rw [List.getD_eq_getElem?_getD, List.getElem?_eq_getElem hk]; rfl)
def sp_law_web (K : PySem.W.Frag) : Sp := fun vs H Q _ => ∃ (a : Addr) (ns : List Int), vs = [.ref a, .int 5, .int 6] ∧ SqL K H a (ns.map V.int) ∧ ns.length ≤ 63 ∧ ∀ u H2, Ex H H2 → (∃ p wv l W, u = .ref p ∧ SqT K H2 p [wv, .int l] ∧ IsWeb K H2 wv W ∧ W.Good) → Q u H2
theorem ok_law_web (Z : Blt mg) (F : Fun K "_law_web" "_law_web" s_law_web f fd) (D_law_cell_at : Def P w K mg base "_law_cell_at" 1 ["script", "k"] (sp_law_cell_at K)) (D_law_left : Def P w K mg base "_law_left" 1 ["cell", "k", "way"] (sp_law_left K))
    (D_law_tie : Def P w K mg base "_law_tie" 1 ["left", "points", "mode"] (sp_law_tie K)) : FnOk P w K mg base CX0 2 f fd ["script", "most_points", "most_ties"] (sp_law_web K) := by
  refine F.ok sc_law_web (fun vs H Q E h => ?_) (fun cdv A outer s H vs Q E hr h => ?_)
  · obtain ⟨a, ns, rfl, _⟩ := h
    rfl
  · obtain ⟨a, ns, rfl, hS, h63, q⟩ := h
    refine ⟨_, (pss_cons (ps_set (i := 3) sc_law_web.nd rfl (.inl rfl) (pe_op op_mod (pe_callD D_law_cell_at hr (by decide) (by rfl) (pa_cons (pv 0) (pa_cons pe_int pa_nil))) pe_int))
  (pss_cons (ps_set (i := 4) sc_law_web.nd rfl (.inl rfl) (pe_callD D_law_left hr (by decide) (by rfl) (pa_cons (pe_op op_fdiv (pe_callD D_law_cell_at hr (by decide) (by rfl) (pa_cons (pv 0) (pa_cons pe_int pa_nil))) pe_int) (pa_cons pe_int (pa_cons (pv 3) pa_nil)))))
  (pss_cons (ps_set (i := 5) sc_law_web.nd rfl (.inl rfl) (pe_op op_add pe_int (pe_op op_mod (pv 4) (pv 1))))
  (pss_cons (ps_set (i := 6) sc_law_web.nd rfl (.inl rfl) (pe_op op_mod (pe_op op_fdiv (pv 4) (pv 1)) pe_int))
  (pss_cons (ps_set (i := 7) sc_law_web.nd rfl (.inl rfl) (pe_callTy (list_ofK K) (by rfl) Z.list (by decide +kernel) (pa_cons (pe_slice (sl_listK K) (pv 0) (po_some pe_int) (po_some (pe_op op_add pe_int (pv 2)))) pa_nil)))
  (pss_cons (ps_for PassesOwn.never rfl (pi_range2 (by rfl) Z.range (pa_cons (pe_op op_add pe_int (pv 2)) (pa_cons (pe_callB (len_seqK K) (by rfl) Z.len PySem.boot_len (pa_cons (pv 0) pa_nil)) pa_nil))) (pg_name (i := 8) sc_law_web.nd rfl (.inl rfl)) (pss_one (ps_asg (pe_op op_add (pe_op op_mul (pe_ix (ix_listK K) (pv 7) (pe_op op_mod (pv 8) (pv 2)) (fun _ _ => rfl)) pe_int) (pe_ix (ix_listK K) (pv 0) (pv 8) (fun _ _ => rfl))) (pg_sub (pv 7) (pe_op op_mod (pv 8) (pv 2)) set_list))))
  (pss_cons (ps_if (pt_cmpR op_eq (pv 5) pe_int (nomark _)) (pss_one (ps_set (i := 7) sc_law_web.nd rfl (.inl rfl) (pe_lst pa_nil))) pss_nil)
  (pss_cons (ps_set (i := 9) sc_law_web.nd rfl (.inl rfl) (pe_lst pa_nil))
  (pss_cons (ps_for PassesOwn.never rfl (pi_range1 (by rfl) Z.range (pa_cons (pe_callB (len_seqK K) (by rfl) Z.len PySem.boot_len (pa_cons (pv 7) pa_nil)) pa_nil)) (pg_name (i := 8) sc_law_web.nd rfl (.inl rfl)) (pss_one (ps_expr (pe_bmK K (pe_bm PySem.F.plainAttrs_list PySem.F.slot_list_append PySem.F.type_list_append mt_append (pv 9) (pa_cons (pe_callD D_law_tie hr (by decide) (by rfl) (pa_cons (pe_callD D_law_left hr (by decide) (by rfl) (pa_cons (pe_ix (ix_listK K) (pv 7) (pv 8) (fun _ _ => rfl)) (pa_cons (pe_op op_add (pv 8) pe_int) (pa_cons (pv 3) pa_nil)))) (pa_cons (pv 5) (pa_cons (pv 6) pa_nil)))) pa_nil))))))
  (pss_one (ps_ret (pe_tup (pa_cons (pe_tup (pa_cons (pv 5) (pa_cons (pe_callTy (tuple_ofK K) (by rfl) Z.tuple (by decide +kernel) (pa_cons (pv 9) pa_nil)) pa_nil))) (pa_cons (pe_op op_fdiv (pv 4) (pe_op op_mul pe_int (pv 1))) pa_nil)))))))))))))), ?_⟩
    have cell0 : ∀ {σ' : L2.St} {H1 : Hp}, Ex H H1 → σ'[0]? = some (some (.ref a)) → Ev (tCall (sp_law_cell_at K) [] E0 (tCons (tVar 0) (tCons (tC (.int 0)) tNil))) σ' H1 (.int (cellAt ns 0)) := fun {σ' H1} e h =>
      ev_call (ea_cons (ev_var h) (ea_cons ev_c ea_nil)) fun H2 e2 Q q E => ⟨a, ns, 0, rfl, ex_l (e.trans e2) hS, q⟩
    refine q_asg (v := .int (cellAt ns 0 % 2)) (ev_op (cell0 (Ex.refl H) rfl) ev_c (rv_I (by decide))) fun H1 e1 => ?_
    refine q_asg (v := .int (lawLeft (cellAt ns 0 / 2) 0 (cellAt ns 0 % 2))) (ev_call (ea_cons (ev_op (cell0 e1 rfl) ev_c (rv_I ⟨by decide, by decide⟩)) (ea_cons ev_c (ea_cons (ev_var rfl) ea_nil))) fun H2 e Q q E => ⟨_, _, _, rfl, ⟨by decide, by decide⟩, q⟩) fun H2 e2 => ?_
    generalize lawLeft (cellAt ns 0 / 2) 0 (cellAt ns 0 % 2) = left
    generalize cellAt ns 0 % 2 = way
    obtain ⟨n, hn, n1, n5⟩ : ∃ n : Nat, (1 + left % 5 : Int) = (n : Int) ∧ 1 ≤ n ∧ n ≤ 5 := by
      have h0 := Int.emod_nonneg left (show (5 : Int) ≠ 0 by decide)
      have h1 := Int.emod_lt_of_pos left (show (0 : Int) < 5 by decide)
      exact ⟨(1 + left % 5).toNat, by omega, by omega, by omega⟩
    refine q_asg (v := nV n) (ev_is (ev_op ev_c (ev_op (ev_var rfl) (ev_var rfl) (rv_I (by decide))) rv_I0) (congrArg V.int hn)) fun H3 e3 => ?_
    obtain ⟨md, hmd, md4⟩ : ∃ md : Nat, (left / 5 % 4 : Int) = (md : Int) ∧ md < 4 := by
      have h0 := Int.emod_nonneg (left / 5) (show (4 : Int) ≠ 0 by decide)
      have h1 := Int.emod_lt_of_pos (left / 5) (show (0 : Int) < 4 by decide)
      exact ⟨(left / 5 % 4).toNat, by omega, by omega⟩
    refine q_asg (v := nV md) (ev_is (ev_op (ev_op (ev_var rfl) (ev_var rfl) (rv_I ⟨by decide, by decide⟩)) ev_c (rv_I (by decide))) (congrArg V.int hmd)) fun H4 e4 => ?_
    have e14 := ((e1.trans e2).trans e3).trans e4
    obtain ⟨cs0, hcs0, l6, l66⟩ : ∃ cs0 : List Int, cutV (ns.map V.int) (some 1) (some 7) = cs0.map V.int ∧ cs0.length ≤ 6 ∧ (7 < ns.length → cs0.length = 6) := by
      refine ⟨(ns.drop (min 1 ns.length)).take (min 7 ns.length - min 1 ns.length), ?_, ?_, ?_⟩
      · unfold cutV
        rw [show HT.sIx (ns.map V.int).length 0 (some 1) = min 1 (ns.map V.int).length from HT.sIx_nat _ 0 1, show HT.sIx (ns.map V.int).length (ns.map V.int).length (some 7) = min 7 (ns.map V.int).length from HT.sIx_nat _ _ 7, List.length_map, List.map_take, List.map_drop]
      · rw [List.length_take, List.length_drop]; omega
      · intro h; rw [List.length_take, List.length_drop]; omega
    refine q_asgL (xs := cs0.map V.int) (el_listN (by rw [← hcs0]; exact el_sl (ev_var rfl) (eo_some ev_c) (eo_some (ev_op ev_c (ev_var rfl) rv_I0)) (ex_l e14 hS))) fun cl H5 ncl e5 hcl => ?_
    have ncl0 : H cl = none := fresh_back e14 ncl
    refine q_forR2 (lo := 7) (n := (ns.length : Int)) (ea_cons (ev_op ev_c (ev_var rfl) rv_I0) (ea_cons (ev_is (ev_len (ev_var rfl) (ex_l (e14.trans e5) hS)) (by rw [List.length_map])) ea_nil)) ⟨by decide, by decide, by omega, by omega⟩
      (fun i σ' H' => ∃ (cs : List Int) (y8 : Option V), σ' = [some (.ref a), some (.int 5), some (.int 6), some (.int way), some (.int left), some (nV n), some (nV md), some (.ref cl), y8, none] ∧ Ex H H' ∧ H' cl = some (.lst (cs.map V.int)) ∧ cs.length ≤ 6 ∧ (7 < ns.length → cs.length = 6))
      (fun H6 e6 => ⟨cs0, none, rfl, (e14.trans e5).trans e6, e6 _ _ hcl, l6, l66⟩) ?_ ?_
    · rintro i σ' H6 hi ⟨cs, y8, rfl, e6, hc6, lc6, lc66⟩
      have hcl6 := lc66 (by omega)
      have hj : (7 + i) % 6 < cs.length := by omega
      have hk : 7 + i < ns.length := by omega
      have ej : ∀ {H7 : Hp}, Ev (tOp (rI (fun _ j => 0 < j) fun i j => .int (i % j)) (tVar 8) (tVar 2)) [some (.ref a), some (.int 5), some (.int 6), some (.int way), some (.int left), some (nV n), some (nV md), some (.ref cl), some (.int (7 + (i : Int))), none] H7 (nV ((7 + i) % 6)) := fun {H7} =>
        ev_is (ev_op (ev_var rfl) (ev_var rfl) (rv_I (by decide))) (congrArg V.int (by omega))
      refine s_setL (j := (7 + i) % 6) (v := .int (cs[(7 + i) % 6] * 31 + ns[7 + i])) hc6 (ev_op (ev_op (ev_ixL (v := .int cs[(7 + i) % 6]) (ev_var rfl) ej hc6 (by rw [List.getElem?_map, List.getElem?_eq_getElem hj]; rfl)) ev_c (rv_I (.inr (by decide)))) (ev_op (ev_var rfl) (ev_is (w := nV (7 + i)) (ev_var rfl) (congrArg V.int (by omega))) (rv_ixL (v := .int ns[7 + i]) (ex_l e6 hS) (atI_nat (by rw [List.getElem?_map, List.getElem?_eq_getElem hk]; rfl)))) rv_I0) (ev_var rfl) ej (by rw [List.length_map]; exact hj) fun H7 e7 => ⟨cs.set ((7 + i) % 6) (cs[(7 + i) % 6] * 31 + ns[7 + i]), _, rfl, (e6.trans e7).mut ncl0, by rw [upd_same, List.map_set], by rw [List.length_set]; exact lc6, fun h => by rw [List.length_set]; exact lc66 h⟩
    · rintro σ' H6 ⟨cs, y8, rfl, e6, hc6, lc6, lc66⟩
      refine q_ifAsgL (b := decide (n = 1)) (xs := cs.map V.int) (xs' := []) (et_eqn (j := 1) (ev_var rfl) ev_c) (el_lst ea_nil (by decide)) rfl hc6 fun c2 H7 ys e7 hc2 hy1 hy2 => ?_
      obtain ⟨ds, rfl, hd6, hd1⟩ : ∃ ds : List Int, ys = ds.map V.int ∧ ds.length ≤ 6 ∧ (n = 1 → ds = []) := by
        by_cases h : n = 1
        · exact ⟨[], hy1 (decide_eq_true h), by decide, fun _ => rfl⟩
        · exact ⟨cs, hy2 (decide_eq_false h), lc6, fun z => absurd z h⟩
      have e07 := e6.trans e7
      refine q_asgL (el_lst ea_nil (by decide)) fun tl H8 ntl e8 htl => ?_
      have ntl0 : H tl = none := fresh_back e07 ntl
      have hct : c2 ≠ tl := ne_of_none hc2 ntl
      refine q_forRn (n := ds.length) (ea_cons (ev_is (ev_len (ev_var rfl) (sq_of (e8 _ _ hc2))) (by rw [List.length_map])) ea_nil) (by omega)
        (fun i σ' H' => ∃ (ts : List RB.Tie) (y8 : Option V), σ' = [some (.ref a), some (.int 5), some (.int 6), some (.int way), some (.int left), some (nV n), some (nV md), some (.ref c2), y8, some (.ref tl)] ∧ Ex H H' ∧ H' c2 = some (.lst (ds.map V.int)) ∧ ts.length = i ∧ (∀ (j : Nat) (t : RB.Tie), ts[j]? = some t → GoodTie n t) ∧
          LstOf i (fun j v H => ∀ t, ts[j]? = some t → TieIs K t v H) (.ref tl) H')
        (fun H9 e9 => ⟨[], _, rfl, (e07.trans e8).trans e9, (e8.trans e9) _ _ hc2, rfl, (fun j t h => by cases h), tl, [], rfl, e9 _ _ htl, rfl, fun j hj => absurd hj (Nat.not_lt_zero j)⟩) ?_ ?_
      · rintro i σ' H9 hi ⟨ts, y8, rfl, e9, hc9, lts, hgood, p, xs, ep, hp, lxs, hxs⟩
        cases ep
        have n2 : 2 ≤ n := by
          have : n ≠ 1 := fun z => by rw [hd1 z] at hi; exact absurd hi (Nat.not_lt_zero i)
          omega
        refine s_appU (xs := xs) hp (ev_var rfl) (eu_call (xs := tieV (tieOf (lawLeft ds[i] (i + 1) way) n md)) (ea_cons (ev_call (z := .int (lawLeft ds[i] (i + 1) way)) (ea_cons (ev_ixL (v := .int ds[i]) (ev_var rfl) (ev_var rfl) hc9 (by rw [List.getElem?_map, List.getElem?_eq_getElem hi]; rfl)) (ea_cons (ev_op (ev_var rfl) ev_c rv_I0) (ea_cons (ev_var rfl) ea_nil))) fun HA e Q q E => ⟨_, _, _, rfl, ⟨by omega, by omega⟩, q⟩) (ea_cons (ev_var rfl) (ea_cons (ev_var rfl) ea_nil)))
          fun HA e Q q E => ⟨_, n, md, rfl, n2, n5, md4, q⟩) (by omega) fun r HA nr eA hr => ?_
        have hrt : r ≠ tl := (ne_of_none hp nr).symm
        have eT : ExT HA (upd HA tl (.lst (xs ++ [.ref r]))) := ExT.upd (eA _ _ hp)
        refine ⟨ts ++ [tieOf (lawLeft ds[i] (i + 1) way) n md], _, rfl, (e9.trans eA).mut ntl0, by rw [upd_ne hct]; exact eA _ _ hc9, by simp [lts], fun j t hj => ?_, tl, xs ++ [.ref r], rfl, upd_same, by simp [lxs], fun j hj => ?_⟩
        · by_cases hjl : j < ts.length
          · rw [List.getElem?_append_left hjl] at hj
            exact hgood j t hj
          · rw [List.getElem?_append_right (by omega)] at hj
            have h0 : j - ts.length = 0 := by
              cases q : j - ts.length with
              | zero => rfl
              | succ z => rw [q] at hj; cases hj
            rw [h0] at hj
            rw [← Option.some.inj hj]
            exact tieOf_good _ n md n2
        · by_cases hjl : j < i
          · obtain ⟨x, h1, h2⟩ := hxs j hjl
            refine ⟨x, by rw [List.getElem?_append_left (by omega)]; exact h1, fun t ht => ?_⟩
            rw [List.getElem?_append_left (by omega)] at ht
            exact TieIs.st x _ _ ((exT eA).trans eT) (h2 t ht)
          · have : j = i := by omega
            subst this
            refine ⟨.ref r, by rw [List.getElem?_append_right (by omega), show j - xs.length = 0 by omega]; rfl, fun t ht => ?_⟩
            rw [List.getElem?_append_right (by omega), show j - ts.length = 0 by omega] at ht
            rw [← Option.some.inj ht]
            exact ⟨r, rfl, sqT_t eT (st_of hr)⟩
      · rintro σ' H9 ⟨ts, y8, rfl, e9, hc9, lts, hgood, hlst⟩
        rw [← lts] at hlst
        have st : ∀ i : Nat, StT (fun v H => ∀ t, ts[i]? = some t → TieIs K t v H) := fun i v H H' e h t ht => TieIs.st v H H' e (h t ht)
        have web : EvP (tTup (tCons (tVar 5) (tCons (tCB (rTupS K) (tCons (tVar 9) tNil)) tNil))) [some (.ref a), some (.int 5), some (.int 6), some (.int way), some (.int left), some (nV n), some (nV md), some (.ref c2), y8, some (.ref tl)] H9 (fun v H => IsWeb K H v ⟨n, ts⟩) :=
          EvP.imp (ep_tup2 (K := K) (TupOf.st st) (ev_var rfl) (ep_tupS st (ev_var rfl) hlst)) fun v HA _ h => web_of h
        have hgd : (RB.Web.mk n ts).Good := web_good n1 n5 (Nat.le_trans (by omega) hd6) hgood
        exact s_retP (ep_tup2' (K := K) isWeb_t web (ev_op (ev_var rfl) (ev_op ev_c (ev_var rfl) (rv_I (.inl (by decide)))) (rv_I ⟨by decide, by decide⟩))) fun u HA eA ⟨p, x, h1, h2, h3⟩ => q u HA (e9.trans eA) ⟨p, x, _, _, h1, h2, h3, hgd⟩
end
end RBW
/-! RBW13: the law. -/
namespace RBW
open PySem PySem.Spec PyProof.Rows L2 Evl RBX
section
variable {P : Program} {w : World} {K : PySem.W.Frag} {mg : Str → Option Value} {base : Heap} {f : Addr} {fd : FuncData}
/-- odd_judged(web, marks, (a new tuple)) -/
theorem ev_judged {σ : L2.St} {H : Hp} {ta tb : TE} {tt : TA} {v : V} {M : Nat} {xs : List V} {z : V} (ha : Ev ta σ H v) (hb : Ev tb σ H (nV M)) (hu : EvU (tTup tt) σ H xs)
    (hs : ∀ p H1, Ex H H1 → H1 p = some (.tup xs) → ∀ (Q : VK) (E : XK), (∀ H2, Ex H1 H2 → Q z H2) → sp_odd_judged K [v, nV M, .ref p] H1 Q E) : Ev (tCall (sp_odd_judged K) [] E0 (tCons ta (tCons tb (tCons (tTup tt) tNil)))) σ H z := fun H1 e Q q =>
  ha H1 e _ fun H2 e2 => hb H2 (e.trans e2) _ fun H3 e3 => hu H3 ((e.trans e2).trans e3) _ fun p H4 _ e4 hp => hs p H4 (((e.trans e2).trans e3).trans e4) hp Q E0 fun H5 e5 => q H5 (((e2.trans e3).trans e4).trans e5)
noncomputable def nearB (W : RB.Web) (M x : Nat) : Bool := RB.oddOf W M x && dec (RB.nearest W M = some (RB.lenOf W x))
theorem taken_near {W : RB.Web} {M x : Nat} {F : Nat → RB.Far} (g : W.Good) (hx : x < 2 ^ W.m) (r : RB.IsRing W x) (h : Taken W M F x) : nearB W M x = true := by
  unfold nearB
  rw [h.1, dec_t (RB.sound g hx r h.1 h.2.1 h.2.2)]; rfl
theorem right_taken {W : RB.Web} {M x : Nat} (g : W.Good) (hx : x < 2 ^ W.m) (r : RB.IsRing W x) : dec (Taken W M (RB.farR W M) x) = nearB W M x := by
  cases h : nearB W M x with
  | true =>
    unfold nearB at h
    rw [Bool.and_eq_true] at h
    exact dec_t ⟨h.1, RB.far_stand g, RB.backs g (dec_iff.mp h.2)⟩
  | false =>
    refine dec_f fun ht => ?_
    rw [taken_near g hx r ht] at h
    cases h
theorem pickN (W : RB.Web) (f : Nat → Bool) : Side W.n ((List.range W.n).filter f) ∨ 1000 < W.n := by
  by_cases hn : W.n ≤ 1000
  · left
    have hl : ((List.range W.n).filter f).length ≤ 1000 := Nat.le_trans (List.length_filter_le _ _) (by rw [List.length_range]; exact hn)
    have hp : ((List.range W.n).filter f).Pairwise (· < ·) := List.pairwise_lt_range.filter f
    refine ⟨fun i p hi => List.mem_range.mp (List.mem_filter.mp (List.mem_of_getElem? hi)).1, fun i p q h1 h2 => ?_, hl⟩
    obtain ⟨b1, e1⟩ := List.getElem?_eq_some_iff.mp h1
    obtain ⟨b2, e2⟩ := List.getElem?_eq_some_iff.mp h2
    have := List.pairwise_iff_getElem.mp hp i (i + 1) b1 b2 (by omega)
    rw [e1, e2] at this
    exact this
  · exact .inr (by omega)
def sp_law (K : PySem.W.Frag) : Sp := fun vs H Q _ => ∃ (a : Addr) (ns : List Int), vs = [.ref a] ∧ SqL K H a (ns.map V.int) ∧ ns.length ≤ 63 ∧ ∀ H', Q (.bl true) H'
theorem ok_law (Z : Blt mg) (F : Fun K "law" "law" s_law f fd) (D_law_web : Def P w K mg base "_law_web" 2 ["script", "most_points", "most_ties"] (sp_law_web K)) (D_law_worths : Def P w K mg base "_law_worths" 2 ["web", "marks", "point"] (sp_law_worths K))
    (D_law_nearest : Def P w K mg base "_law_nearest" 2 ["web", "marks"] (sp_law_nearest K)) (D_law_walk : Def P w K mg base "_law_walk" 1 ["web", "some"] (sp_law_walk K)) (D_law_tried : Def P w K mg base "_law_tried" 3 ["web", "worths", "script"] (sp_law_tried K))
    (D_law_odd : Def P w K mg base "_law_odd" 1 ["number"] (sp_law_odd K)) (D_law_length : Def P w K mg base "_law_length" 1 ["web", "some"] (sp_law_length K)) (D_odd_judged : Def P w K mg base "odd_judged" 7 ["web", "marks", "answer"] (sp_odd_judged K))
    (D_law_cut : Def P w K mg base "_law_cut" 1 ["web", "side"] (sp_law_cut K)) : FnOk P w K mg base CX0 8 f fd ["script"] (sp_law K) := by
  refine F.ok sc_law (fun vs H Q E h => ?_) (fun cdv A outer s H vs Q E hr h => ?_)
  · obtain ⟨a, ns, rfl, _⟩ := h
    rfl
  · obtain ⟨a, ns, rfl, hS, h63, q⟩ := h
    refine ⟨_, (pss_cons (ps_asg (pe_callD D_law_web hr (by decide) (by rfl) (pa_cons (pv 0) (pa_cons pe_int (pa_cons pe_int pa_nil)))) (pg_tupK K (pg_tup rfl (pgs_cons (pg_name (i := 1) sc_law.nd rfl (.inr rfl)) (pgs_cons (pg_name (i := 2) sc_law.nd rfl (.inl rfl)) pgs_nil)))))
  (pss_cons (ps_set (i := 3) sc_law.nd rfl (.inr rfl) (pe_op op_mod (pv 2) (pe_op op_shl pe_int (pe_callB (len_seqK K) (by rfl) Z.len PySem.boot_len (pa_cons (pe_ix (ix_tupK K) (pv 1) pe_int (fun _ _ => rfl)) pa_nil)))))
  (pss_cons (ps_set (i := 4) sc_law.nd rfl (.inl rfl) (pe_callTy (tuple_ofK K) (by rfl) Z.tuple (by decide +kernel) (pa_cons (pe_lc (own := [("point", 13)]) rfl sc_law.nd (pi_range1 (by rfl) Z.range (pa_cons (pe_ix (ix_tupK K) (pv 1) pe_int (fun _ _ => rfl)) pa_nil)) (blkOk_by (N := N_law) (sc := defScope s_law) (by decide +kernel)) (fun _ _ _ _ _ => (pg_name (i := 13) sc_law.nd rfl (.inl rfl))) (fun _ _ _ _ _ => pts_nil) (fun _ _ _ _ _ => (pe_callD D_law_worths hr (by decide) (by rfl) (pa_cons (pv 1) (pa_cons (pv 3) (pa_cons (pv 13) pa_nil)))))) pa_nil)))
  (pss_cons (ps_set (i := 5) sc_law.nd rfl (.inl rfl) (pe_callD D_law_nearest hr (by decide) (by rfl) (pa_cons (pv 1) (pa_cons (pv 3) pa_nil))))
  (pss_cons (ps_setLc (i := 6) (own := [("some", 10)]) rfl sc_law.nd rfl rfl (sw_true rfl rfl rfl (by decide +kernel)) (pi_range1 (by rfl) Z.range (pa_cons (pe_op op_shl pe_int (pe_callB (len_seqK K) (by rfl) Z.len PySem.boot_len (pa_cons (pe_ix (ix_tupK K) (pv 1) pe_int (fun _ _ => rfl)) pa_nil))) pa_nil)) (blkOk_by (N := N_law) (sc := defScope s_law) (by decide +kernel)) (fun _ _ _ _ _ => (pg_name (i := 10) sc_law.nd rfl (.inl rfl))) (fun _ _ _ _ _ => (pts_one (pt_cmpR op_notN (pe_callD D_law_walk hr (by decide) (by rfl) (pa_cons (pv 1) (pa_cons (pv 10) pa_nil))) pe_non (nomark _)))) (fun _ _ _ _ _ => (pv 10)))
  (pss_cons (ps_set (i := 7) sc_law.nd rfl (.inl rfl) (pe_callD D_law_tried hr (by decide) (by rfl) (pa_cons (pv 1) (pa_cons (pv 4) (pa_cons (pv 0) pa_nil)))))
  (pss_cons (ps_for PassesOwn.never rfl (pi_listK K (pv 6)) (pg_name (i := 8) sc_law.nd rfl (.inl rfl)) (pss_cons (ps_set (i := 9) sc_law.nd rfl (.inl rfl) (pe_and (pe_callD D_law_odd hr (by decide) (by rfl) (pa_cons (pe_op op_and (pv 8) (pv 3)) pa_nil)) (pe_one (pe_cmpR op_eq (pe_callD D_law_length hr (by decide) (by rfl) (pa_cons (pv 1) (pa_cons (pv 8) pa_nil))) (pv 5) (nomark _)))))
  (pss_cons (ps_if (pt_cmpR op_ne (pe_callD D_odd_judged hr (by decide) (by rfl) (pa_cons (pv 1) (pa_cons (pv 3) (pa_cons (pe_tup (pa_cons pe_str (pa_cons (pv 8) (pa_cons (pv 4) pa_nil)))) pa_nil)))) (pv 9) (nomark _)) (pss_one (ps_ret pe_bl)) pss_nil)
  (pss_one (ps_for PassesOwn.never rfl (pi_listK K (pv 7)) (pg_name (i := 10) sc_law.nd rfl (.inl rfl)) (pss_one (ps_if (PW.pt (pw_and (pt_val (pe_callD D_odd_judged hr (by decide) (by rfl) (pa_cons (pv 1) (pa_cons (pv 3) (pa_cons (pe_tup (pa_cons pe_str (pa_cons (pv 8) (pa_cons (pv 10) pa_nil)))) pa_nil))))) (pw_and1 (pt_not (pt_val (pv 9)))))) (pss_one (ps_ret pe_bl)) pss_nil)))))))
  (pss_cons (ps_for PassesOwn.never rfl (pi_range1 (by rfl) Z.range (pa_cons (pe_op op_shl pe_int (pe_callB (call_min2 rfl) (by rfl) Z.min (by decide +kernel) (pa_cons pe_int (pa_cons (pe_ix (ix_tupK K) (pv 1) pe_int (fun _ _ => rfl)) pa_nil)))) pa_nil)) (pg_name (i := 11) sc_law.nd rfl (.inr rfl)) (pss_cons (ps_setLc (i := 12) (own := [("point", 13)]) rfl sc_law.nd rfl rfl (sw_true rfl rfl rfl (by decide +kernel)) (pi_range1 (by rfl) Z.range (pa_cons (pe_ix (ix_tupK K) (pv 1) pe_int (fun _ _ => rfl)) pa_nil)) (blkOk_by (N := N_law) (sc := defScope s_law) (by decide +kernel)) (fun _ _ _ _ _ => (pg_name (i := 13) sc_law.nd rfl (.inl rfl))) (fun _ _ _ _ _ => (pts_one (pt_cmpR op_eq (pe_op op_mod (pe_op op_shr (pv 11) (pv 13)) pe_int) pe_int (nomark _)))) (fun _ _ _ _ _ => (pv 13)))
  (pss_cons (ps_if (pt_cmpR op_ne (pe_callD D_odd_judged hr (by decide) (by rfl) (pa_cons (pv 1) (pa_cons (pv 3) (pa_cons (pe_tup (pa_cons pe_str (pa_cons (pv 12) pa_nil))) pa_nil)))) (pe_cmpR op_eq (pe_callD D_law_cut hr (by decide) (by rfl) (pa_cons (pv 1) (pa_cons (pv 12) pa_nil))) (pv 3) (nomark _)) (nomark _)) (pss_one (ps_ret pe_bl)) pss_nil)
  (pss_one (ps_if (PW.pt (pw_and (pt_cmpR op_eq (pe_callD D_law_cut hr (by decide) (by rfl) (pa_cons (pv 1) (pa_cons (pv 12) pa_nil))) (pv 3) (nomark _)) (pw_and1 (pt_cmpR op_notN (pv 5) pe_non (nomark _))))) (pss_one (ps_ret pe_bl)) pss_nil)))))
  (pss_one (ps_ret pe_bl)))))))))), ?_⟩
    -- web, left = ..
    have web : EvP (tCall (sp_law_web K) [] E0 (tCons (tVar 0) (tCons (tC (.int 5)) (tCons (tC (.int 6)) tNil)))) (L2.start N_law [.ref a]) H (fun u H2 => ∃ p wv l W, u = .ref p ∧ SqT K H2 p [wv, .int l] ∧ IsWeb K H2 wv W ∧ W.Good) := fun H1 e1 Q q =>
      ea_cons (ev_var (v := .ref a) rfl) (ea_cons ev_c (ea_cons ev_c ea_nil)) H1 e1 _ fun H2 e2 => ⟨a, ns, rfl, ex_l (e1.trans e2) hS, h63, fun u H3 e3 h => q u H3 (e2.trans e3) h⟩
    refine web H (Ex.refl H) (fun x H1 => gTup K 2 (gCons (gName 1) (gCons (gName 2) gNil)) x _ H1 _) fun u H1 e1 ⟨p, v, left, W, eu, hp, hw, g⟩ => ?_
    subst eu
    refine ⟨p, _, rfl, hp, rfl, v, _, rfl, .int left, _, rfl, rfl, ?_⟩
    have n5 := g.n5
    have m6 := g.m6
    have p64 := pow_le64 m6
    have p1 : 1 ≤ 2 ^ W.m := Nat.one_le_two_pow
    -- marks
    obtain ⟨M, hM, hM2⟩ : ∃ M : Nat, (left % ((2 ^ W.m : Nat) : Int)) = (M : Int) ∧ M < 2 ^ W.m := by
      have h0 := Int.emod_nonneg left (show ((2 ^ W.m : Nat) : Int) ≠ 0 by omega)
      have h1 := Int.emod_lt_of_pos left (show (0 : Int) < ((2 ^ W.m : Nat) : Int) by omega)
      exact ⟨(left % ((2 ^ W.m : Nat) : Int)).toNat, by omega, by omega⟩
    refine q_asg (v := nV M) (ev_is (ev_op (ev_var rfl) (ev_shl1 (k := W.m) (ev_m hw (ev_var rfl)) (by omega)) (rv_I (by omega))) (congrArg V.int hM)) fun H2 e2 => ?_
    have hw2 := hw.mono e2
    -- worths
    refine q_asgP (R := WorIs K W.n (RB.farR W M)) (ep_tup (fun _ => RowIs.st) (lp_range (n := W.n) (fun _ => RowIs.st) (ea_cons (ev_n hw2 (ev_var rfl)) ea_nil) (by omega) (fun _ => rfl) fun i H3 e3 hi => fun H4 e4 Q q =>
      ea_cons (ev_var (v := v) rfl) (ea_cons (ev_var (v := nV M) rfl) (ea_cons (ev_var (v := nV i) rfl) ea_nil)) H4 e4 _ fun H5 e5 => ⟨v, W, M, i, rfl, hw2.mono ((e3.trans e4).trans e5), g, hi, fun x H6 e6 hx => q x H6 (e5.trans e6) hx⟩)) fun wv H3 e3 hwv => ?_
    have hw3 := hw2.mono e3
    -- least
    refine q_asg (v := oV (RB.nearest W M)) (ev_call (ea_cons (ev_var rfl) (ea_cons (ev_var rfl) ea_nil)) fun H4 e Q q E => ⟨v, W, M, rfl, hw3.mono e, g, q⟩) fun H4 e4 => ?_
    have hw4 := hw3.mono e4
    -- rings
    refine q_asgL (el_lcRn (n := 2 ^ W.m) (fun x => RB.ringB W x) nV (ea_cons (ev_shl1 (k := W.m) (ev_m hw4 (ev_var rfl)) (by omega)) ea_nil) (by omega) (fun _ => rfl) (fun x H5 e5 hx => et_test (ev_walk (hw4.mono e5) g (ev_var rfl) (ev_var rfl))) (fun x H5 e5 hx _ => ev_var rfl)) fun rl H5 nrl e5 hrl => ?_
    have hw5 := hw4.mono e5
    have hwv5 : WorIs K W.n (RB.farR W M) wv H5 := WorIs.st wv _ _ (exT (e4.trans e5)) hwv
    -- tried
    have tried : EvP (tCall (sp_law_tried K) [] E0 (tCons (tVar 1) (tCons (tVar 4) (tCons (tVar 0) tNil)))) [some (.ref a), some v, some (.int left), some (nV M), some wv, some (oV (RB.nearest W M)), some (.ref rl), none, none, none, none, none, none, none] H5 (fun u H2 => ∃ p xs, u = .ref p ∧ H2 p = some (.lst xs) ∧ AllP (WorAny K W.n) xs H2) := fun H6 e6 Q q =>
      ea_cons (ev_var (v := v) rfl) (ea_cons (ev_var (v := wv) rfl) (ea_cons (ev_var (v := .ref a) rfl) ea_nil)) H6 e6 _ fun H7 e7 => ⟨v, wv, W, a, ns, rfl, hw5.mono (e6.trans e7), g, (WorIs.st wv _ _ (exT (e6.trans e7)) hwv5).any, ex_l (((((e1.trans e2).trans e3).trans (e4.trans e5)).trans e6).trans e7) hS, fun p H8 xs np e8 hp hall => q _ H8 (e7.trans e8) ⟨p, xs, rfl, hp, hall⟩⟩
    refine q_asgP tried fun tv H6 e6 ⟨tl, xs, etv, htl, hall⟩ => ?_
    subst etv
    have hw6 := hw5.mono e6
    have hwv6 : WorIs K W.n (RB.farR W M) wv H6 := WorIs.st wv _ _ (exT e6) hwv5
    have hwor := hwv6.wor
    have hrl6 := e6 _ _ hrl
    -- the rings, one by one
    refine q_forLn (xs := ((List.range (2 ^ W.m)).filter fun x => RB.ringB W x).map nV) (ev_var rfl) (sq_of hrl6)
      (fun i σ' H' => ∃ y8 y9 y10, σ' = [some (.ref a), some v, some (.int left), some (nV M), some wv, some (oV (RB.nearest W M)), some (.ref rl), some (.ref tl), y8, y9, y10, none, none, none] ∧ Ex H6 H')
      (fun H7 e7 => ⟨_, _, _, rfl, e7⟩) (fun i σ' H' _ h => let ⟨_, _, _, _, e⟩ := h; sq_of (e _ _ hrl6)) ?_ ?_
    · rintro i y σ' H7 hy ⟨y8, y9, y10, rfl, e7⟩
      rw [List.getElem?_map] at hy
      obtain ⟨x, hx, rfl⟩ := Option.map_eq_some_iff.mp hy
      have hxm := List.mem_filter.mp (List.mem_of_getElem? hx)
      have hx2 := List.mem_range.mp hxm.1
      have hring := RB.ringB_iff.mp hxm.2
      -- near
      refine q_asg (v := .bl (nearB W M x)) (ev_andV (ev_call (ea_cons (ev_is (ev_op (ev_var rfl) (ev_var rfl) rv_I0) (congrArg V.int (land_nat x M))) ea_nil) fun H8 e Q q E => ⟨x &&& M, rfl, fun H9 e9 => by rw [RB.oddN_common hx2]; exact q H9 e9⟩) fun _ =>
        ev_is (ev_op (ev_call (z := .int (RB.lenOf W x)) (ea_cons (ev_var rfl) (ea_cons (ev_var rfl) ea_nil)) fun H8 e Q q E => ⟨v, W, x, rfl, hw6.mono (e7.trans e), g, q⟩) (ev_var rfl) (rv_eq ?_)) (congrArg V.bl ?_)) fun H8 e8 => ?_
      · cases RB.nearest W M <;> rfl
      · cases hn : RB.nearest W M with
        | none => exact (dec_f (fun z => by cases z)).symm
        | some d =>
          by_cases hd : RB.lenOf W x = d
          · rw [hd]
            exact (decide_eq_true rfl).trans (dec_t rfl).symm
          · exact (decide_eq_false fun z => hd (V.int.inj z)).trans (dec_f fun z => hd (Option.some.inj z).symm).symm
      have e78 := e7.trans e8
      -- the right worths
      refine q_when (b := false) (et_is (et_neb (ev_judged (K := K) (z := .bl (nearB W M x)) (ev_var rfl) (ev_var rfl) (eu_tup (vs := [rW, nV x, wv]) (ea_cons ev_c (ea_cons (ev_var rfl) (ea_cons (ev_var rfl) ea_nil))) (by show 3 ≤ 100000; decide)) fun p H9 e9 hp Q E q => ⟨v, W, M, p, rfl, hw6.mono (e78.trans e9), g, hM2, .inl ⟨wv, x, RB.farR W M, st_of hp, hx2, hring, hwor.mono (e78.trans e9), fun HA eA => by rw [right_taken g hx2 hring]; exact q HA eA⟩⟩) (ev_var rfl)) (Bool.xor_self _)) (fun hb => by cases hb) fun _ H9 e9 => ?_
      have e79 := e78.trans e9
      -- the tried ones
      refine s_forLn (xs := xs) (ev_var rfl) (sq_of (e79 _ _ htl))
        (fun j σ' H' => ∃ y10, σ' = [some (.ref a), some v, some (.int left), some (nV M), some wv, some (oV (RB.nearest W M)), some (.ref rl), some (.ref tl), some (nV x), some (.bl (nearB W M x)), y10, none, none, none] ∧ Ex H6 H')
        (fun HA eA => ⟨_, rfl, e79.trans eA⟩) (fun j σ' H' _ h => let ⟨_, _, e⟩ := h; sq_of (e _ _ htl)) ?_ (fun σ' H' ⟨y10, e1, e2⟩ => ⟨_, _, _, e1, e2⟩)
      rintro j some' σ' HA hs ⟨y10, rfl, eA⟩
      obtain ⟨F', hF⟩ := (WorAny.st some' _ _ (exT eA) (hall some' (List.mem_of_getElem? hs))).wor
      refine s_when (b := false) (et_is (et_and (et_B (ev_judged (K := K) (z := .bl (dec (Taken W M F' x))) (ev_var rfl) (ev_var rfl) (eu_tup (vs := [rW, nV x, some']) (ea_cons ev_c (ea_cons (ev_var rfl) (ea_cons (ev_var rfl) ea_nil))) (by show 3 ≤ 100000; decide)) fun p HB eB hp Q E q => ⟨v, W, M, p, rfl, hw6.mono (eA.trans eB), g, hM2, .inl ⟨some', x, F', st_of hp, hx2, hring, hF.mono eB, q⟩⟩)) fun _ => et_not (et_B (ev_var rfl))) ?_) (fun hb => by cases hb) fun _ HB eB => ⟨_, rfl, eA.trans eB⟩
      cases ht : dec (Taken W M F' x) with
      | false => rfl
      | true => rw [taken_near g hx2 hring (dec_iff.mp ht)]; rfl
    · rintro σ' H7 ⟨y8, y9, y10, rfl, e7⟩
      have hw7 := hw6.mono e7
      -- sides
      refine q_forRn (n := 2 ^ (if W.n < 4 then W.n else 4)) (ea_cons (ev_shl1 (k := if W.n < 4 then W.n else 4) (ev_min2n (i := 4) (j := W.n) ev_c (ev_n hw7 (ev_var rfl))) (by split <;> omega)) ea_nil) (Nat.le_trans (Nat.pow_le_pow_right (by decide) (show (if W.n < 4 then W.n else 4) ≤ 4 by split <;> omega)) (by decide))
        (fun i σ' H' => ∃ y11 y12, σ' = [some (.ref a), some v, some (.int left), some (nV M), some wv, some (oV (RB.nearest W M)), some (.ref rl), some (.ref tl), y8, y9, y10, y11, y12, none] ∧ Ex H7 H')
        (fun H8 e8 => ⟨_, _, rfl, e8⟩) ?_ (fun σ' H8 ⟨y11, y12, e1, e8⟩ => by subst e1; exact s_ret ev_c fun H9 e9 => q H9)
      rintro i σ' H8 hi ⟨y11, y12, rfl, e8⟩
      have hw8 := hw7.mono e8
      refine q_asgL (el_lcRn (n := W.n) (fun p => decide ((i >>> p) % 2 = 1)) nV (ea_cons (ev_n hw8 (ev_var rfl)) ea_nil) (by omega) (fun _ => rfl) (fun p H9 e9 hp => et_is (et_test (ev_op (ev_op (ev_shr (x := i) (k := p) (ev_var rfl) (ev_var rfl)) ev_c (rv_I (by decide))) ev_c (rv_eq rfl))) ?_) (fun p H9 e9 hp _ => ev_var rfl)) fun sl H9 nsl e9 hsl => ?_
      · rw [decide_eq_decide]
        exact ⟨fun h => by have := V.int.inj h; omega, fun h => congrArg V.int (by omega)⟩
      have hside : Side W.n ((List.range W.n).filter fun p => decide ((i >>> p) % 2 = 1)) := (pickN W _).resolve_right (by omega)
      generalize ((List.range W.n).filter fun p => decide ((i >>> p) % 2 = 1)) = S at hsl hside ⊢
      have hw9 := hw8.mono e9
      have cut : ∀ {σ' : L2.St} {HA : Hp}, Ex H9 HA → σ'[1]? = some (some v) → σ'[12]? = some (some (.ref sl)) → σ'[3]? = some (some (nV M)) → Ev (tOp rEq (tCall (sp_law_cut K) [] E0 (tCons (tVar 1) (tCons (tVar 12) tNil))) (tVar 3)) σ' HA (.bl (decide (RB.cutI W (sideF S) W.m = M))) := fun {σ' HA} eA h1 h2 h3 =>
        ev_eqn (ev_call (z := nV (RB.cutI W (sideF S) W.m)) (ea_cons (ev_var h1) (ea_cons (ev_var h2) ea_nil)) fun HB eB Q q E => ⟨v, W, sl, S, rfl, hw9.mono (eA.trans eB), g, sq_of ((eA.trans eB) _ _ hsl), q⟩) (ev_var h3)
      refine q_when (b := false) (et_is (et_neb (ev_judged (K := K) (z := .bl (decide (RB.cutI W (sideF S) W.m = M))) (ev_var rfl) (ev_var rfl) (eu_tup (vs := [sW, .ref sl]) (ea_cons ev_c (ea_cons (ev_var rfl) ea_nil)) (by show 2 ≤ 100000; decide)) fun p HA eA hp Q E q => ⟨v, W, M, p, rfl, hw9.mono eA, g, hM2, .inr ⟨sl, S, st_of hp, sq_of (eA _ _ hsl), hside, q⟩⟩) (cut (Ex.refl H9) rfl rfl rfl)) (Bool.xor_self _)) (fun hb => by cases hb) fun _ HA eA => ?_
      refine s_when (b := false) (et_is (et_and (et_test (cut eA rfl rfl rfl)) fun _ => et_test (ev_notN (ev_var rfl))) ?_) (fun hb => by cases hb) fun _ HB eB => ⟨_, _, rfl, ((e8.trans e9).trans eA).trans eB⟩
      cases hc : decide (RB.cutI W (sideF S) W.m = M) with
      | false => rfl
      | true => rw [RB.cut_none g (of_decide_eq_true hc)]; rfl
end
end RBW
/-! RBW14: all defs together. -/
namespace RBW
open PySem PySem.Spec PyProof.Rows L2 Evl RBX
structure At (K : PySem.W.Frag) (x : Str) (st : Stmt) (f : Addr) (fd : FuncData) : Prop where
  ns : PySem.W.nsIn K mainGlobals x = some (some (.ref f))
  fn : Fun K x x st f fd
theorem At.mk' {K : PySem.W.Frag} {x : Str} {st : Stmt} {f : Addr} {oc : Value} {od an : Option Addr} {sl : Array (Option Value)} {kV dc pm cd ct : Value} (a : PySem.W.nsIn K mainGlobals x = some (some (.ref f)))
    (l : K.lookup f = some ⟨oc, od, .func (PySem.W.fnOf x x (defArgs st) (defBody st) (defScope st) .none kV dc pm an cd ct), sl⟩) (c : PySem.W.codeIn K cd x = true) (k : PySem.W.keepIn K (.ref f) = true) : At K x st f (PySem.W.fnOf x x (defArgs st) (defBody st) (defScope st) .none kV dc pm an cd ct) :=
  ⟨a, fun_mk l c k⟩
theorem At.d {P : Program} {w : World} {K : PySem.W.Frag} {mg : Str → Option Value} {base h : Heap} {x : Str} {st : Stmt} {f : Addr} {fd : FuncData} {k : Nat} {ps : List Str} {sp : Sp} (A : At K x st f fd) (X : K.In h) (G : h.Ns mainGlobals mg)
    (o : FnOk P w K mg base CX0 k f fd ps sp) (b : Binds K fd ps []) : Def P w K mg base x k ps sp := ⟨f, fd, o, PySem.W.mg_of X G A.ns, A.fn.kp, b⟩
theorem all_mk {l : PySem.W.OpenLaw} {w : World} {K : PySem.W.Frag} {h : Heap} {mg : Str → Option Value} {fa : Addr} (X : K.In h) (G : h.Ns mainGlobals mg) (hfa : mg "law" = some (.ref fa))
    {f_ties_in : Addr} {fd_ties_in : FuncData} (A_ties_in : At K "ties_in" s_ties_in f_ties_in fd_ties_in)
    {f_all_ties : Addr} {fd_all_ties : FuncData} (A_all_ties : At K "all_ties" s_all_ties f_all_ties fd_all_ties)
    {f_look_set : Addr} {fd_look_set : FuncData} (A_look_set : At K "look_set" s_look_set f_look_set fd_look_set)
    {f_length_of : Addr} {fd_length_of : FuncData} (A_length_of : At K "length_of" s_length_of f_length_of fd_length_of)
    {f_odd_points : Addr} {fd_odd_points : FuncData} (A_odd_points : At K "odd_points" s_odd_points f_odd_points fd_odd_points)
    {f_pieces : Addr} {fd_pieces : FuncData} (A_pieces : At K "pieces" s_pieces f_pieces fd_pieces)
    {f_is_even : Addr} {fd_is_even : FuncData} (A_is_even : At K "is_even" s_is_even f_is_even fd_is_even)
    {f_ties_at : Addr} {fd_ties_at : FuncData} (A_ties_at : At K "ties_at" s_ties_at f_ties_at fd_ties_at)
    {f_is_ring : Addr} {fd_is_ring : FuncData} (A_is_ring : At K "is_ring" s_is_ring f_is_ring fd_is_ring)
    {f_common : Addr} {fd_common : FuncData} (A_common : At K "common" s_common f_common fd_common)
    {f_is_side : Addr} {fd_is_side : FuncData} (A_is_side : At K "is_side" s_is_side f_is_side fd_is_side)
    {f_cut_of : Addr} {fd_cut_of : FuncData} (A_cut_of : At K "cut_of" s_cut_of f_cut_of fd_cut_of)
    {f_side_judged : Addr} {fd_side_judged : FuncData} (A_side_judged : At K "side_judged" s_side_judged f_side_judged fd_side_judged)
    {f_pair_stands : Addr} {fd_pair_stands : FuncData} (A_pair_stands : At K "pair_stands" s_pair_stands f_pair_stands fd_pair_stands)
    {f_worths_stand : Addr} {fd_worths_stand : FuncData} (A_worths_stand : At K "worths_stand" s_worths_stand f_worths_stand fd_worths_stand)
    {f_ring_stands : Addr} {fd_ring_stands : FuncData} (A_ring_stands : At K "ring_stands" s_ring_stands f_ring_stands fd_ring_stands)
    {f_odd_judged : Addr} {fd_odd_judged : FuncData} (A_odd_judged : At K "odd_judged" s_odd_judged f_odd_judged fd_odd_judged)
    {f_law_cell_at : Addr} {fd_law_cell_at : FuncData} (A_law_cell_at : At K "_law_cell_at" s_law_cell_at f_law_cell_at fd_law_cell_at)
    {f_law_left : Addr} {fd_law_left : FuncData} (A_law_left : At K "_law_left" s_law_left f_law_left fd_law_left)
    {f_law_tie : Addr} {fd_law_tie : FuncData} (A_law_tie : At K "_law_tie" s_law_tie f_law_tie fd_law_tie)
    {f_law_web : Addr} {fd_law_web : FuncData} (A_law_web : At K "_law_web" s_law_web f_law_web fd_law_web)
    {f_law_walk : Addr} {fd_law_walk : FuncData} (A_law_walk : At K "_law_walk" s_law_walk f_law_walk fd_law_walk)
    {f_law_least : Addr} {fd_law_least : FuncData} (A_law_least : At K "_law_least" s_law_least f_law_least fd_law_least)
    {f_law_worths : Addr} {fd_law_worths : FuncData} (A_law_worths : At K "_law_worths" s_law_worths f_law_worths fd_law_worths)
    {f_law_length : Addr} {fd_law_length : FuncData} (A_law_length : At K "_law_length" s_law_length f_law_length fd_law_length)
    {f_law_odd : Addr} {fd_law_odd : FuncData} (A_law_odd : At K "_law_odd" s_law_odd f_law_odd fd_law_odd)
    {f_law_nearest : Addr} {fd_law_nearest : FuncData} (A_law_nearest : At K "_law_nearest" s_law_nearest f_law_nearest fd_law_nearest)
    {f_law_cut : Addr} {fd_law_cut : FuncData} (A_law_cut : At K "_law_cut" s_law_cut f_law_cut fd_law_cut)
    {f_law_lowered : Addr} {fd_law_lowered : FuncData} (A_law_lowered : At K "_law_lowered" s_law_lowered f_law_lowered fd_law_lowered)
    {f_law_any : Addr} {fd_law_any : FuncData} (A_law_any : At K "_law_any" s_law_any f_law_any fd_law_any)
    {f_law_raised : Addr} {fd_law_raised : FuncData} (A_law_raised : At K "_law_raised" s_law_raised f_law_raised fd_law_raised)
    {f_law_tried : Addr} {fd_law_tried : FuncData} (A_law_tried : At K "_law_tried" s_law_tried f_law_tried fd_law_tried)
    {f_law : Addr} {fd_law : FuncData} (A_law : At K "law" s_law f_law fd_law)
    (z_len : PySem.W.nsIn K mainGlobals "len" = some none)
    (z_range : PySem.W.nsIn K mainGlobals "range" = some none)
    (z_sum : PySem.W.nsIn K mainGlobals "sum" = some none)
    (z_list : PySem.W.nsIn K mainGlobals "list" = some none)
    (z_min : PySem.W.nsIn K mainGlobals "min" = some none)
    (z_max : PySem.W.nsIn K mainGlobals "max" = some none)
    (z_enumerate : PySem.W.nsIn K mainGlobals "enumerate" = some none)
    (z_abs : PySem.W.nsIn K mainGlobals "abs" = some none)
    (z_tuple : PySem.W.nsIn K mainGlobals "tuple" = some none)
    (z_int : PySem.W.nsIn K mainGlobals "int" = some none)
    (hb : ∀ (s : Shared) (v : Value), BindsTo s fd_law ⟨[v], []⟩ [("script", v)]) :
    ∃ fd : FuncData, (∀ (s : Shared) (v : Value), BindsTo s fd ⟨[v], []⟩ [("script", v)]) ∧ ∀ base : Heap, K.In base → base.Ns mainGlobals mg → FnOk l.prog w K mg base CX0 8 fa fd ["script"] (sp_law K) := by
  have e := hfa.symm.trans (PySem.W.mg_of X G A_law.ns)
  cases e
  refine ⟨fd_law, hb, fun base _ _ => ?_⟩
  have Z : Blt mg := ⟨PySem.W.mg_none_of X G z_len, PySem.W.mg_none_of X G z_range, PySem.W.mg_none_of X G z_sum, PySem.W.mg_none_of X G z_list, PySem.W.mg_none_of X G z_min, PySem.W.mg_none_of X G z_max, PySem.W.mg_none_of X G z_enumerate, PySem.W.mg_none_of X G z_abs, PySem.W.mg_none_of X G z_tuple, PySem.W.mg_none_of X G z_int⟩
  have D_law_cell_at : Def l.prog w K mg base "_law_cell_at" 1 ["script", "k"] (sp_law_cell_at K) := A_law_cell_at.d X G (ok_law_cell_at Z A_law_cell_at.fn) (A_law_cell_at.fn.binds (ps := ["script", "k"]) fun _ _ _ _ _ _ us hl => match us, hl with | [_, _], _ => rfl)
  have D_law_left : Def l.prog w K mg base "_law_left" 1 ["cell", "k", "way"] (sp_law_left K) := A_law_left.d X G (ok_law_left A_law_left.fn) (A_law_left.fn.binds (ps := ["cell", "k", "way"]) fun _ _ _ _ _ _ us hl => match us, hl with | [_, _, _], _ => rfl)
  have D_law_tie : Def l.prog w K mg base "_law_tie" 1 ["left", "points", "mode"] (sp_law_tie K) := A_law_tie.d X G (ok_law_tie A_law_tie.fn) (A_law_tie.fn.binds (ps := ["left", "points", "mode"]) fun _ _ _ _ _ _ us hl => match us, hl with | [_, _, _], _ => rfl)
  have D_law_web : Def l.prog w K mg base "_law_web" 2 ["script", "most_points", "most_ties"] (sp_law_web K) := A_law_web.d X G (ok_law_web Z A_law_web.fn D_law_cell_at D_law_left D_law_tie) (A_law_web.fn.binds (ps := ["script", "most_points", "most_ties"]) fun _ _ _ _ _ _ us hl => match us, hl with | [_, _, _], _ => rfl)
  have D_law_least : Def l.prog w K mg base "_law_least" 1 ["one", "more"] (sp_law_least K) := A_law_least.d X G (ok_law_least A_law_least.fn) (A_law_least.fn.binds (ps := ["one", "more"]) fun _ _ _ _ _ _ us hl => match us, hl with | [_, _], _ => rfl)
  have D_law_worths : Def l.prog w K mg base "_law_worths" 2 ["web", "marks", "point"] (sp_law_worths K) := A_law_worths.d X G (ok_law_worths Z A_law_worths.fn D_law_least) (A_law_worths.fn.binds (ps := ["web", "marks", "point"]) fun _ _ _ _ _ _ us hl => match us, hl with | [_, _, _], _ => rfl)
  have D_law_odd : Def l.prog w K mg base "_law_odd" 1 ["number"] (sp_law_odd K) := A_law_odd.d X G (ok_law_odd A_law_odd.fn) (A_law_odd.fn.binds (ps := ["number"]) fun _ _ _ _ _ _ us hl => match us, hl with | [_], _ => rfl)
  have D_law_walk : Def l.prog w K mg base "_law_walk" 1 ["web", "some"] (sp_law_walk K) := A_law_walk.d X G (ok_law_walk Z A_law_walk.fn) (A_law_walk.fn.binds (ps := ["web", "some"]) fun _ _ _ _ _ _ us hl => match us, hl with | [_, _], _ => rfl)
  have D_law_length : Def l.prog w K mg base "_law_length" 1 ["web", "some"] (sp_law_length K) := A_law_length.d X G (ok_law_length Z A_law_length.fn) (A_law_length.fn.binds (ps := ["web", "some"]) fun _ _ _ _ _ _ us hl => match us, hl with | [_, _], _ => rfl)
  have D_law_nearest : Def l.prog w K mg base "_law_nearest" 2 ["web", "marks"] (sp_law_nearest K) := A_law_nearest.d X G (ok_law_nearest Z A_law_nearest.fn D_law_odd D_law_walk D_law_least D_law_length) (A_law_nearest.fn.binds (ps := ["web", "marks"]) fun _ _ _ _ _ _ us hl => match us, hl with | [_, _], _ => rfl)
  have D_law_raised : Def l.prog w K mg base "_law_raised" 1 ["worths", "more"] (sp_law_raised K) := A_law_raised.d X G (ok_law_raised Z A_law_raised.fn) (A_law_raised.fn.binds (ps := ["worths", "more"]) fun _ _ _ _ _ _ us hl => match us, hl with | [_, _], _ => rfl)
  have D_law_lowered : Def l.prog w K mg base "_law_lowered" 1 ["web", "worths", "left"] (sp_law_lowered K) := A_law_lowered.d X G (ok_law_lowered Z A_law_lowered.fn) (A_law_lowered.fn.binds (ps := ["web", "worths", "left"]) fun _ _ _ _ _ _ us hl => match us, hl with | [_, _, _], _ => rfl)
  have D_law_any : Def l.prog w K mg base "_law_any" 2 ["web", "left"] (sp_law_any K) := A_law_any.d X G (ok_law_any Z A_law_any.fn D_law_left) (A_law_any.fn.binds (ps := ["web", "left"]) fun _ _ _ _ _ _ us hl => match us, hl with | [_, _], _ => rfl)
  have D_law_tried : Def l.prog w K mg base "_law_tried" 3 ["web", "worths", "script"] (sp_law_tried K) := A_law_tried.d X G (ok_law_tried Z A_law_tried.fn D_law_raised D_law_cell_at D_law_lowered D_law_left D_law_any) (A_law_tried.fn.binds (ps := ["web", "worths", "script"]) fun _ _ _ _ _ _ us hl => match us, hl with | [_, _, _], _ => rfl)
  have D_all_ties : Def l.prog w K mg base "all_ties" 1 ["web"] (sp_all_ties K) := A_all_ties.d X G (ok_all_ties Z A_all_ties.fn) (A_all_ties.fn.binds (ps := ["web"]) fun _ _ _ _ _ _ us hl => match us, hl with | [_], _ => rfl)
  have D_look_set : Def l.prog w K mg base "look_set" 2 ["web", "some"] (sp_look_set K) := A_look_set.d X G (ok_look_set A_look_set.fn D_all_ties) (A_look_set.fn.binds (ps := ["web", "some"]) fun _ _ _ _ _ _ us hl => match us, hl with | [_, _], _ => rfl)
  have D_ties_in : Def l.prog w K mg base "ties_in" 1 ["some"] (sp_ties_in K) := A_ties_in.d X G (ok_ties_in A_ties_in.fn) (A_ties_in.fn.binds (ps := ["some"]) fun _ _ _ _ _ _ us hl => match us, hl with | [_], _ => rfl)
  have D_length_of : Def l.prog w K mg base "length_of" 3 ["web", "some"] (sp_length_of K) := A_length_of.d X G (ok_length_of Z A_length_of.fn D_look_set D_ties_in) (A_length_of.fn.binds (ps := ["web", "some"]) fun _ _ _ _ _ _ us hl => match us, hl with | [_, _], _ => rfl)
  have D_is_side : Def l.prog w K mg base "is_side" 1 ["web", "side"] (sp_is_side K) := A_is_side.d X G (ok_is_side Z A_is_side.fn) (A_is_side.fn.binds (ps := ["web", "side"]) fun _ _ _ _ _ _ us hl => match us, hl with | [_, _], _ => rfl)
  have D_cut_of : Def l.prog w K mg base "cut_of" 2 ["web", "side"] (sp_cut_of K) := A_cut_of.d X G (ok_cut_of Z A_cut_of.fn D_is_side) (A_cut_of.fn.binds (ps := ["web", "side"]) fun _ _ _ _ _ _ us hl => match us, hl with | [_, _], _ => rfl)
  have D_odd_points : Def l.prog w K mg base "odd_points" 3 ["web", "some"] (sp_odd_points K) := A_odd_points.d X G (ok_odd_points Z A_odd_points.fn D_look_set D_ties_in) (A_odd_points.fn.binds (ps := ["web", "some"]) fun _ _ _ _ _ _ us hl => match us, hl with | [_, _], _ => rfl)
  have D_is_even : Def l.prog w K mg base "is_even" 4 ["web", "some"] (sp_is_even K) := A_is_even.d X G (ok_is_even A_is_even.fn D_odd_points) (A_is_even.fn.binds (ps := ["web", "some"]) fun _ _ _ _ _ _ us hl => match us, hl with | [_, _], _ => rfl)
  have D_ties_at : Def l.prog w K mg base "ties_at" 2 ["web", "some", "point"] (sp_ties_at_ K) := A_ties_at.d X G (ok_ties_at A_ties_at.fn D_ties_in) (A_ties_at.fn.binds (ps := ["web", "some", "point"]) fun _ _ _ _ _ _ us hl => match us, hl with | [_, _, _], _ => rfl)
  have D_pieces : Def l.prog w K mg base "pieces" 3 ["web", "some"] (sp_pieces K) := A_pieces.d X G (ok_pieces Z A_pieces.fn D_look_set D_ties_in) (A_pieces.fn.binds (ps := ["web", "some"]) fun _ _ _ _ _ _ us hl => match us, hl with | [_, _], _ => rfl)
  have D_is_ring : Def l.prog w K mg base "is_ring" 5 ["web", "some"] (sp_is_ring K) := A_is_ring.d X G (ok_is_ring Z A_is_ring.fn D_is_even D_ties_at D_pieces) (A_is_ring.fn.binds (ps := ["web", "some"]) fun _ _ _ _ _ _ us hl => match us, hl with | [_, _], _ => rfl)
  have D_common : Def l.prog w K mg base "common" 2 ["one", "other"] (sp_common K) := A_common.d X G (ok_common Z A_common.fn D_ties_in) (A_common.fn.binds (ps := ["one", "other"]) fun _ _ _ _ _ _ us hl => match us, hl with | [_, _], _ => rfl)
  have D_side_judged : Def l.prog w K mg base "side_judged" 6 ["web", "some", "answer"] (sp_side_judged K) := A_side_judged.d X G (ok_side_judged Z A_side_judged.fn D_look_set D_is_side D_cut_of D_all_ties D_is_ring D_common) (A_side_judged.fn.binds (ps := ["web", "some", "answer"]) fun _ _ _ _ _ _ us hl => match us, hl with | [_, _, _], _ => rfl)
  have D_pair_stands : Def l.prog w K mg base "pair_stands" 1 ["one", "other", "length"] (sp_pair_stands K) := A_pair_stands.d X G (ok_pair_stands Z A_pair_stands.fn) (A_pair_stands.fn.binds (ps := ["one", "other", "length"]) fun _ _ _ _ _ _ us hl => match us, hl with | [_, _, _], _ => rfl)
  have D_worths_stand : Def l.prog w K mg base "worths_stand" 4 ["web", "marks", "worths"] (sp_worths_stand K) := A_worths_stand.d X G (ok_worths_stand Z A_worths_stand.fn D_length_of D_pair_stands) (A_worths_stand.fn.binds (ps := ["web", "marks", "worths"]) fun _ _ _ _ _ _ us hl => match us, hl with | [_, _, _], _ => rfl)
  have D_ring_stands : Def l.prog w K mg base "ring_stands" 6 ["web", "marks", "ring", "worths"] (sp_ring_stands K) := A_ring_stands.d X G (ok_ring_stands Z A_ring_stands.fn D_is_ring D_common D_worths_stand D_length_of) (A_ring_stands.fn.binds (ps := ["web", "marks", "ring", "worths"]) fun _ _ _ _ _ _ us hl => match us, hl with | [_, _, _, _], _ => rfl)
  have D_odd_judged : Def l.prog w K mg base "odd_judged" 7 ["web", "marks", "answer"] (sp_odd_judged K) := A_odd_judged.d X G (ok_odd_judged A_odd_judged.fn D_length_of D_side_judged D_ring_stands) (A_odd_judged.fn.binds (ps := ["web", "marks", "answer"]) fun _ _ _ _ _ _ us hl => match us, hl with | [_, _, _], _ => rfl)
  have D_law_cut : Def l.prog w K mg base "_law_cut" 1 ["web", "side"] (sp_law_cut K) := A_law_cut.d X G (ok_law_cut Z A_law_cut.fn) (A_law_cut.fn.binds (ps := ["web", "side"]) fun _ _ _ _ _ _ us hl => match us, hl with | [_, _], _ => rfl)
  exact ok_law Z A_law.fn D_law_web D_law_worths D_law_nearest D_law_walk D_law_tried D_law_odd D_law_length D_odd_judged D_law_cut
end RBW
open PySem PySem.W PyProof.Rows
set_option maxHeartbeats 0 in
theorem PySem.Challenge.cw_ringbase_k24_whole_what_stands_is_right_holds : PySem.Challenge.rw_ringbase_k24_whole_what_stands_is_right.Holds := by
  w_on; o_law; k_head; (case hw => w_witness2)
  k_fill
  refine L2.walk_of (l := PySem.Challenge.rw_ringbase_k24_whole_what_stands_is_right) (n := 63) (k := 8) (x := "script") (CX := fun _ => L2.CX0) (sp := fun w => RBW.sp_law _) rfl (by decide) rfl ⟨rfl, by decide, by decide⟩ (fun w h Y => PySem.W.kIn_of Y) ?F (fun _ _ a ns hl _ hS => ⟨a, ns, rfl, hS, hl, fun _ => rfl⟩) (fun _ _ _ _ _ h => h)
  case F =>
    intro w mg fa h KX G hmg
    refine' RBW.all_mk KX G hmg (RBW.At.mk' ?a0 ?l0 ?c0 ?k0) (RBW.At.mk' ?a1 ?l1 ?c1 ?k1) (RBW.At.mk' ?a2 ?l2 ?c2 ?k2) (RBW.At.mk' ?a3 ?l3 ?c3 ?k3) (RBW.At.mk' ?a4 ?l4 ?c4 ?k4) (RBW.At.mk' ?a5 ?l5 ?c5 ?k5) (RBW.At.mk' ?a6 ?l6 ?c6 ?k6) (RBW.At.mk' ?a7 ?l7 ?c7 ?k7) (RBW.At.mk' ?a8 ?l8 ?c8 ?k8) (RBW.At.mk' ?a9 ?l9 ?c9 ?k9) (RBW.At.mk' ?a10 ?l10 ?c10 ?k10) (RBW.At.mk' ?a11 ?l11 ?c11 ?k11) (RBW.At.mk' ?a12 ?l12 ?c12 ?k12) (RBW.At.mk' ?a13 ?l13 ?c13 ?k13) (RBW.At.mk' ?a14 ?l14 ?c14 ?k14) (RBW.At.mk' ?a15 ?l15 ?c15 ?k15) (RBW.At.mk' ?a16 ?l16 ?c16 ?k16) (RBW.At.mk' ?a17 ?l17 ?c17 ?k17) (RBW.At.mk' ?a18 ?l18 ?c18 ?k18) (RBW.At.mk' ?a19 ?l19 ?c19 ?k19) (RBW.At.mk' ?a20 ?l20 ?c20 ?k20) (RBW.At.mk' ?a21 ?l21 ?c21 ?k21) (RBW.At.mk' ?a22 ?l22 ?c22 ?k22) (RBW.At.mk' ?a23 ?l23 ?c23 ?k23) (RBW.At.mk' ?a24 ?l24 ?c24 ?k24) (RBW.At.mk' ?a25 ?l25 ?c25 ?k25) (RBW.At.mk' ?a26 ?l26 ?c26 ?k26) (RBW.At.mk' ?a27 ?l27 ?c27 ?k27) (RBW.At.mk' ?a28 ?l28 ?c28 ?k28) (RBW.At.mk' ?a29 ?l29 ?c29 ?k29) (RBW.At.mk' ?a30 ?l30 ?c30 ?k30) (RBW.At.mk' ?a31 ?l31 ?c31 ?k31) (RBW.At.mk' ?a32 ?l32 ?c32 ?k32) ?z0 ?z1 ?z2 ?z3 ?z4 ?z5 ?z6 ?z7 ?z8 ?z9 ?hb
    case a0 => k_is
    case l0 => k_is
    case c0 => k_is
    case k0 => k_is
    case a1 => k_is
    case l1 => k_is
    case c1 => k_is
    case k1 => k_is
    case a2 => k_is
    case l2 => k_is
    case c2 => k_is
    case k2 => k_is
    case a3 => k_is
    case l3 => k_is
    case c3 => k_is
    case k3 => k_is
    case a4 => k_is
    case l4 => k_is
    case c4 => k_is
    case k4 => k_is
    case a5 => k_is
    case l5 => k_is
    case c5 => k_is
    case k5 => k_is
    case a6 => k_is
    case l6 => k_is
    case c6 => k_is
    case k6 => k_is
    case a7 => k_is
    case l7 => k_is
    case c7 => k_is
    case k7 => k_is
    case a8 => k_is
    case l8 => k_is
    case c8 => k_is
    case k8 => k_is
    case a9 => k_is
    case l9 => k_is
    case c9 => k_is
    case k9 => k_is
    case a10 => k_is
    case l10 => k_is
    case c10 => k_is
    case k10 => k_is
    case a11 => k_is
    case l11 => k_is
    case c11 => k_is
    case k11 => k_is
    case a12 => k_is
    case l12 => k_is
    case c12 => k_is
    case k12 => k_is
    case a13 => k_is
    case l13 => k_is
    case c13 => k_is
    case k13 => k_is
    case a14 => k_is
    case l14 => k_is
    case c14 => k_is
    case k14 => k_is
    case a15 => k_is
    case l15 => k_is
    case c15 => k_is
    case k15 => k_is
    case a16 => k_is
    case l16 => k_is
    case c16 => k_is
    case k16 => k_is
    case a17 => k_is
    case l17 => k_is
    case c17 => k_is
    case k17 => k_is
    case a18 => k_is
    case l18 => k_is
    case c18 => k_is
    case k18 => k_is
    case a19 => k_is
    case l19 => k_is
    case c19 => k_is
    case k19 => k_is
    case a20 => k_is
    case l20 => k_is
    case c20 => k_is
    case k20 => k_is
    case a21 => k_is
    case l21 => k_is
    case c21 => k_is
    case k21 => k_is
    case a22 => k_is
    case l22 => k_is
    case c22 => k_is
    case k22 => k_is
    case a23 => k_is
    case l23 => k_is
    case c23 => k_is
    case k23 => k_is
    case a24 => k_is
    case l24 => k_is
    case c24 => k_is
    case k24 => k_is
    case a25 => k_is
    case l25 => k_is
    case c25 => k_is
    case k25 => k_is
    case a26 => k_is
    case l26 => k_is
    case c26 => k_is
    case k26 => k_is
    case a27 => k_is
    case l27 => k_is
    case c27 => k_is
    case k27 => k_is
    case a28 => k_is
    case l28 => k_is
    case c28 => k_is
    case k28 => k_is
    case a29 => k_is
    case l29 => k_is
    case c29 => k_is
    case k29 => k_is
    case a30 => k_is
    case l30 => k_is
    case c30 => k_is
    case k30 => k_is
    case a31 => k_is
    case l31 => k_is
    case c31 => k_is
    case k31 => k_is
    case a32 => k_is
    case l32 => k_is
    case c32 => k_is
    case k32 => k_is
    (case z0 => k_is); (case z1 => k_is); (case z2 => k_is); (case z3 => k_is); (case z4 => k_is); (case z5 => k_is); (case z6 => k_is); (case z7 => k_is); (case z8 => k_is); (case z9 => k_is)
    (case hb => exact fun s v => .of_eq rfl)
