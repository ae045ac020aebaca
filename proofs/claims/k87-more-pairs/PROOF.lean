import PyProof.Rows.All
import Wide.All
import OpenK.AllK
import Wide.FinOn
import HandS.ForMost
import HandS.DictTup
import HandS.DictComp
import HandS.Conv
import HandS.TupAny
import HandS.Deep
import HandS.Wide
import HandS.Style
import HandS.Flow
import HandS.CallRecv
import KE.KDictWalk
import KE.KDictList
import KE.KDictSum
import KE.SortData
import KE.KEqDict
import KE.KDictDisplayH
import PyProof.DictCompW
import HandS.SortOrd
import HandS.Codes
import PySem.Challenge.RW_everlater_k87_whole_more_pairs_longer
set_option Elab.async false
set_option linter.all false
set_option maxRecDepth 100000
set_option autoImplicit false
/-! Rows of a lot, levels, rounds, hopes: the mathematics, no program in sight -/
namespace K87

abbrev Row := List Int
structure Lot where
  many : Nat
  pairs : List (Int × Int)

/-- the marks, rising -/
def Lot.marks (L : Lot) : List Int := (List.range L.many).map fun i : Nat => (i : Int)
theorem Lot.mem_marks {L : Lot} {m : Int} : m ∈ L.marks ↔ 0 ≤ m ∧ m < (L.many : Int) := by
  unfold Lot.marks
  rw [List.mem_map]
  constructor
  · rintro ⟨i, hi, rfl⟩
    have := List.mem_range.mp hi
    omega
  · intro h
    exact ⟨m.toNat, List.mem_range.mpr (by omega), by omega⟩
theorem Lot.marks_length (L : Lot) : L.marks.length = L.many := by
  unfold Lot.marks
  rw [List.length_map, List.length_range]
theorem Lot.marks_nodup (L : Lot) : L.marks.Nodup := by
  unfold Lot.marks
  refine List.Pairwise.map _ ?_ List.nodup_range
  intro a b h e
  exact h (by omega)
/-- all marks of the pairs are marks -/
def Lot.Ok (L : Lot) : Prop := ∀ x y, (x, y) ∈ L.pairs → (0 ≤ x ∧ x < (L.many : Int)) ∧ 0 ≤ y ∧ y < (L.many : Int)
/-- the marks above a row -/
def ab (L : Lot) (r : Row) : List Int := L.marks.filter fun o => decide (∀ m ∈ r, (o, m) ∈ L.pairs)
theorem mem_ab {L : Lot} {r : Row} {o : Int} : o ∈ ab L r ↔ o ∈ L.marks ∧ ∀ m ∈ r, (o, m) ∈ L.pairs := by
  unfold ab
  rw [List.mem_filter, decide_eq_true_iff]
theorem ab_nodup (L : Lot) (r : Row) : (ab L r).Nodup := List.Pairwise.sublist List.filter_sublist L.marks_nodup
theorem ab_length (L : Lot) (r : Row) : (ab L r).length ≤ L.many := by
  have h := List.length_filter_le (fun o => decide (∀ m ∈ r, (o, m) ∈ L.pairs)) L.marks
  rw [L.marks_length] at h
  exact h
theorem ab_nil (L : Lot) : ab L [] = L.marks := by
  unfold ab
  rw [List.filter_eq_self]
  intro a _
  simp
/-- what is later than one mark more -/
theorem ab_snoc (L : Lot) (r : Row) (m : Int) : ab L (r ++ [m]) = (ab L r).filter fun o => decide ((o, m) ∈ L.pairs) := by
  unfold ab
  rw [List.filter_filter]
  congr 1
  funext o
  rw [← Bool.decide_and]
  refine decide_eq_decide.mpr ?_
  constructor
  · intro h
    exact ⟨h m (by simp), fun x hx => h x (by simp [hx])⟩
  · rintro ⟨h1, h2⟩ x hx
    rcases List.mem_append.mp hx with hx | hx
    · exact h2 x hx
    · rw [List.mem_singleton] at hx
      rw [hx]
      exact h1

/-! ### levels -/
/-- one more mark -/
def more (L : Lot) (r : Row) : List Row := (ab L r).map fun m => r ++ [m]
/-- the rows of so many marks, as levels makes them -/
def rowsOf (L : Lot) : Nat → List Row
  | 0 => [[]]
  | k + 1 => (rowsOf L k).flatMap (more L)
def IsRow (L : Lot) (r : Row) : Prop := (∀ m ∈ r, m ∈ L.marks) ∧ r.Pairwise fun a b => (b, a) ∈ L.pairs
theorem isRow_snoc {L : Lot} {r : Row} {m : Int} : IsRow L (r ++ [m]) ↔ IsRow L r ∧ m ∈ ab L r := by
  unfold IsRow
  rw [List.pairwise_append, mem_ab]
  constructor
  · rintro ⟨h1, h2, -, h3⟩
    exact ⟨⟨fun x hx => h1 x (by simp [hx]), h2⟩, h1 m (by simp), fun x hx => h3 x hx m (by simp)⟩
  · rintro ⟨⟨h1, h2⟩, h3, h4⟩
    refine ⟨fun x hx => ?_, h2, by simp, fun a ha b hb => ?_⟩
    · rcases List.mem_append.mp hx with hx | hx
      · exact h1 x hx
      · rw [List.mem_singleton] at hx
        rw [hx]
        exact h3
    · rw [List.mem_singleton] at hb
      rw [hb]
      exact h4 a ha
theorem mem_rowsOf {L : Lot} : ∀ {k : Nat} {r : Row}, r ∈ rowsOf L k ↔ IsRow L r ∧ r.length = k
  | 0, r => by
    show r ∈ [[]] ↔ _
    rw [List.mem_singleton]
    constructor
    · rintro rfl
      exact ⟨⟨by simp, List.Pairwise.nil⟩, rfl⟩
    · rintro ⟨_, h⟩
      exact List.eq_nil_of_length_eq_zero h
  | k + 1, r => by
    show r ∈ (rowsOf L k).flatMap (more L) ↔ _
    rw [List.mem_flatMap]
    constructor
    · rintro ⟨q, hq, h⟩
      obtain ⟨m, hm, rfl⟩ := List.mem_map.mp h
      obtain ⟨h1, h2⟩ := mem_rowsOf.mp hq
      exact ⟨isRow_snoc.mpr ⟨h1, hm⟩, by rw [List.length_append, h2]; rfl⟩
    · rintro ⟨h1, h2⟩
      have hne : r ≠ [] := by
        intro e
        rw [e] at h2
        cases h2
      have er : r.dropLast ++ [r.getLast hne] = r := List.dropLast_concat_getLast hne
      rw [← er] at h1
      obtain ⟨h3, h4⟩ := isRow_snoc.mp h1
      refine ⟨r.dropLast, mem_rowsOf.mpr ⟨h3, by rw [List.length_dropLast, h2]; rfl⟩, ?_⟩
      exact List.mem_map.mpr ⟨r.getLast hne, h4, er⟩
theorem more_nodup (L : Lot) (r : Row) : (more L r).Nodup := by
  refine List.Pairwise.map _ ?_ (ab_nodup L r)
  intro a b h e
  have := List.append_cancel_left e
  injection this with h1
  exact h h1
theorem flatMap_nodup {α β : Type} {f : α → List β} : ∀ {l : List α}, l.Nodup → (∀ a ∈ l, (f a).Nodup) → (∀ a ∈ l, ∀ b ∈ l, ∀ x, x ∈ f a → x ∈ f b → a = b) → (l.flatMap f).Nodup
  | [], _, _, _ => by simp
  | a :: l, h, h1, h2 => by
    rw [List.flatMap_cons]
    obtain ⟨h3, h4⟩ := List.nodup_cons.mp h
    refine List.nodup_append.mpr ⟨h1 a (by simp), flatMap_nodup h4 (fun b hb => h1 b (by simp [hb])) (fun b hb c hc => h2 b (by simp [hb]) c (by simp [hc])), ?_⟩
    intro x hx y hy e
    obtain ⟨b, hb, hy⟩ := List.mem_flatMap.mp hy
    rw [← e] at hy
    have := h2 a (by simp) b (by simp [hb]) x hx hy
    rw [this] at h3
    exact h3 hb
theorem rowsOf_nodup (L : Lot) : ∀ k : Nat, (rowsOf L k).Nodup
  | 0 => by simp [rowsOf]
  | k + 1 => by
    refine flatMap_nodup (rowsOf_nodup L k) (fun r _ => more_nodup L r) ?_
    intro a ha b hb x hx hy
    obtain ⟨m, _, rfl⟩ := List.mem_map.mp hx
    obtain ⟨m', _, e⟩ := List.mem_map.mp hy
    exact ((List.append_inj' e rfl).1).symm
theorem flatMap_length_le {α β : Type} {f : α → List β} {n : Nat} : ∀ {l : List α}, (∀ a ∈ l, (f a).length ≤ n) → (l.flatMap f).length ≤ l.length * n
  | [], _ => by simp
  | a :: l, h => by
    rw [List.flatMap_cons, List.length_append, List.length_cons, Nat.succ_mul]
    have h1 := h a (by simp)
    have h2 := flatMap_length_le (l := l) (n := n) (f := f) fun b hb => h b (by simp [hb])
    omega
theorem rowsOf_length (L : Lot) : ∀ k : Nat, (rowsOf L k).length ≤ L.many ^ k
  | 0 => by simp [rowsOf]
  | k + 1 => by
    show ((rowsOf L k).flatMap (more L)).length ≤ _
    refine Nat.le_trans (flatMap_length_le (n := L.many) fun r _ => ?_) ?_
    · unfold more
      rw [List.length_map]
      exact ab_length L r
    · rw [Nat.pow_succ]
      exact Nat.mul_le_mul_right _ (rowsOf_length L k)
theorem pow_le_6 {m k : Nat} (h : m ≤ 6) (hk : k ≤ 4) : m ^ k ≤ 1296 := by
  have h1 : m ^ k ≤ 6 ^ k := Nat.pow_le_pow_left h k
  have h2 : 6 ^ k ≤ 6 ^ 4 := Nat.pow_le_pow_right (by decide) hk
  have h3 : (6 : Nat) ^ 4 = 1296 := by decide
  omega
theorem rowsOf_few {L : Lot} {k : Nat} (h : L.many ≤ 6) (hk : k ≤ 4) : (rowsOf L k).length ≤ 1296 := Nat.le_trans (rowsOf_length L k) (pow_le_6 h hk)

/-! ### leavings -/
def leav (r : Row) (m : Int) : List Row := (List.range r.length).map fun i => r.take i ++ r.drop (i + 1) ++ [m]
theorem leav_length (r : Row) (m : Int) : (leav r m).length = r.length := by
  unfold leav
  rw [List.length_map, List.length_range]
theorem leav_row {L : Lot} {r q : Row} {m : Int} (hr : IsRow L r) (hm : m ∈ ab L r) (hq : q ∈ leav r m) : IsRow L q ∧ q.length = r.length := by
  obtain ⟨i, hi, rfl⟩ := List.mem_map.mp hq
  have hi' := List.mem_range.mp hi
  have hs : (r.take i ++ r.drop (i + 1)).Sublist r := by
    rw [← List.eraseIdx_eq_take_drop_succ]
    exact List.eraseIdx_sublist r i
  refine ⟨isRow_snoc.mpr ⟨⟨fun x hx => hr.1 x (hs.subset hx), hr.2.sublist hs⟩, ?_⟩, ?_⟩
  · rw [mem_ab] at hm ⊢
    exact ⟨hm.1, fun x hx => hm.2 x (hs.subset hx)⟩
  · rw [List.length_append, List.length_append, List.length_take, List.length_drop]
    show min i r.length + (r.length - (i + 1)) + 1 = r.length
    omega
theorem leav_rowsOf {L : Lot} {k : Nat} {r q : Row} {m : Int} (hr : r ∈ rowsOf L k) (hm : m ∈ ab L r) (hq : q ∈ leav r m) : q ∈ rowsOf L k := by
  obtain ⟨h1, h2⟩ := mem_rowsOf.mp hr
  obtain ⟨h3, h4⟩ := leav_row h1 hm hq
  exact mem_rowsOf.mpr ⟨h3, h4.trans h2⟩

/-! ### rounds -/
/-- gone within the first k rounds -/
def goneBy (L : Lot) : Nat → Row → Bool
  | 0, _ => false
  | k + 1, r => (ab L r).all fun m => (leav r m).any fun q => goneBy L k q
theorem goneBy_succ {L : Lot} {k : Nat} {r : Row} : goneBy L (k + 1) r = true ↔ ∀ m ∈ ab L r, ∃ q ∈ leav r m, goneBy L k q = true := by
  show ((ab L r).all fun m => (leav r m).any fun q => goneBy L k q) = true ↔ _
  rw [List.all_eq_true]
  refine forall_congr' fun m => forall_congr' fun _ => ?_
  rw [List.any_eq_true]
theorem goneBy_mono1 {L : Lot} : ∀ {k : Nat} {r : Row}, goneBy L k r = true → goneBy L (k + 1) r = true
  | 0, _, h => by cases h
  | k + 1, r, h => by
    rw [goneBy_succ] at h ⊢
    intro m hm
    obtain ⟨q, hq, g⟩ := h m hm
    exact ⟨q, hq, goneBy_mono1 g⟩
theorem goneBy_mono {L : Lot} {j k : Nat} {r : Row} (h : j ≤ k) (g : goneBy L j r = true) : goneBy L k r = true := by
  induction h with
  | refl => exact g
  | step _ ih => exact goneBy_mono1 ih
/-- goes in round k -/
def Rnd (L : Lot) (r : Row) (k : Nat) : Prop := goneBy L (k + 1) r = true ∧ goneBy L k r = false
theorem Rnd.uniq {L : Lot} {r : Row} {j k : Nat} (a : Rnd L r j) (b : Rnd L r k) : j = k := by
  rcases Nat.lt_trichotomy j k with h | h | h
  · have := goneBy_mono (show j + 1 ≤ k by omega) a.1
    rw [b.2] at this
    cases this
  · exact h
  · have := goneBy_mono (show k + 1 ≤ j by omega) b.1
    rw [a.2] at this
    cases this
theorem goneBy_rnd {L : Lot} {r : Row} : ∀ {k : Nat}, goneBy L k r = true ↔ ∃ j, j < k ∧ Rnd L r j
  | 0 => by
    constructor
    · intro h
      cases h
    · rintro ⟨j, h, _⟩
      omega
  | k + 1 => by
    constructor
    · intro h
      cases e : goneBy L k r with
      | true =>
        obtain ⟨j, hj, g⟩ := goneBy_rnd.mp e
        exact ⟨j, by omega, g⟩
      | false => exact ⟨k, by omega, h, e⟩
    · rintro ⟨j, hj, g⟩
      exact goneBy_mono (show j + 1 ≤ k + 1 by omega) g.1
/-- where a round is empty, so are all behind it -/
theorem rnd_stop {L : Lot} {n k : Nat} (h : ∀ r ∈ rowsOf L n, ¬ Rnd L r k) : ∀ (j : Nat) (r : Row), k ≤ j → r ∈ rowsOf L n → goneBy L (j + 1) r = true → goneBy L j r = true
  | j, r, hj, hr, g => by
    cases e : goneBy L j r with
    | true => rfl
    | false =>
      exfalso
      rcases Nat.eq_or_lt_of_le hj with hj | hj
      · subst hj
        exact h r hr ⟨g, e⟩
      · obtain ⟨i, rfl⟩ : ∃ i, j = i + 1 := ⟨j - 1, by omega⟩
        have : goneBy L (i + 1) r = true := by
          rw [goneBy_succ] at g ⊢
          intro m hm
          obtain ⟨q, hq, gq⟩ := g m hm
          exact ⟨q, hq, rnd_stop h i q (by omega) (leav_rowsOf hr hm hq) gq⟩
        rw [e] at this
        cases this
theorem rnd_none {L : Lot} {n k : Nat} (h : ∀ r ∈ rowsOf L n, ¬ Rnd L r k) {j : Nat} {r : Row} (hr : r ∈ rowsOf L n) (g : Rnd L r j) : j < k := by
  refine Nat.lt_of_not_le fun hj => ?_
  have := rnd_stop h j r hj hr g.1
  rw [g.2] at this
  cases this
open Classical in
/-- the round of a row, none where it never goes -/
noncomputable def roundOf (L : Lot) (r : Row) : Option Nat := if h : ∃ k, Rnd L r k then some h.choose else none
theorem roundOf_some {L : Lot} {r : Row} {k : Nat} : roundOf L r = some k ↔ Rnd L r k := by
  unfold roundOf
  constructor
  · intro h
    split at h
    · rename_i g
      injection h with h
      rw [← h]
      exact g.choose_spec
    · cases h
  · intro h
    have g : ∃ k, Rnd L r k := ⟨k, h⟩
    rw [dif_pos g]
    exact congrArg some (g.choose_spec.uniq h)
theorem roundOf_none {L : Lot} {r : Row} : roundOf L r = none ↔ ∀ k, goneBy L k r = false := by
  constructor
  · intro h k
    cases e : goneBy L k r with
    | false => rfl
    | true =>
      obtain ⟨j, _, g⟩ := goneBy_rnd.mp e
      rw [roundOf_some.mpr g] at h
      cases h
  · intro h
    cases e : roundOf L r with
    | none => rfl
    | some k =>
      have := (roundOf_some.mp e).1
      rw [h] at this
      cases this

/-! ### maps of lots -/
structure Hom (L L' : Lot) (f : Int → Int) : Prop where
  mark : ∀ m, m ∈ L.marks → f m ∈ L'.marks
  pair : ∀ x y, (x, y) ∈ L.pairs → (f x, f y) ∈ L'.pairs
section
variable {L L' : Lot} {f : Int → Int}
theorem Hom.abv (h : Hom L L' f) {r : Row} {m : Int} (hm : m ∈ ab L r) : f m ∈ ab L' (r.map f) := by
  rw [mem_ab] at hm ⊢
  refine ⟨h.mark m hm.1, fun x hx => ?_⟩
  obtain ⟨y, hy, rfl⟩ := List.mem_map.mp hx
  exact h.pair m y (hm.2 y hy)
theorem Hom.row (h : Hom L L' f) {r : Row} (hr : IsRow L r) : IsRow L' (r.map f) := by
  refine ⟨fun x hx => ?_, hr.2.map f fun a b hab => h.pair b a hab⟩
  obtain ⟨y, hy, rfl⟩ := List.mem_map.mp hx
  exact h.mark y (hr.1 y hy)
theorem Hom.rows (h : Hom L L' f) {r : Row} {k : Nat} (hr : r ∈ rowsOf L k) : r.map f ∈ rowsOf L' k := by
  obtain ⟨h1, h2⟩ := mem_rowsOf.mp hr
  exact mem_rowsOf.mpr ⟨h.row h1, by rw [List.length_map, h2]⟩
theorem leav_map (r : Row) (m : Int) : leav (r.map f) (f m) = (leav r m).map (List.map f) := by
  unfold leav
  rw [List.length_map, List.map_map]
  congr 1
  funext i
  simp [List.map_take, List.map_drop]
/-- what goes there goes here, no later -/
theorem Hom.gone (h : Hom L L' f) : ∀ {k : Nat} {r : Row}, goneBy L' k (r.map f) = true → goneBy L k r = true
  | 0, _, g => by cases g
  | k + 1, r, g => by
    rw [goneBy_succ] at g ⊢
    intro m hm
    obtain ⟨q, hq, gq⟩ := g (f m) (h.abv hm)
    rw [leav_map] at hq
    obtain ⟨p, hp, rfl⟩ := List.mem_map.mp hq
    exact ⟨p, hp, h.gone gq⟩
end

/-! ### hopes: none is more than all -/
/-- a is no more than b -/
def leO : Option Int → Option Int → Prop
  | _, none => True
  | none, some _ => False
  | some a, some b => a ≤ b
theorem leO_refl : ∀ a, leO a a
  | none => True.intro
  | some a => Int.le_refl a
theorem leO_trans : ∀ {a b c}, leO a b → leO b c → leO a c
  | _, _, none, _, _ => by unfold leO; trivial
  | none, some _, some _, h, _ => h.elim
  | none, none, some _, _, h => h.elim
  | some _, none, some _, _, h => h.elim
  | some _, some _, some _, h1, h2 => Int.le_trans h1 h2
theorem leO_antisymm : ∀ {a b}, leO a b → leO b a → a = b
  | none, none, _, _ => rfl
  | none, some _, h, _ => h.elim
  | some _, none, _, h => h.elim
  | some _, some _, h1, h2 => congrArg some (Int.le_antisymm h1 h2)
theorem leO_total : ∀ a b, leO a b ∨ leO b a
  | _, none => .inl (by unfold leO; trivial)
  | none, some _ => .inr True.intro
  | some a, some b => Int.le_total a b
/-- is_more of the program -/
def isMore (one other : Option Int) : Bool := match other with
  | none => false
  | some b => match one with
    | none => true
    | some a => decide (b < a)
theorem isMore_iff : ∀ {a b}, isMore a b = true ↔ ¬ leO a b
  | a, none => by
    cases a <;> simp [isMore, leO]
  | none, some b => by simp [isMore, leO]
  | some a, some b => by
    show decide (b < a) = true ↔ ¬ a ≤ b
    rw [decide_eq_true_iff]
    omega
def grow (x y : Option Int) : Option Int := if isMore y x = true then y else x
theorem grow_left (x y : Option Int) : leO x (grow x y) := by
  unfold grow
  split
  · rename_i h
    exact (leO_total x y).resolve_right (isMore_iff.mp h)
  · exact leO_refl x
theorem grow_right (x y : Option Int) : leO y (grow x y) := by
  unfold grow
  split
  · exact leO_refl y
  · rename_i h
    exact Classical.byContradiction fun g => h (isMore_iff.mpr g)
theorem grow_or (x y : Option Int) : grow x y = x ∨ grow x y = y := by
  unfold grow
  split
  · exact .inr rfl
  · exact .inl rfl
theorem foldl_grow_left : ∀ (l : List (Option Int)) (x : Option Int), leO x (l.foldl grow x)
  | [], x => leO_refl x
  | y :: l, x => leO_trans (grow_left x y) (foldl_grow_left l (grow x y))
theorem foldl_grow_mem : ∀ (l : List (Option Int)) (x y : Option Int), y ∈ l → leO y (l.foldl grow x)
  | z :: l, x, y, h => by
    rcases List.mem_cons.mp h with rfl | h
    · exact leO_trans (grow_right x y) (foldl_grow_left l (grow x y))
    · exact foldl_grow_mem l (grow x z) y h
theorem foldl_grow_of : ∀ (l : List (Option Int)) (x : Option Int), l.foldl grow x = x ∨ l.foldl grow x ∈ l
  | [], x => .inl rfl
  | y :: l, x => by
    rcases foldl_grow_of l (grow x y) with h | h
    · rcases grow_or x y with g | g
      · exact .inl (h.trans g)
      · right
        rw [show List.foldl grow x (y :: l) = y from h.trans g]
        simp
    · right
      exact List.mem_cons_of_mem _ h
/-- greatest of the program, of no empty list -/
def great (l : List (Option Int)) : Option Int := l.foldl grow (l.headD none)
theorem great_mem {l : List (Option Int)} (h : l ≠ []) : great l ∈ l := by
  cases l with
  | nil => exact absurd rfl h
  | cons a l =>
    rcases foldl_grow_of (a :: l) a with g | g
    · rw [show great (a :: l) = a from g]
      simp
    · exact g
theorem great_le {l : List (Option Int)} {x : Option Int} (h : x ∈ l) : leO x (great l) := foldl_grow_mem l _ x h

/-- d marks lack to n - 1 -/
noncomputable def hopeAt (L : Lot) : Nat → Row → Option Int
  | 0, r => (roundOf L r).map fun k => (k : Int)
  | d + 1, r => if ab L r = [] then some (-((d : Int) + 1)) else great ((ab L r).map fun m => hopeAt L d (r ++ [m]))
/-- no hope lies below -d -/
theorem hopeAt_low (L : Lot) : ∀ (d : Nat) (r : Row), leO (some (-(d : Int))) (hopeAt L d r)
  | 0, r => by
    show leO (some (-((0 : Nat) : Int))) ((roundOf L r).map fun k => (k : Int))
    cases roundOf L r with
    | none => exact True.intro
    | some k =>
      show (-((0 : Nat) : Int)) ≤ (k : Int)
      omega
  | d + 1, r => by
    show leO _ (if ab L r = [] then some (-((d : Int) + 1)) else great ((ab L r).map fun m => hopeAt L d (r ++ [m])))
    split
    · show (-((d + 1 : Nat) : Int)) ≤ -((d : Int) + 1)
      omega
    · rename_i h
      obtain ⟨m, _, e⟩ := List.mem_map.mp (great_mem (l := (ab L r).map fun m => hopeAt L d (r ++ [m])) (by simpa using h))
      rw [← e]
      refine leO_trans ?_ (hopeAt_low L d (r ++ [m]))
      show (-((d + 1 : Nat) : Int)) ≤ -(d : Int)
      omega
theorem Hom.hope {L L' : Lot} {f : Int → Int} (h : Hom L L' f) : ∀ (d : Nat) (r : Row), leO (hopeAt L d r) (hopeAt L' d (r.map f))
  | 0, r => by
    show leO ((roundOf L r).map fun k => (k : Int)) ((roundOf L' (r.map f)).map fun k => (k : Int))
    cases e' : roundOf L' (r.map f) with
    | none => unfold leO; trivial
    | some k' =>
      have g := h.gone (roundOf_some.mp e').1
      obtain ⟨j, hj, gj⟩ := goneBy_rnd.mp g
      rw [roundOf_some.mpr gj]
      show (j : Int) ≤ k'
      omega
  | d + 1, r => by
    by_cases h1 : ab L r = []
    · have e : hopeAt L (d + 1) r = some (-((d : Int) + 1)) := if_pos h1
      rw [e]
      have := hopeAt_low L' (d + 1) (r.map f)
      rw [show -((d + 1 : Nat) : Int) = -((d : Int) + 1) by omega] at this
      exact this
    · have e : hopeAt L (d + 1) r = great ((ab L r).map fun m => hopeAt L d (r ++ [m])) := if_neg h1
      obtain ⟨m, hm, em⟩ := List.mem_map.mp (great_mem (l := (ab L r).map fun m => hopeAt L d (r ++ [m])) (by simpa using h1))
      have hm' := h.abv hm
      have h2 : ab L' (r.map f) ≠ [] := fun z => by
        rw [z] at hm'
        cases hm'
      have e' : hopeAt L' (d + 1) (r.map f) = great ((ab L' (r.map f)).map fun m => hopeAt L' d (r.map f ++ [m])) := if_neg h2
      rw [e, e', ← em]
      refine leO_trans (h.hope d (r ++ [m])) (great_le ?_)
      refine List.mem_map.mpr ⟨f m, hm', ?_⟩
      rw [List.map_append]
      rfl
/-- lasts of the program -/
noncomputable def lastsM (L : Lot) (n : Nat) : Option Int := (hopeAt L (n - 1) []).map fun k => (n : Int) + k
theorem Hom.lasts {L L' : Lot} {f : Int → Int} (h : Hom L L' f) (n : Nat) : leO (lastsM L n) (lastsM L' n) := by
  unfold lastsM
  have := h.hope (n - 1) []
  rw [List.map_nil] at this
  revert this
  cases hopeAt L' (n - 1) [] with
  | none => intro _; unfold leO; trivial
  | some b =>
    cases hopeAt L (n - 1) [] with
    | none => exact id
    | some a =>
      intro h
      show (n : Int) + a ≤ n + b
      have : a ≤ b := h
      omega

/-! ### sorted rows -/
def leR (p q : Row) : Bool := decide (p ≤ q)
noncomputable def sortR (l : List Row) : List Row := l.mergeSort leR
theorem leR_trans (a b c : Row) (h1 : leR a b = true) (h2 : leR b c = true) : leR a c = true := by
  unfold leR at *
  rw [decide_eq_true_iff] at *
  exact List.le_trans h1 h2
theorem leR_total (a b : Row) : (leR a b || leR b a) = true := by
  unfold leR
  rw [Bool.or_eq_true, decide_eq_true_iff, decide_eq_true_iff]
  exact List.le_total a b
theorem leR_antisymm {a b : Row} (h1 : leR a b = true) (h2 : leR b a = true) : a = b := by
  unfold leR at *
  rw [decide_eq_true_iff] at *
  exact List.le_antisymm h1 h2
theorem sortR_perm (l : List Row) : (sortR l).Perm l := List.mergeSort_perm l leR
theorem sortR_pair (l : List Row) : (sortR l).Pairwise fun a b => leR a b = true := List.pairwise_mergeSort leR_trans leR_total l
theorem sortR_mem {l : List Row} {r : Row} : r ∈ sortR l ↔ r ∈ l := (sortR_perm l).mem_iff
theorem sorted_one {l m : List Row} (h : l.Perm m) (hl : l.Pairwise fun a b => leR a b = true) (hm : m.Pairwise fun a b => leR a b = true) : l = m :=
  h.eq_of_pairwise (fun _ _ _ _ h1 h2 => leR_antisymm h1 h2) hl hm
theorem sortR_one {l m : List Row} (h : l.Perm m) : sortR l = sortR m :=
  sorted_one ((sortR_perm l).trans (h.trans (sortR_perm m).symm)) (sortR_pair l) (sortR_pair m)
/-- a sorted list's picked items, sorted -/
theorem sortR_filter (l : List Row) (p : Row → Bool) : (sortR l).filter p = sortR (l.filter p) :=
  sorted_one (((sortR_perm l).filter p).trans (sortR_perm _).symm) ((sortR_pair l).sublist List.filter_sublist) (sortR_pair _)
theorem perm_of_mem {α : Type} [DecidableEq α] {l m : List α} (hl : l.Nodup) (hm : m.Nodup) (h : ∀ a, a ∈ l ↔ a ∈ m) : l.Perm m := by
  rw [List.perm_iff_count]
  intro a
  by_cases ha : a ∈ l
  · rw [List.Nodup.count hl, List.Nodup.count hm, if_pos ha, if_pos ((h a).mp ha)]
  · rw [List.Nodup.count hl, List.Nodup.count hm, if_neg ha, if_neg fun z => ha ((h a).mpr z)]

/-! ### book, rounds, reach -/
noncomputable def bookM (L : Lot) (n : Nat) : List Row := sortR ((rowsOf L (n - 1)).filter fun r => decide (roundOf L r = none))
noncomputable def roundM (L : Lot) (n k : Nat) : List Row := sortR ((rowsOf L (n - 1)).filter fun r => decide (roundOf L r = some k))
def upO : Option Nat → Nat
  | none => 0
  | some k => k + 1
noncomputable def manyR (L : Lot) (n : Nat) : Nat := ((rowsOf L (n - 1)).map fun r => upO (roundOf L r)).foldl max 0
noncomputable def roundsM (L : Lot) (n : Nat) : List (List Row) := (List.range (manyR L n)).map (roundM L n)
theorem foldl_max_le : ∀ (l : List Nat) (a : Nat), a ≤ l.foldl max a
  | [], a => Nat.le_refl a
  | x :: l, a => Nat.le_trans (Nat.le_max_left a x) (foldl_max_le l (max a x))
theorem foldl_max_mem : ∀ (l : List Nat) (a x : Nat), x ∈ l → x ≤ l.foldl max a
  | y :: l, a, x, h => by
    rcases List.mem_cons.mp h with rfl | h
    · exact Nat.le_trans (Nat.le_max_right a x) (foldl_max_le l (max a x))
    · exact foldl_max_mem l (max a y) x h
theorem foldl_max_lub : ∀ (l : List Nat) (a b : Nat), a ≤ b → (∀ x ∈ l, x ≤ b) → l.foldl max a ≤ b
  | [], a, b, h, _ => h
  | x :: l, a, b, h, g => foldl_max_lub l (max a x) b (Nat.max_le.mpr ⟨h, g x (by simp)⟩) fun y hy => g y (by simp [hy])
theorem manyR_le {L : Lot} {n b : Nat} : manyR L n ≤ b ↔ ∀ r ∈ rowsOf L (n - 1), upO (roundOf L r) ≤ b := by
  unfold manyR
  constructor
  · intro h r hr
    exact Nat.le_trans (foldl_max_mem _ 0 _ (List.mem_map.mpr ⟨r, hr, rfl⟩)) h
  · intro h
    refine foldl_max_lub _ 0 b (Nat.zero_le b) fun x hx => ?_
    obtain ⟨r, hr, rfl⟩ := List.mem_map.mp hx
    exact h r hr
noncomputable def servesM (L : Lot) (n : Nat) : Bool := decide (bookM L n ≠ [])
theorem servesM_iff {L : Lot} {n : Nat} : servesM L n = true ↔ ∃ r ∈ rowsOf L (n - 1), roundOf L r = none := by
  unfold servesM bookM
  rw [decide_eq_true_iff]
  constructor
  · intro h
    obtain ⟨r, hr⟩ := List.exists_mem_of_ne_nil _ h
    rw [sortR_mem, List.mem_filter, decide_eq_true_iff] at hr
    exact ⟨r, hr⟩
  · rintro ⟨r, h1, h2⟩ e
    have : r ∈ sortR ((rowsOf L (n - 1)).filter fun r => decide (roundOf L r = none)) := by
      rw [sortR_mem, List.mem_filter, decide_eq_true_iff]
      exact ⟨h1, h2⟩
    rw [e] at this
    cases this
theorem Hom.serves {L L' : Lot} {f : Int → Int} (h : Hom L L' f) {n : Nat} (s : servesM L n = true) : servesM L' n = true := by
  obtain ⟨r, h1, h2⟩ := servesM_iff.mp s
  refine servesM_iff.mpr ⟨r.map f, h.rows h1, ?_⟩
  rw [roundOf_none] at h2 ⊢
  intro k
  cases e : goneBy L' k (r.map f) with
  | false => rfl
  | true =>
    have := h.gone e
    rw [h2] at this
    cases this
/-- from found on, d more at the most -/
noncomputable def reachFrom (L : Lot) : Nat → Nat → Nat
  | 0, found => found
  | d + 1, found => if servesM L (found + 1) = true then reachFrom L d (found + 1) else found
noncomputable def reachM (L : Lot) : Nat := reachFrom L 5 0
theorem reachFrom_ge (L : Lot) : ∀ d found, found ≤ reachFrom L d found
  | 0, found => Nat.le_refl _
  | d + 1, found => by
    show found ≤ if servesM L (found + 1) = true then reachFrom L d (found + 1) else found
    split
    · exact Nat.le_trans (Nat.le_succ _) (reachFrom_ge L d (found + 1))
    · exact Nat.le_refl _
theorem Hom.reachFrom {L L' : Lot} {f : Int → Int} (h : Hom L L' f) : ∀ d found, K87.reachFrom L d found ≤ K87.reachFrom L' d found
  | 0, found => Nat.le_refl _
  | d + 1, found => by
    show (if servesM L (found + 1) = true then K87.reachFrom L d (found + 1) else found) ≤ if servesM L' (found + 1) = true then K87.reachFrom L' d (found + 1) else found
    by_cases g : servesM L (found + 1) = true
    · rw [if_pos g, if_pos (h.serves g)]
      exact h.reachFrom d (found + 1)
    · rw [if_neg g]
      exact reachFrom_ge L' (d + 1) found
theorem Hom.reach {L L' : Lot} {f : Int → Int} (h : Hom L L' f) : reachM L ≤ reachM L' := h.reachFrom 5 0

/-! ### called otherwise -/
structure Iso (L L' : Lot) (f g : Int → Int) : Prop where
  to : Hom L L' f
  back : Hom L' L g
  gf : ∀ m, m ∈ L.marks → g (f m) = m
  fg : ∀ m, m ∈ L'.marks → f (g m) = m
section
variable {L L' : Lot} {f g : Int → Int}
theorem Iso.reach (h : Iso L L' f g) : reachM L' = reachM L := Nat.le_antisymm h.back.reach h.to.reach
theorem Iso.lasts (h : Iso L L' f g) (n : Nat) : lastsM L' n = lastsM L n := leO_antisymm (h.back.lasts n) (h.to.lasts n)
theorem map_gf (h : ∀ m, m ∈ L.marks → g (f m) = m) {r : Row} (hr : IsRow L r) : (r.map f).map g = r := by
  rw [List.map_map]
  conv => rhs; rw [← List.map_id r]
  exact List.map_congr_left fun a ha => h a (hr.1 a ha)
theorem Iso.gone (h : Iso L L' f g) {r : Row} (hr : IsRow L r) (k : Nat) : goneBy L' k (r.map f) = goneBy L k r := by
  have h1 : goneBy L' k (r.map f) = true → goneBy L k r = true := h.to.gone
  have h2 : goneBy L k r = true → goneBy L' k (r.map f) = true := fun e => h.back.gone (by rw [map_gf h.gf hr]; exact e)
  exact Bool.eq_iff_iff.mpr ⟨h1, h2⟩
theorem Iso.round (h : Iso L L' f g) {r : Row} (hr : IsRow L r) : roundOf L' (r.map f) = roundOf L r := by
  cases e : roundOf L r with
  | none =>
    rw [roundOf_none] at e ⊢
    intro k
    rw [h.gone hr, e]
  | some k =>
    rw [roundOf_some] at e ⊢
    exact ⟨by rw [h.gone hr]; exact e.1, by rw [h.gone hr]; exact e.2⟩
theorem Iso.rowsPerm (h : Iso L L' f g) (k : Nat) : (rowsOf L' k).Perm ((rowsOf L k).map (List.map f)) := by
  refine perm_of_mem (rowsOf_nodup L' k) ?_ ?_
  · have := rowsOf_nodup L k
    unfold List.Nodup at this ⊢
    rw [List.pairwise_map]
    refine List.Pairwise.imp_of_mem ?_ this
    intro a b ha hb hab e
    refine hab ?_
    rw [← map_gf h.gf (mem_rowsOf.mp ha).1, ← map_gf h.gf (mem_rowsOf.mp hb).1, e]
  · intro r
    constructor
    · intro hr
      have h1 := h.back.rows hr
      exact List.mem_map.mpr ⟨r.map g, h1, map_gf h.fg (mem_rowsOf.mp hr).1⟩
    · intro hr
      obtain ⟨q, hq, rfl⟩ := List.mem_map.mp hr
      exact h.to.rows hq
theorem Iso.picked (h : Iso L L' f g) (k : Nat) (o : Option Nat) :
    sortR ((rowsOf L' k).filter fun r => decide (roundOf L' r = o)) = sortR ((sortR ((rowsOf L k).filter fun r => decide (roundOf L r = o))).map (List.map f)) := by
  refine sortR_one ?_
  refine ((h.rowsPerm k).filter _).trans ?_
  refine List.Perm.trans ?_ ((sortR_perm _).map _).symm
  rw [List.filter_map]
  refine List.Perm.map _ (List.Perm.of_eq ?_)
  refine List.filter_congr fun r hr => ?_
  show decide (roundOf L' (r.map f) = o) = _
  rw [h.round (mem_rowsOf.mp hr).1]
theorem Iso.book (h : Iso L L' f g) (n : Nat) : bookM L' n = sortR ((bookM L n).map (List.map f)) := h.picked (n - 1) none
theorem Iso.roundM (h : Iso L L' f g) (n k : Nat) : roundM L' n k = sortR ((K87.roundM L n k).map (List.map f)) := h.picked (n - 1) (some k)
theorem Iso.manyR (h : Iso L L' f g) (n : Nat) : manyR L' n = K87.manyR L n := by
  refine Nat.le_antisymm ?_ ?_
  · rw [manyR_le]
    intro r hr
    obtain ⟨q, hq, rfl⟩ := List.mem_map.mp ((h.rowsPerm (n - 1)).mem_iff.mp hr)
    rw [h.round (mem_rowsOf.mp hq).1]
    exact manyR_le.mp (Nat.le_refl _) q hq
  · rw [manyR_le]
    intro r hr
    rw [← h.round (mem_rowsOf.mp hr).1]
    exact manyR_le.mp (Nat.le_refl _) _ (h.to.rows hr)
theorem Iso.rounds (h : Iso L L' f g) (n : Nat) : roundsM L' n = (roundsM L n).map fun line => sortR (line.map (List.map f)) := by
  unfold roundsM
  rw [h.manyR, List.map_map]
  exact List.map_congr_left fun k _ => h.roundM n k
end
end K87
/-! Rules that the hand layer has not: walks over the pairs of a dict with tuple keys, dict comprehensions with tuple keys, d == {}, list(d.values()), sorted of tuples of ints of any length. -/
namespace K87
open PySem PySem.Spec PyProof.Rows L2

/-! ### for k, v in d.items(), d a locked dict with tuple keys -/
section
variable {X : Cx} {pins : List (Addr × Obj)} {σ : L2.St} {H : Hp} {s : Shared} {d : Addr} {o : Obj}
theorem frzT_vals {kvs : List (List Key × V)} (I : Inv X pins σ H s) (h : H d = some (.frz o (.dT kvs))) :
    (d == sysModules) = false ∧ s.heap.get? d = some o ∧ o.ExactDict ∧ ∃ (es : Array DictEntry) (ep : Nat), o.data = .dict es ep ∧ es.size = kvs.length ∧
      ∀ (i : Nat) (k : List Key) (v : V), kvs[i]? = some (k, v) → ∃ (en : DictEntry) (q : Addr), es[i]? = some en ∧ en.key = .ref q ∧ H q = some (.tup (k.map kV)) ∧ RelV v en.val := by
  obtain ⟨hd, _, hs, xs, pr, o', es, ep, ho, hx, hdt, he, _⟩ := I.hok d _ h
  obtain rfl : o' = o := Option.some.inj (ho.symm.trans hd)
  refine ⟨hs, hd, hx, es, ep, hdt, ?_, fun i k v e => ?_⟩
  · rw [size_of_entries he]
    exact (Paired.length pr).symm
  · obtain ⟨b, hb, e1, e2, e3⟩ := paired_get pr e
    have q := entry_at he i
    rw [hb] at q
    exact ⟨_, b.2.1, q, rfl, e2, e3⟩
end
/-- the pairs of the locked dict at d, each a new tuple of the key's own tuple and the value -/
def ItT (d : Addr) (o : Obj) (kvs : List (List Key × V)) : It :=
  ⟨fun i H => H d = some (.frz o (.dT kvs)) ∧ i < kvs.length,
   fun i H x H' => ∃ (T q : Addr) (k : List Key) (v : V), kvs[i]? = some (k, v) ∧ x = .ref T ∧ H T = none ∧ H q = some (.tup (k.map kV)) ∧ H' = upd H T (.tup [.ref q, v]),
   fun i H => H d = some (.frz o (.dT kvs)) ∧ kvs.length ≤ i⟩
section
variable {P : Program} {w : World} {K : PySem.W.Frag} {d : Addr} {o : Obj} {es : Array DictEntry} {ep : Nat}
theorem turn_itemsT {kvs : List (List Key × V)} {elts : List Expr} {kk : Nat} {tpos : Pos} (it : Addr) (hod : o.data = .dict es ep) :
    Turn P w K (.Tuple elts kk tpos) (ItT d o kvs) [it] it (fun i h => ∃ ok ov, IsItemIter h it d i es.size ep ok ov) where
  mem := List.mem_singleton.mpr rfl
  obj := fun i h st b hb => by
    obtain rfl := List.mem_singleton.mp hb
    obtain ⟨ok, ov, e⟩ := st
    exact ⟨_, e, fun v z => nomatch z⟩
  keep := fun i h h' st k => by
    obtain ⟨ok, ov, e⟩ := st
    exact ⟨ok, ov, k it (List.mem_singleton.mpr rfl) _ e⟩
  item := by
    intro X hP hw hK hc i pins s σ H E I hf st hg
    subst hP hw hK
    obtain ⟨hd, hi⟩ := hg
    obtain ⟨hs, hgd, hx, es2, ep2, hdt, hsz, ent⟩ := frzT_vals I hd
    obtain ⟨rfl, rfl⟩ := dict_ep hod hdt
    obtain ⟨⟨k, v⟩, hkv⟩ : ∃ p, kvs[i]? = some p := ⟨_, List.getElem?_eq_getElem hi⟩
    obtain ⟨en, q, hen, hkey, hq, rv⟩ := ent i k v hkv
    obtain ⟨ok, ov, he⟩ := st
    have hlt : it < s.heap.objs.size := Heap.lt_size he
    have hi2 : i < es2.size := by omega
    have een : es2[i] = en := Option.some.inj ((Array.getElem?_eq_getElem hi2).symm.trans hen)
    refine DT.nextI he ⟨o, hgd, hx, hdt⟩ hi2 fun h1 ho hT hz hk => ?_
    rw [een, hkey] at hT
    refine ⟨_, rfl, wpAny_letOwnedTupleGo_items (s := { s with heap := h1 }) ho fun h2 he2 sb => ?_⟩
    have hT2 := (sb.2 _ (Nat.ne_of_gt hlt)).trans hT
    have new : ObjOk X.prog X.w (upd H s.heap.objs.size (.tup [.ref q, v])) h2 s.heap.objs.size (.tup [.ref q, v]) := by
      refine ⟨by show 2 ≤ sizeLine; decide, [.ref q, en.val], .cons rfl (.cons rv .nil), ⟨_, hT2, rfl, _, rfl⟩⟩
    have I1 := I.turnedNew (t' := s.toks) (ch := [it]) (fun b ob hb e => (sb.2 b (fun z => hb (List.mem_singleton.mpr z))).trans (hk b ob (fun z => hb (List.mem_singleton.mpr z)) e)) hf (Nat.le_refl _) new
    refine ⟨.ref s.heap.objs.size, _, I1, rfl, ⟨_, q, k, v, hkv, rfl, I.hok.fresh (Nat.le_refl _), hq, rfl⟩, ⟨_, _, he2⟩, fun b hb => ?_⟩
    obtain rfl := List.mem_singleton.mp hb
    rw [upd_ne (Nat.ne_of_lt hlt)]
    exact (hf b (List.mem_singleton.mpr rfl)).1
  done := by
    intro X hP hw hK hc i pins s σ H E I hf st hg
    subst hP hw hK
    obtain ⟨hd, hi⟩ := hg
    obtain ⟨f0, f1, _, f3, f4, f5⟩ := hf it (List.mem_singleton.mpr rfl)
    obtain ⟨hs, hgd, hx, es2, ep2, hdt, hsz, ent⟩ := frzT_vals I hd
    obtain ⟨rfl, rfl⟩ := dict_ep hod hdt
    obtain ⟨ok, ov, he⟩ := st
    exact DT.endI (I.ok.hd hc) he ⟨o, hgd, hx, hdt⟩ (by omega) fun h1 eb => ⟨rfl, I.turned (t' := s.toks) (fun b ob hb e => eb b ob hb e) f0 f1 f3 f4 f5⟩
  self := fun A i s Q E st h => by
    obtain ⟨_, _, e⟩ := st
    exact PySem.W.kcp_self e h
end
def iItemsT (td : TE) : TI := fun σ H R => td σ H fun x H1 => ∃ d o kvs, x = .ref d ∧ H1 d = some (.frz o (.dT kvs)) ∧ R (ItT d o kvs) H1
section
variable {X : Cx} {e : Expr} {td : TE} {apos cpos : Pos}
theorem pi_itemsT {elts : List Expr} {kk : Nat} {tpos : Pos} (he : PE X e td) (hbase : attributeBase e "items" X.env (eval e X.env) = eval e X.env := by rfl) (hline : (apos.endLine == cpos.line) = true := by rfl) :
    PI X (.Tuple elts kk tpos) (.Call (.Attribute e "items" apos) [] [] cpos) (iItemsT td) := by
  refine ⟨fun pins s σ H R I h => ?_⟩
  refine wpAny_Call_method (T := "dict") (id := "dict.items") hbase rfl hline F.plainAttrs_dict F.slot_dict_items F.type_dict_items (thn (he.run pins s σ H _ I h) fun u s1 hx => ?_)
  obtain ⟨x, H1, I1, rx, d, o, kvs, rfl, hd, q⟩ := hx
  obtain rfl : u = Value.ref d := rx
  obtain ⟨hs, hgd, hx, es, ep, hdt, hsz, ent⟩ := frzT_vals I1 hd
  have raw : DT.Raw s1.heap d es ep := ⟨o, hgd, hx, hdt⟩
  refine ⟨raw.typeIs, fun b eb => ?_, ?_⟩
  · injection eb with eb
    rw [← eb]
    exact ⟨o, hgd, hx.2.1⟩
  · have I2 : Inv X pins σ H1 { s1 with heap := s1.heap.push { cls := .type "dict_items", data := .fields #[.ref d] } } := I1.kept (t' := s1.toks) fun b ob q => Heap.get?_push_of_some _ q
    show wpAny _ _ (callWith cpos (.builtin "dict.items") [.ref d] [] []) _ X.xe s1
    refine Calls.callWith_builtin rfl (PySem.evalArgs_none ?_)
    refine DT.callItems (es := es) (ep := ep) hs raw ?_
    refine DT.iterI (d := d) (es := es) (ep := ep) ⟨_, Heap.get?_push_size _ rfl, rfl, rfl⟩ (raw.push _) ?_
    exact pi_one (tk := s1.toks) I2 _ (turn_itemsT _ hdt) ⟨.none, .none, Heap.get?_push_size _ rfl⟩ q
end

/-! ### {k: v for .. in ..}, the keys tuples of ints and texts -/
/-- what a turn stores, and what it is to reach -/
def storesT (D : Addr) (Nx : Hp → Prop) (y z : V) (H : Hp) : Prop := ∃ (kvs : List (List Key × V)) (k : List Key) (b : Addr),
  y = .ref b ∧ H b = some (.tup (k.map kV)) ∧ H D = some (.dT kvs) ∧ kvs.length < sizeLine ∧ Nx (upd H D (.dT (putK kvs k z)))
theorem setT_ok {X : Cx} {pins : List (Addr × Obj)} {σ : L2.St} {H : Hp} {s : Shared} {E : Value → Shared → Prop} {D : Addr} {Nx : Hp → Prop} {y z : V} {u r : Value} {Q : Unit → Shared → Prop} (hu : X.A.units + 1 < cLine)
    (I : Inv X pins σ H s) (h : storesT D Nx y z H) (ry : RelV y u) (rz : RelV z r) (hq : ∀ H1 s1, Inv X pins σ H1 s1 → Nx H1 → Q () s1) : wpAny (model X.prog X.w) X.A (dictSet D u r) Q E s := by
  obtain ⟨kvs, k, b, rfl, eb, e, l, nx⟩ := h
  obtain rfl : u = Value.ref b := ry
  obtain ⟨_, hd, xs, rel, dd⟩ := dt_of I.hok e
  have hxs : xs.length ≤ sizeLine := by
    rw [← Paired.length rel]
    omega
  have hl : (putK kvs k z).length ≤ sizeLine := by
    have := length_putK kvs k z
    omega
  refine wpAny_dictSet_heap (hsz := hxs) (Nat.lt_of_le_of_lt (Nat.le_succ _) hu) (key_of I.hok eb) dd fun h1 d1 hs => hq _ _ ?_ nx
  obtain ⟨q, es, ep, hq1, h2, h3, h4, _, h5⟩ := d1
  refine d_write I (by rw [e]; trivial) hs ⟨q, hq1⟩ ⟨hl, hd, _, (rel.put k eb rz).keeps fun c ys ec => ?_, q, es, ep, hq1, h2, h3, h4, h5⟩
  rw [upd_ne (ne_of ec e (fun z => nomatch z))]
  exact ec
section
variable {X : Cx} {kx vx tg iter : Expr} {ifs : List Expr} {scope : Scope} {own : List (Str × Nat)} {pos : Pos} {wi : TI} {g : TG} {tt : TT} {tk tv : TE}
def tDcT (wi : TI) (g : TG) (tt : TT) (tk tv : TE) (vs : List Nat) : TE := fun σ H Q => wi σ H fun J H1 => ∀ D, H1 D = none → ∃ W : Nat → Nat → Hp → Prop,
  (∃ m, W 0 m (upd H1 D (.dT []))) ∧ ∀ i m H, W i m H → (J.stop i H ∧ Q (.ref D) H) ∨ (J.go i H ∧ ∃ Nx : Hp → Prop, (∀ H', Nx H' → ∃ m', m' < m ∧ W (i + 1) m' H') ∧
    ∀ x H', J.yld i H x H' → g x (wipe σ vs) H' fun σ2 H2 => wipe σ2 vs = wipe σ vs ∧ tt σ2 H2 fun b H3 => if b = true then tk σ2 H3 fun y H4 => tv σ2 H4 fun z H5 => storesT D Nx y z H5 else Nx H3)
theorem pe_dcT (hc : X.calm = true) (hu : X.A.units + 1 < cLine) (hN : X.N.Nodup) (hi : PI X tg iter wi) (ok : BlkOk X.N X.env.scope scope own)
    (hg : ∀ (s : Shared) (H : Hp) (C : Addr) (cl : List (Str × Addr)) (fp : List Addr), PG (X.blk s H scope (compEnvC scope cl C X.env) fp) tg g)
    (ht : ∀ (s : Shared) (H : Hp) (C : Addr) (cl : List (Str × Addr)) (fp : List Addr), PTs (X.blk s H scope (compEnvC scope cl C X.env) fp) ifs tt)
    (hk : ∀ (s : Shared) (H : Hp) (C : Addr) (cl : List (Str × Addr)) (fp : List Addr), PE (X.blk s H scope (compEnvC scope cl C X.env) fp) kx tk)
    (he : ∀ (s : Shared) (H : Hp) (C : Addr) (cl : List (Str × Addr)) (fp : List Addr), PE (X.blk s H scope (compEnvC scope cl C X.env) fp) vx tv) (hs : ∀ x, foldedSetIterable iter X.env x = pure x := by intro _; rfl) :
    PE X (.DictComp kx vx [⟨tg, iter, ifs, 0⟩] scope pos) (tDcT wi g tt tk tv (own.map (·.2))) := by
  refine ⟨fun pins s σ H Q I h => ?_⟩
  rw [arm_eval_DictComp]
  have clo : ∀ y ∈ scope.names, y.2 = .free → ∃ c, X.env.cells.lookup y.1 = some c := fun y hy e => I.ok.has _ (ok.free y hy e)
  refine wpAny_comprehension_free (use := none) rfl hs (closure_ok clo) ok.kind (fun y hy e => (ok.uniq y hy).trans (congrArg some e)) (thn (hi.run pins s σ H _ I h) fun xv s1 hx => thn hx fun itv s2 h2 => ?_)
  obtain ⟨it, fp, tn, J, H2, rfl, I2, T, st2, f2, q⟩ := h2
  refine wpAny_newObj_type (newEnv_comp ?_)
  -- the new dict stands at the heap's end
  generalize hD : s2.heap.objs.size = D
  obtain ⟨W, ⟨m0, w0⟩, turn⟩ := q D (I2.hok.fresh (Nat.le_of_eq hD))
  generalize hs3 : ({ s2 with heap := s2.heap.push { cls := .type "dict", data := .dict #[] } } : Shared) = s3
  have e3 : s3.heap = s2.heap.push { cls := .type "dict", data := .dict #[] } := by rw [← hs3]
  have I3 : Inv X pins σ (upd H2 D (.dT [])) s3 := by
    rw [← hs3]
    refine I2.laid (t' := s2.toks) (fun b o e => Heap.get?_push_of_some _ e) (Nat.le_of_eq hD) ?_
    rw [← hD]
    exact dt_empty s2.heap I2.big
  have f3 : ∀ b ∈ fp, FpOk X pins (upd H2 D (.dT [])) b ∧ b < s3.heap.objs.size := fun b hb => by
    obtain ⟨o, e, _⟩ := T.obj _ _ st2 b hb
    have hlt := Heap.lt_size e
    rw [e3, Heap.size_push]
    refine ⟨⟨?_, (f2 b hb).2⟩, Nat.lt_succ_of_lt hlt⟩
    rw [upd_ne (fun z => Nat.lt_irrefl _ (by rw [z, ← hD] at hlt; exact hlt))]
    exact (f2 b hb).1
  have st3 : tn 0 s3.heap := T.keep _ _ _ st2 fun b _ o e => by
    rw [e3]
    exact Heap.get?_push_of_some _ e
  have I4 := block_start I3 ok hN f3
  generalize hcl : cellsFrom (s3.heap.objs.size + 1) scope.names (cloFrom X.env.cells scope.names []) = cl at I4
  have pg := hg s3 (upd H2 D (.dT [])) s3.heap.objs.size cl fp
  have pt := ht s3 (upd H2 D (.dT [])) s3.heap.objs.size cl fp
  have pk := hk s3 (upd H2 D (.dT [])) s3.heap.objs.size cl fp
  have pe := he s3 (upd H2 D (.dT [])) s3.heap.objs.size cl fp
  have n3 : ∀ b ∈ fp, (upd H2 D (.dT [])) b = none := fun b hb => (f3 b hb).1.1
  have goal : codeAny (model X.prog X.w) X.A (.compStart (.DictComp kx vx [⟨tg, iter, ifs, 0⟩] scope pos) 0 (.ref it) (.ref D) (compEnvC scope cl s3.heap.objs.size X.env))
      (compPost (model X.prog X.w) X.A X.xe none (EP X pins σ Q) (.ref D) s3.heap.objs.size) { s3 with heap := pushCells (s3.heap.push { cls := .type "dict", data := .dict #[] }) scope.names } := by
    generalize hce : compEnvC scope cl s3.heap.objs.size X.env = ce at I4 pg pt pk pe ⊢
    have cL : ce.locals = s3.heap.objs.size := by
      subst hce
      rfl
    generalize hH3 : upd H2 D (.dT []) = H3 at I3 I4 pg pt pk pe w0 n3 f3
    generalize hs4 : ({ s3 with heap := pushCells (s3.heap.push { cls := .type "dict", data := .dict #[] }) scope.names } : Shared) = s4 at I4 ⊢
    have st4 : tn 0 s4.heap := T.keep _ _ _ st3 fun b _ o e => by
      rw [← hs4]
      exact pushCells_keeps _ _ _ _ (Heap.get?_push_of_some _ e)
    have own' : ∀ {σ' : L2.St} {H' : Hp} {s' : Shared}, Inv (X.blk s3 H3 scope ce fp) [] σ' H' s' → (∀ b ∈ fp, H' b = none) → ∀ b ∈ fp, FpOk (X.blk s3 H3 scope ce fp) [] H' b :=
      fun I' hn b hb => ⟨hn b hb, (I'.ok.exf b hb).1, I'.ok.exfs b hb, .inl hb, fun x c e => (I'.ok.exf b hb).2 x c e, fun p hp => (List.not_mem_nil hp).elim⟩
    have loop : codeAny (model X.prog X.w) X.A (.compLoop (.DictComp kx vx [⟨tg, iter, ifs, 0⟩] scope pos) 0 (.ref it) (.ref D) ce) (compPost (model X.prog X.w) X.A X.xe none (EP X pins σ Q) (.ref D) s3.heap.objs.size) s4 := by
      refine compLoop_anyD (fun n s' => ∃ i H', Inv (X.blk s3 H3 scope ce fp) [] (wipe σ (own.map (·.2))) H' s' ∧ tn i s'.heap ∧ (∀ b ∈ fp, H' b = none) ∧ W i n H') ?_ m0 ⟨0, H3, I4, st4, n3, w0⟩
      rintro n s5 ⟨i, H5, I5, st5, n5, w5⟩
      rcases turn i n H5 w5 with ⟨stop, qq⟩ | ⟨go, Nx, hNx, step⟩
      · -- no turn is left
        refine thnF (T.done (X.blk s3 H3 scope ce fp) rfl rfl rfl hc i [] s5 _ H5 (fun _ _ => False) I5 (own' I5 n5) st5 stop) fun r s6 ⟨hr, I6⟩ => ?_
        subst hr
        have I7 : Inv X pins σ H5 s6 := I3.call' (ch := fp) I6.os I6.base I6.hok I6.bare fun b hb => ⟨(f3 b hb).1.2.2.2.1, (f3 b hb).1.2.1, (f3 b hb).1.2.2.2.2.1, (f3 b hb).1.2.2.2.2.2⟩
        have nC : H5 s3.heap.objs.size = none := cL ▸ I6.free
        obtain ⟨mm, hn, _⟩ := I6.loc
        have hn : s6.heap.Ns s3.heap.objs.size mm := cL ▸ hn
        obtain ⟨g0, g1, _, g3, g4, g5⟩ := I3.fpOk (Nat.le_refl _) nC
        refine ⟨mm, hn, fun h7 sb => ⟨.ref D, H5, I7.turned (t' := s6.toks) (fun b o hb e => (sb.2 b hb).trans e) g0 g1 g3 g4 g5, rfl, qq⟩⟩
      · -- one more
        refine thnF (T.item (X.blk s3 H3 scope ce fp) rfl rfl rfl hc i [] s5 _ H5 (fun _ _ => False) I5 (own' I5 n5) st5 go) fun r s6 h6 => ?_
        obtain ⟨u, hr, h6⟩ := h6
        subst hr
        refine thnF h6 fun _ s7 h7 => ?_
        obtain ⟨x, H7, I7, r7, y7, st7, n7⟩ := h7
        have P7 := I7.pinned (own' I7 n7) (T.obj _ _ st7)
        refine thnF (pg.run _ s7 _ H7 x u _ P7 r7 (step x H7 y7)) fun _ s8 h8 => ?_
        obtain ⟨σ8, H8, I8, hw8, q8⟩ := h8
        have fin : ∀ {s' : Shared} {H' : Hp}, Inv (X.blk s3 H3 scope ce fp) ([] ++ pinsAt fp s7.heap) σ8 H' s' → Nx H' →
            ∃ m, m < n ∧ ∃ i H', Inv (X.blk s3 H3 scope ce fp) [] (wipe σ (own.map (·.2))) H' s' ∧ tn i s'.heap ∧ (∀ b ∈ fp, H' b = none) ∧ W i m H' := fun {s' H'} I' nx => by
          obtain ⟨m', hm, w'⟩ := hNx H' nx
          have pin' : ∀ b ∈ fp, ∀ o, s7.heap.get? b = some o → s'.heap.get? b = some o ∧ H' b = none := fun b hb o e => by
            have z := I'.pin (b, o) (List.mem_append_right _ (List.mem_append_right _ (mem_pinsAt hb e)))
            exact ⟨z.1, z.2.1⟩
          refine ⟨m', hm, i + 1, H', (I'.unpinned (pins := [])).weak (by rw [← hw8, wipe_length]) (fun j v e => ?_), T.keep _ _ _ st7 fun b hb o e => (pin' b hb o e).1, fun b hb => ?_, w'⟩
          · rw [← hw8] at e
            exact (wipe_some e).1
          · obtain ⟨o, e, _⟩ := T.obj _ _ st7 b hb
            exact (pin' b hb o e).2
        refine thnF (pt.run _ s8 σ8 H8 _ I8 q8) fun b s9 h9 => ?_
        obtain ⟨H9, I9, q9⟩ := h9
        cases b with
        | false =>
          rw [if_neg Bool.false_ne_true] at q9
          rw [if_neg Bool.false_ne_true]
          exact fin I9 q9
        | true =>
          rw [if_pos rfl] at q9
          rw [if_pos rfl]
          refine thnF (pk.run _ s9 σ8 H9 _ I9 q9) fun z s10 h10 => ?_
          obtain ⟨yk, H10, I10, r10, q10⟩ := h10
          refine thnF (pe.run _ s10 σ8 H10 _ I10 q10) fun z2 s11 h11 => ?_
          obtain ⟨yv, H11, I11, r11, q11⟩ := h11
          exact setT_ok (X := X.blk s3 H3 scope ce fp) hu I11 q11 r10 r11 fun H12 s12 I12 nx => fin I12 nx
    exact codeAny_compStart_dict loop (T.self X.A 0 _ _ _ st4 loop)
  subst hcl
  exact goal
end

/-! ### {k: v}, one pair, the key a tuple -/
def tDispT1 (tk tv : TE) : TE := fun σ H Q => ∀ p, H p = none → tk σ (upd H p (.dT [])) fun y H1 => tv σ H1 fun z H2 => ∃ (k : List Key) (b : Addr), y = .ref b ∧ H2 b = some (.tup (k.map kV)) ∧ H2 p = some (.dT []) ∧ Q (.ref p) (upd H2 p (.dT [(k, z)]))
theorem pe_dispT1 {X : Cx} {kx vx : Expr} {pos : Pos} {tk tv : TE} (hu : X.A.units + 1 < cLine) (hk : PE X kx tk) (hv : PE X vx tv) : PE X (.Dict [some kx] [vx] pos) (tDispT1 tk tv) := by
  refine ⟨fun pins s σ H Q I q => ?_⟩
  have hn := I.hok.fresh (Nat.le_refl s.heap.objs.size)
  have I1 := I.laid (a := s.heap.objs.size) (o := .dT []) (h' := s.heap.push { cls := .type "dict", data := .dict #[] }) (t' := s.toks) (fun _ _ q => Heap.get?_push_of_some _ q) (Nat.le_refl _) (dt_empty s.heap I.big)
  rw [arm_eval_Dict, zip_pairTrees [some kx] [vx] X.env pos rfl rfl, dictDisplay_pairs (pairTrees [some kx] [vx] X.env pos) (fun z => nomatch z) (by show 1 < 17; decide)]
  refine wpAny_bind (wpAny_standAt (wpAny_bind (wpAny_subDictH (knd := tupleKind (mixKind X.prog X.w)) (Q := fun d s' => wpAny (model X.prog X.w) X.A (pure (Value.ref d)) (EP X pins σ Q) X.xe s') (Nat.lt_of_le_of_lt (Nat.le_succ _) hu) (by show 1 ≤ 15; decide) ?_)))
  refine pairTrees_cons_walk (thn (hk.run pins _ σ _ _ I1 (q _ hn)) fun u s2 h2 => ?_)
  obtain ⟨y, H2, I2, r2, q2⟩ := h2
  refine thn (hv.run pins _ σ _ _ I2 q2) fun u2 s3 h3 => pairTrees_nil_walk ?_
  obtain ⟨z, H3, I3, r3, k, b, rfl, eb, ep, q3⟩ := h3
  obtain rfl : u = Value.ref b := r2
  obtain ⟨_, hd, xs, rel, dd⟩ := dt_of I3.hok ep
  cases rel
  refine ⟨[(k, b, u2)], ⟨rfl, rfl, key_of I3.hok eb, trivial⟩, dd, fun h1 tk d1 hs => wpAny_pure ⟨.ref s.heap.objs.size, _, ?_, rfl, q3⟩⟩
  obtain ⟨o, es, e2, hq1, h2, h3, h4, _, h5⟩ := d1
  refine d_write I3 (by rw [ep]; trivial) hs ⟨o, hq1⟩ ⟨Nat.le_trans (by decide : 1 ≤ 16777216) (Nat.le_of_eq sizeLine_eq.symm), hd, [(k, b, u2)], .cons ⟨rfl, ?_, r3⟩ .nil, o, es, e2, hq1, h2, h3, h4, h5⟩
  rw [upd_ne (ne_of eb ep (fun z => nomatch z))]
  exact eb
end K87
namespace K87
open PySem PySem.Spec PyProof.Rows L2

/-! ### d == {} -/
def rEqE : R2 := fun x y H Q => ∃ (a b : Addr) (ks : List (Key × V)), x = .ref a ∧ y = .ref b ∧ H a = some (.dK ks) ∧ H b = some (.dK []) ∧ Q (.bl ks.isEmpty) H
theorem op_eqE {X : Cx} (hu : X.A.units < cLine) : OpR X (compareOp .Eq) rEqE := by
  intro pins s σ H x y v u Q I rx ry h
  obtain ⟨a, b, ks, rfl, rfl, ea, eb, q⟩ := h
  obtain rfl : v = Value.ref a := rx
  obtain rfl : u = Value.ref b := ry
  obtain ⟨_, ya, va, ra, da⟩ := dk_of I.hok ea
  obtain ⟨_, yb, vb, rb, db⟩ := dk_of I.hok eb
  cases rb
  refine PySem.W.keq_eq (knd := mixKind X.prog X.w) (r := true) ya yb da db hu (fun hl => ?_) ?_
  · obtain rfl : va = [] := List.eq_nil_of_length_eq_zero hl
    exact .nil
  · refine fin_bl I q ?_
    rw [Bool.and_true, ← ra.length]
    cases ks <;> rfl

/-! ### list(d.values()), tuple keys -/
section
variable {prog : Program} {w : World} {r d : Addr} {es : Array DictEntry} {ep : Nat}
theorem kdl_rawV : PySem.W.KdlSrc prog w "dict_values" r d es.size (fun i v => ∃ hi : i < es.size, v = es[i].val) (fun h => h.IsValuesView r d ∧ h.DictRaw d es ep) where
  type := fun _ hm => hm.1.typeIs
  there := fun _ hm => by
    obtain ⟨⟨_, h1, _⟩, _, h2, _⟩ := hm
    exact ⟨Heap.lt_size h1, Heap.lt_size h2⟩
  keep := fun _ _ hm hk => by
    obtain ⟨⟨o1, h1, x1⟩, o2, h2, x2⟩ := hm
    exact ⟨⟨o1, hk r (.inl rfl) o1 h1, x1⟩, o2, hk d (.inr rfl) o2 h2, x2⟩
  notList := by decide
  notTuple := by decide
  hint := fun _ _ _ _ hm hq => PySem.W.kdl_hint_values hm.1.typeIs hq
  iter := fun _ s hh hm => by
    have hlt : d < s.heap.objs.size := by
      obtain ⟨_, _, h2, _⟩ := hm
      exact Heap.lt_size h2
    exact ⟨_, _, (fun _ _ hq => wpAny_pyIter_values_raw hm.1 hm.2 hq), Walks.rawValues hh _ d (Nat.ne_of_lt hlt) es ep,
      ⟨⟨_, Heap.get?_push_size _ rfl, rfl, rfl⟩, hm.2.at fun o e => Heap.get?_push_of_some _ e⟩⟩
end
/-- the view d.values() at p -/
def valsO (p d : Addr) : HO := .ext fun h => h.IsValuesView p d
section
variable {X : Cx}
def rValuesT : V → List V → Hp → VK → Prop := fun x xs H Q => ∃ (a : Addr) (kvs : List (List Key × V)), x = .ref a ∧ xs = [] ∧ H a = some (.dT kvs) ∧ ∀ p, H p = none → Q (.ref p) (upd H p (valsO p a))
theorem mt_valuesT : MtR X "dict.values" rValuesT := by
  intro pins s σ H x xs v us Q I rx rxs h
  obtain ⟨a, kvs, rfl, rfl, ha, q⟩ := h
  cases rx
  cases rxs
  obtain ⟨z, hd, xs', rel, o, es, ep, ho, hx, hdat, _⟩ := dt_of I.hok ha
  refine call_meetsIn PySem.F.slot_dict_values ⟨o, ho, hx.1⟩ PySem.F.entry_dict_values (PySem.F.args_dict_values_1 _) (meets_dict_values_raw a hd) ⟨⟨es, ep, o, ho, hx, hdat⟩, ?_⟩
  have hp : (s.heap.push { cls := .type "dict_values", data := .fields #[.ref a] }).get? s.heap.objs.size = some { cls := .type "dict_values", data := .fields #[.ref a] } := Heap.get?_push_size _ rfl
  refine ⟨.ref s.heap.objs.size, _, I.laid (t' := s.toks) (o := valsO s.heap.objs.size a) (fun b u e => Heap.get?_push_of_some _ e) (Nat.le_refl _) ⟨⟨_, hp, rfl, rfl⟩, ⟨_, hp⟩, ?_⟩, rfl, q _ (I.hok.fresh (Nat.le_refl _))⟩
  rintro h1 h2 ⟨o1, e1, x1⟩ k
  exact ⟨o1, k _ e1, x1⟩
theorem call_list_valsT (hc : X.calm = true) : CallR X (.type "list") (fun xs H Q => ∃ (p d : Addr) (kvs : List (List Key × V)), xs = [V.ref p] ∧ H p = some (valsO p d) ∧ H d = some (.dT kvs) ∧
    ∀ q, H q = none → Q (.ref q) (upd H q (.lst (kvs.map (·.2))))) := by
  intro pins s σ H xs us Q I r h
  obtain ⟨p, d, kvs, rfl, hp, hd, q⟩ := h
  obtain ⟨u, rfl, rx⟩ := r.one
  cases rx
  obtain ⟨hv, _, _⟩ := I.hok p _ hp
  obtain ⟨z, hs, ks, pr, o, es, ep, ho, hx, hdt, he, hn⟩ := I.hok d _ hd
  have l1 : es.size = ks.length := size_of_entries he
  have l2 : kvs.length = ks.length := Paired.length pr
  refine PySem.W.kdl_call (kdl_rawV (r := p) (d := d) (es := es) (ep := ep)) (I.ok.hd hc) ⟨hv, o, ho, hx, hdt⟩ (by omega) fun h1 tk acc c kp e it => ?_
  have al : acc.toList.length = es.size := by rw [Array.length_toList, it.1]
  have rv : Vals (kvs.map (·.2)) acc.toList := by
    refine vals_of_at (by rw [List.length_map, al, l1, l2]) fun j x u hj hu => ?_
    rw [List.getElem?_map] at hj
    obtain ⟨⟨k, v⟩, hk, rfl⟩ : ∃ kv, kvs[j]? = some kv ∧ kv.2 = x := by
      cases e : kvs[j]? with
      | none =>
        rw [e] at hj
        cases hj
      | some kv =>
        rw [e] at hj
        exact ⟨kv, rfl, Option.some.inj hj⟩
    obtain ⟨b, hb, _, _, e3⟩ := L2.paired_get pr hk
    obtain ⟨hi, rfl⟩ := it.2 j u (by rw [← Array.getElem?_toList]; exact hu)
    have qe := entry_at he j
    rw [hb, Array.getElem?_eq_getElem hi] at qe
    rw [Option.some.inj qe]
    exact e3
  have hz : (kvs.map (·.2)).length ≤ sizeLine := by
    rw [List.length_map]
    omega
  exact ⟨.ref s.heap.objs.size, _, I.laid (t' := tk) (o := .lst (kvs.map (·.2))) kp (Nat.le_refl _) ⟨hz, acc.toList, c, rv, by rw [Array.toArray_toList]; exact e⟩, rfl, q _ (I.hok.fresh (Nat.le_refl _))⟩
end

/-! ### sorted: tuples of ints, any number of them -/
def encR (r : Row) : PyData := .tuple (r.map .int)
theorem dataLe_R : PySem.W.dataLe false encR = leR := PySem.W.dataLe_rows fun r : Row => r
theorem perm_short {α : Type} {l m : List α} (h : l.Perm m) (hm : m.length ≤ 1) : l = m := by
  match m, hm, h with
  | [], _, h => exact List.Perm.eq_nil h
  | [a], _, h => exact List.perm_singleton.mp h
theorem readsAll_ints {h : Heap} : ∀ {r : Row} {us : List Value}, Vals (r.map V.int) us → ReadsAll h us (r.map .int) []
  | [], us, v => by
    cases v
    exact .nil
  | x :: r, us, v => by
    cases v with
    | cons r1 r2 =>
      obtain ⟨t, rfl⟩ := r1
      exact .cons (as := []) (bs := []) (.int x t) (readsAll_ints r2)
section
variable {X : Cx} {pins : List (Addr × Obj)} {σ : L2.St} {H : Hp} {s : Shared}
theorem reads_row (I : Inv X pins σ H s) {t : Addr} {r : Row} (h : SqT X.K H t (r.map V.int)) : Reads s.heap (.ref t) (encR r) [] := by
  obtain ⟨its, rv, ⟨o, ho, hc, n, hd⟩, _⟩ := I.tuple h
  exact .tuple ho hc hd (readsAll_ints rv)
end
/-- the values vs are the tuples at ts, of which T says that they are the rows rs -/
abbrev RowsAt (T : Addr → Row → Prop) : List Value → List Row → Prop := PySem.W.EachIs fun v r => ∃ t, v = .ref t ∧ T t r
theorem rowsAt_of {T : Addr → Row → Prop} : ∀ {ts : List Addr} {rs : List Row}, Paired T ts rs → RowsAt T (ts.map Value.ref) rs
  | _, _, .nil => .nil
  | _, _, .cons h t => .cons ⟨_, rfl, h⟩ (rowsAt_of t)
theorem rowsAt_to {T : Addr → Row → Prop} : ∀ {vs : List Value} {rs : List Row}, RowsAt T vs rs → ∃ ts, vs = ts.map Value.ref ∧ Paired T ts rs
  | _, _, .nil => ⟨[], rfl, .nil⟩
  | _, _, .cons ⟨t, e, h⟩ r => by
    obtain ⟨ts, rfl, p⟩ := rowsAt_to r
    exact ⟨t :: ts, by rw [e]; rfl, .cons h p⟩
theorem swo_none : SrtO.Swo (fun _ _ : Value => false) := ⟨fun _ _ h => (nomatch h), fun _ _ _ _ _ => rfl⟩
theorem depth_encR (r : Row) : (encR r).depth = 1 := by
  show PyData.depthAll (r.map .int) + 1 = 1
  rw [PySem.W.depth_ints]
theorem alike_encR (p q : Row) : PySem.W.alike (encR p) (encR q) = true := by
  unfold encR PySem.W.alike
  exact PySem.W.alike_ints p q
theorem sortable_encR {rs : List Row} (h : ∀ r ∈ rs, r ≠ []) : PySem.W.Sortable (rs.map encR) := .inl fun d hd => by
  obtain ⟨r, hr, rfl⟩ := List.mem_map.mp hd
  cases r with
  | nil => exact absurd rfl (h _ hr)
  | cons x r => exact ⟨_, _, rfl⟩
theorem rowsAt_short {T : Addr → Row → Prop} {vs out : List Value} {rs : List Row} (e : RowsAt T vs rs) (hk : rs.length ≤ 1) (hp : out.Perm vs) : RowsAt T out (sortR rs) := by
  rw [perm_short (sortR_perm rs) hk, perm_short hp (by rw [PySem.W.EachIs.length e]; exact hk)]
  exact e
section
variable {prog : Program} {w : World} {A : Around} {E : Value → Shared → Prop} {s : Shared} {vs : List Value} {rs : List Row} {T : Addr → Row → Prop}
/-- list.sort() of rows -/
theorem sort_rows {L : Addr} {n : Nat} {Q : Value → Shared → Prop} (ho : s.heap.get? L = some (seqObj "list" vs.toArray n)) (e : RowsAt T vs rs) (er : ∀ t r, T t r → Reads s.heap (.ref t) (encR r) [])
    (hk : (∀ r ∈ rs, r ≠ []) ∨ rs.length ≤ 1) (hL : rs.length ≤ sizeLine) (hu : A.units + 64 < cLine)
    (h : ∀ out, out.length = rs.length → RowsAt T out (sortR rs) → Q .none { s with heap := sortedHeap s.heap L vs out.toArray }) : wpAny (model prog w) A (call (.builtin "list.sort") [.ref L]) Q E s := by
  have el := PySem.W.EachIs.length e
  rcases hk with hk | hk
  · refine PySem.W.list_sort_data (enc := encR) ho e (e.mono fun v r ⟨t, ev, ht⟩ => ⟨[], by rw [ev]; exact er t r ht, List.not_mem_nil⟩) (PySem.W.AllAlike.of alike_encR) (sortable_encR hk) hL (fun r _ => by rw [depth_encR]; omega) fun out hl ho' => h out hl ?_
    rw [dataLe_R] at ho'
    exact ho'
  · refine wpAny_call_entry slot_list_sort ⟨_, ho, rfl⟩ entry_list_sort (SrtO.list_sort_ord swo_none ho (by omega) (fun h2 => absurd h2 (by omega)) fun out _ h2 => ⟨.none, rfl, ?_⟩) (args_list_sort _)
    exact h out (h2.perm.length_eq.trans el) (rowsAt_short e hk h2.perm)
/-- sorted(xs) of a list of rows -/
theorem sorted_rows {l : Addr} {Q : Value → Shared → Prop} (hl : s.heap.IsList l vs.toArray) (e : RowsAt T vs rs) (er : ∀ t r, T t r → Reads s.heap (.ref t) (encR r) [])
    (hk : (∀ r ∈ rs, r ≠ []) ∨ rs.length ≤ 1) (hL : rs.length ≤ sizeLine) (hu : A.units + 64 < cLine)
    (h : ∀ out, out.length = rs.length → RowsAt T out (sortR rs) → Q (.ref (s.heap.objs.size + 1)) { s with heap := sortedAll s.heap vs out.toArray }) : wpAny (model prog w) A (call (.builtin "sorted") [.ref l]) Q E s := by
  have el := PySem.W.EachIs.length e
  rcases hk with hk | hk
  · refine PySem.W.sorted_data (enc := encR) hl e (e.mono fun v r ⟨t, ev, ht⟩ => ⟨[], by rw [ev]; exact er t r ht⟩) (PySem.W.AllAlike.of alike_encR) (sortable_encR hk) hL (fun r _ => by rw [depth_encR]; omega) fun out hl2 ho' => h out hl2 ?_
    rw [dataLe_R] at ho'
    exact ho'
  · refine SrtO.sorted_ord swo_none hl (by omega) (fun h2 => absurd h2 (by omega)) fun out _ h2 => ?_
    exact h out (h2.perm.length_eq.trans el) (rowsAt_short e hk h2.perm)
end
section
variable {X : Cx}
/-- T: what is known of a row's tuple -/
def rSortT (K : PySem.W.Frag) : List V → Hp → VK → Prop := fun xs H Q => ∃ (a : Addr) (ts : List Addr) (rs : List Row) (T : Addr → Row → Prop), xs = [V.ref a] ∧ SqL K H a (ts.map V.ref) ∧ Paired T ts rs ∧ (∀ t r, T t r → SqT K H t (r.map V.int)) ∧
  ((∀ r ∈ rs, r ≠ []) ∨ rs.length ≤ 1) ∧ ∀ (us : List Addr) (p : Addr), Paired T us (sortR rs) → H p = none → Q (.ref p) (upd H p (.lst (us.map V.ref)))
theorem refs_vals (us : List Addr) : Vals (us.map V.ref) (us.map Value.ref) := L2.vals_refs us
theorem cr_sortT (hu : X.A.units + 64 < cLine) : CallR X (.builtin "sorted") (rSortT X.K) := by
  intro pins s σ H xs us Q I r h
  obtain ⟨a, ts, rs, T, rfl, hs, pt, hT, hk, q⟩ := h
  obtain ⟨its, rv, hl, hz⟩ := I.list hs
  rw [Vals.ref1 r]
  obtain rfl := refs_at rv
  have e := rowsAt_of pt
  have el := PySem.W.EachIs.length e
  rw [List.length_map] at hz el
  refine sorted_rows hl.isList e (fun t r ht => reads_row I (hT t r ht)) hk (by omega) hu fun out ho eo => ?_
  obtain ⟨vs, rfl, pv⟩ := rowsAt_to eo
  obtain ⟨ep, he⟩ := sortedAll_at s.heap (ts.map Value.ref) (vs.map Value.ref).toArray
  rw [List.length_map] at ho
  exact ⟨.ref _, _, I.laid (t' := s.toks) (o := .lst (vs.map V.ref)) (fun _ _ => sortedAll_old) (Nat.le_succ _) ⟨by rw [List.length_map]; omega, _, ep, refs_vals vs, he⟩, rfl, q vs _ pv (I.hok.fresh (Nat.le_succ _))⟩
/-- sorted(d), d a dict whose keys are rows -/
def rSortD : List V → Hp → VK → Prop := fun xs H Q => ∃ (d : Addr) (kvs : List (List Key × V)) (rs : List Row), xs = [V.ref d] ∧ H d = some (.dT kvs) ∧ kvs.map (·.1) = rs.map (List.map Sum.inl) ∧
  ((∀ r ∈ rs, r ≠ []) ∨ rs.length ≤ 1) ∧ ∀ (us : List Addr) (p : Addr), Paired (fun t r => H t = some (.tup (r.map V.int))) us (sortR rs) → H p = none → Q (.ref p) (upd H p (.lst (us.map V.ref)))
theorem key_row (r : Row) : (r.map (Sum.inl : Int → Key)).map kV = r.map V.int := by
  rw [List.map_map]
  rfl
theorem keys_rows {H : Hp} : ∀ {kvs : List (List Key × V)} {bs : List Addr} {rs : List Row}, IsKeys H kvs bs → kvs.map (·.1) = rs.map (List.map Sum.inl) → Paired (fun t r => H t = some (.tup (r.map V.int))) bs rs
  | _, _, [], .nil, _ => .nil
  | _, _, [], .cons _ _, e => by cases e
  | _, _, r :: rs, .nil, e => by cases e
  | _, _, r :: rs, .cons h t, e => by
    injection e with e1 e2
    refine .cons ?_ (keys_rows t e2)
    dsimp only at e1
    rw [h, e1, key_row]
theorem cr_sortD (hc : X.calm = true) (hu : X.A.units + 65 < cLine) : CallR X (.builtin "sorted") rSortD := by
  intro pins s σ H xs us Q I r h
  obtain ⟨d, kvs, rs, rfl, hd, hks, hk, q⟩ := h
  obtain ⟨u, rfl, rx⟩ := r.one
  cases rx
  obtain ⟨z, hs, ks, pr, o, es, ep, ho, hx, hdt, he, hn⟩ := I.hok d _ hd
  have l1 : es.size = ks.length := size_of_entries he
  have l2 : kvs.length = ks.length := Paired.length pr
  refine Calls.call_function_entry kind_sorted plain_sorted entry_sorted (args_sorted1 _) ?_
  unfold Builtin.«sorted»
  refine wpAny_bind (m := checkCount "sorted" 1 1 _) (wpAny_pure ?_)
  refine wpAny_bind (PySem.W.kdu_collect (A := X.A.in1) (kdl_raw hs hx hdt) (I.ok.hd hc) ho (by omega) fun h1 tk acc kp it => ?_)
  have ea : acc.toList = (ks.map fun x => x.2.1).map Value.ref := by
    refine List.ext_getElem? fun j => ?_
    rw [List.map_map, List.getElem?_map]
    have qe := entry_at he j
    cases hj : acc.toList[j]? with
    | none =>
      have h1 := List.getElem?_eq_none_iff.mp hj
      rw [Array.length_toList, it.1] at h1
      rw [List.getElem?_eq_none (by omega)]
      rfl
    | some v =>
      obtain ⟨en, hen, rfl⟩ := it.2 j v (by rw [← Array.getElem?_toList]; exact hj)
      rw [hen] at qe
      cases hb : ks[j]? with
      | none =>
        rw [hb] at qe
        cases qe
      | some b =>
        rw [hb] at qe
        rw [Option.some.inj qe]
        rfl
  have I1 : Inv X pins σ H { s with heap := h1, toks := tk } := I.kept kp
  have pk := keys_rows (isKeys_of pr) hks
  have e := rowsAt_of pk
  have el := PySem.W.EachIs.length e
  rw [← ea, Array.length_toList, it.1] at el
  refine wpAny_bind (wpAny_newList ?_ (by rw [Array.length_toList, it.1]; omega))
  have hoL : (h1.push (seqObj "list" acc.toList.toArray 0)).get? h1.objs.size = some (seqObj "list" acc.toList.toArray 0) := Heap.get?_push_size _ rfl
  have I2 : Inv X pins σ H { s with heap := h1.push (seqObj "list" acc.toList.toArray 0), toks := tk } := I1.kept fun b u e => Heap.get?_push_of_some _ e
  show wpAny _ _ _ _ _ { s with heap := h1.push (seqObj "list" acc.toList.toArray 0), toks := tk }
  refine wpAny_bind (wpAny_holding (sort_rows (s := { s with heap := h1.push (seqObj "list" acc.toList.toArray 0), toks := tk }) (T := fun t r => H t = some (.tup (r.map V.int))) (rs := rs) hoL (by rw [ea]; exact e)
    (fun t r ht => reads_row I2 (SqT.of ht)) hk (by omega) (by show X.A.units + 1 + 64 < cLine; omega) fun out hl eo => ?_))
  obtain ⟨vs, rfl, pv⟩ := rowsAt_to eo
  obtain ⟨e2, he2⟩ := sortedHeap_at (vs := acc.toList) (out := (vs.map Value.ref).toArray) hoL
  rw [List.length_map] at hl
  refine wpAny_pure ⟨_, rfl, .ref h1.objs.size, _, I1.laid (t' := tk) (o := .lst (vs.map V.ref)) (fun b u e => ?_) (Nat.le_refl _) ⟨by rw [List.length_map]; omega, _, e2, refs_vals vs, he2⟩, rfl, q vs _ pv (I1.hok.fresh (Nat.le_refl _))⟩
  have hb : b < h1.objs.size := Heap.lt_size e
  rw [sortedHeap_old (Nat.ne_of_lt hb) (by rw [size_push']; exact Nat.lt_succ_of_lt hb)]
  exact Heap.get?_push_of_some _ e
end
end K87
/-! The text's defs, what stands in the heap, what each def promises -/
namespace K87
open PySem PySem.Spec PyProof.Rows L2

/-! ### the text -/
def topS (i : Nat) : Stmt := PySem.Challenge.pw_everlater_k87_whole_more_pairs_longer.main.body.getD i (.Pass ⟨0, 0, 0, 0⟩)
abbrev sLater : Stmt := topS 2
abbrev sLevels : Stmt := topS 3
abbrev sParts : Stmt := topS 4
abbrev sPeeled : Stmt := topS 5
abbrev sRounds : Stmt := topS 6
abbrev sBook : Stmt := topS 7
abbrev sServes : Stmt := topS 8
abbrev sReach : Stmt := topS 9
abbrev sMore : Stmt := topS 10
abbrev sGreat : Stmt := topS 11
abbrev sInit : Stmt := inClass (topS 12) 0
abbrev sHopeOf : Stmt := inClass (topS 12) 1
abbrev sHope : Stmt := topS 13
abbrev sLasts : Stmt := topS 14
abbrev sPot : Stmt := topS 16
abbrev sTake : Stmt := topS 17
abbrev sOf : Stmt := topS 18
abbrev sWeb : Stmt := topS 19
abbrev sCalled : Stmt := topS 20
abbrev sLed : Stmt := topS 21
abbrev sPaired : Stmt := topS 22
abbrev sWithout : Stmt := topS 23
abbrev sLonger : Stmt := topS 24
abbrev sRight : Stmt := topS 25
abbrev sLaw : Stmt := topS 26
/-- names of the built-ins that no name of the module hides -/
structure Blt (mg : Str → Option Value) : Prop where
  range : mg "range" = none
  list : mg "list" = none
  len : mg "len" = none
  max : mg "max" = none
  min : mg "min" = none
  sorted : mg "sorted" = none
  tuple : mg "tuple" = none
  abs : mg "abs" = none
  int : mg "int" = none
  all : mg "all" = none

/-! ### heaps -/
theorem same_upd {H : Hp} {p : Addr} {o : HO} (h : H p = none) : Same H (upd H p o) := fun b x e => by
  rw [upd_ne (ne_of_none e h)]
  exact e
theorem Same.put {H H' : Hp} {p : Addr} {o : HO} (s : Same H H') (h : H p = none) : Same H (upd H' p o) := fun b x e => by
  rw [upd_ne (ne_of_none e h)]
  exact s b x e
/-- all but what stands at p is as it was -/
def SameBut (p : Addr) (H H' : Hp) : Prop := ∀ b o, b ≠ p → H b = some o → H' b = some o
theorem SameBut.refl (p : Addr) (H : Hp) : SameBut p H H := fun _ _ _ h => h
theorem SameBut.trans {p : Addr} {H H1 H2 : Hp} (a : SameBut p H H1) (b : SameBut p H1 H2) : SameBut p H H2 := fun c o hc h => b c o hc (a c o hc h)
theorem SameBut.of {p : Addr} {H H' : Hp} (a : Same H H') : SameBut p H H' := fun c o _ h => a c o h
theorem SameBut.put {p q : Addr} {H H' : Hp} {o : HO} (s : SameBut p H H') (h : H q = none ∨ q = p) : SameBut p H (upd H' q o) := fun b x hb e => by
  rcases h with h | h
  · rw [upd_ne (ne_of_none e h)]
    exact s b x hb e
  · rw [upd_ne (h ▸ hb)]
    exact s b x hb e
/-- what was kept apart from a new p is kept -/
theorem SameBut.same {p : Addr} {H0 H H' : Hp} (s : SameBut p H H') (a : Same H0 H) (h : H0 p = none) : Same H0 H' := fun b o e => s b o (ne_of_none e h) (a b o e)

/-! ### what stands there -/
abbrev keyOf (r : Row) : List Key := r.map Sum.inl
def RowAt (H : Hp) (t : Addr) (r : Row) : Prop := H t = some (.tup (r.map V.int))
def PairAt (H : Hp) (t : Addr) (q : Int × Int) : Prop := H t = some (.tup [.int q.1, .int q.2])
def Lot.Fit (L : Lot) : Prop := L.Ok ∧ L.many ≤ 6 ∧ L.pairs.length ≤ 100
def LotAt (H : Hp) (v : V) (L : Lot) : Prop := L.Fit ∧ ∃ (a p : Addr) (ts : List Addr), v = .ref a ∧ H a = some (.tup [.int (L.many : Int), .ref p]) ∧ H p = some (.tup (ts.map V.ref)) ∧ Paired (PairAt H) ts L.pairs
/-- a tuple of rows -/
def BookAt (H : Hp) (v : V) (rs : List Row) : Prop := ∃ (a : Addr) (ts : List Addr), v = .ref a ∧ H a = some (.tup (ts.map V.ref)) ∧ Paired (RowAt H) ts rs
/-- some rows, each with the list of the marks above -/
def Part (H : Hp) (e : Addr) (L : Lot) (rs : List Row) : Prop := ∃ mf : Row → Addr, H e = some (.dT (rs.map fun r => (keyOf r, V.ref (mf r)))) ∧ ∀ r ∈ rs, H (mf r) = some (.lst ((ab L r).map V.int))
abbrev LevelAt (H : Hp) (e : Addr) (L : Lot) (k : Nat) : Prop := Part H e L (rowsOf L k)
/-- for each mark the later ones -/
def LaterAt (H : Hp) (p : Addr) (L : Lot) : Prop := ∃ ds : List Addr, H p = some (.lst (ds.map V.ref)) ∧ ds.length = L.many ∧
  ∀ (i : Nat) (d : Addr), ds[i]? = some d → ∃ kvs : List (Key × V), H d = some (.dK kvs) ∧ ∀ x : Int, (valV kvs (Sum.inl x)).isSome = decide ((x, (i : Int)) ∈ L.pairs)
/-- the round of a row, as a number -/
noncomputable def rnd (L : Lot) (r : Row) : Int := ((roundOf L r).getD 0 : Nat)
/-- what peeled tells of a level -/
def GoneAt (H : Hp) (p : Addr) (L : Lot) (k : Nat) : Prop := ∃ gs : List Row, gs.Nodup ∧ (∀ r, r ∈ gs ↔ r ∈ rowsOf L k ∧ roundOf L r ≠ none) ∧ H p = some (.dT (gs.map fun r => (keyOf r, V.int (rnd L r))))
def vO : Option Int → V
  | none => .non
  | some i => .int i
def TableAt (H : Hp) (d : Addr) (L : Lot) (n : Nat) : Prop := ∃ kvs : List (List Key × V), H d = some (.dT kvs) ∧ valV kvs [] = some (vO (hopeAt L (n - 1) []))
def PotAt (H : Hp) (p : Addr) (c : Nat) : Prop := ∃ a b n : Int, H p = some (.lst [.int a, .int b, .int n]) ∧ 0 ≤ n ∧ n ≤ (c : Int)
section
variable {H H' : Hp}
theorem RowAt.same {t : Addr} {r : Row} (h : RowAt H t r) (s : Same H H') : RowAt H' t r := s _ _ h
theorem paired_same {α β : Type} {F G : α → β → Prop} {l : List α} {m : List β} (h : Paired F l m) (k : ∀ a b, F a b → G a b) : Paired G l m := Paired.mapP h k
theorem LotAt.same {v : V} {L : Lot} (h : LotAt H v L) (s : Same H H') : LotAt H' v L := by
  obtain ⟨h0, a, p, ts, h1, h2, h3, h4⟩ := h
  exact ⟨h0, a, p, ts, h1, s _ _ h2, s _ _ h3, paired_same h4 fun _ _ e => s _ _ e⟩
theorem BookAt.same {v : V} {rs : List Row} (h : BookAt H v rs) (s : Same H H') : BookAt H' v rs := by
  obtain ⟨a, ts, h1, h2, h3⟩ := h
  exact ⟨a, ts, h1, s _ _ h2, paired_same h3 fun _ _ e => s _ _ e⟩
theorem Part.same {e : Addr} {L : Lot} {rs : List Row} (h : Part H e L rs) (s : Same H H') : Part H' e L rs := by
  obtain ⟨mf, h1, h2⟩ := h
  exact ⟨mf, s _ _ h1, fun r hr => s _ _ (h2 r hr)⟩
theorem LaterAt.same {p : Addr} {L : Lot} (h : LaterAt H p L) (s : Same H H') : LaterAt H' p L := by
  obtain ⟨ds, h1, h2, h3⟩ := h
  refine ⟨ds, s _ _ h1, h2, fun i d e => ?_⟩
  obtain ⟨kvs, g1, g2⟩ := h3 i d e
  exact ⟨kvs, s _ _ g1, g2⟩
theorem GoneAt.same {p : Addr} {L : Lot} {k : Nat} (h : GoneAt H p L k) (s : Same H H') : GoneAt H' p L k := by
  obtain ⟨gs, h1, h2, h3⟩ := h
  exact ⟨gs, h1, h2, s _ _ h3⟩
end
/-! ### small things -/
theorem map_get {α β : Type} {f : α → β} {l : List α} {i : Nat} {y : β} (h : (l.map f)[i]? = some y) : ∃ x, l[i]? = some x ∧ f x = y := by
  rw [List.getElem?_map] at h
  cases e : l[i]? with
  | none =>
    rw [e] at h
    cases h
  | some x =>
    rw [e] at h
    exact ⟨x, rfl, Option.some.inj h⟩
theorem paired_at {α β : Type} {F : α → β → Prop} {l : List α} {m : List β} (h : Paired F l m) {i : Nat} {a : α} (e : l[i]? = some a) : ∃ b, m[i]? = some b ∧ F a b := L2.paired_get h e
theorem paired_snoc {α β : Type} {F : α → β → Prop} : ∀ {l : List α} {m : List β} {a : α} {b : β}, Paired F l m → F a b → Paired F (l ++ [a]) (m ++ [b])
  | _, _, _, _, .nil, h => .cons h .nil
  | _, _, _, _, .cons g t, h => .cons g (paired_snoc t h)
theorem paired_take {α β : Type} {F : α → β → Prop} : ∀ {l : List α} {m : List β} (n : Nat), Paired F l m → Paired F (l.take n) (m.take n)
  | _, _, 0, _ => by
    rw [List.take_zero, List.take_zero]
    exact .nil
  | _, _, _ + 1, .nil => .nil
  | _, _, n + 1, .cons g t => .cons g (paired_take n t)
/-- sizeLine in numbers -/
theorem line_ge : 16777216 ≤ sizeLine := Nat.le_of_eq sizeLine_eq.symm

/-! ### dicts whose keys are rows -/
theorem keyOf_inj {a b : Row} (h : keyOf a = keyOf b) : a = b := by
  have h2 := congrArg (List.map kV) h
  rw [key_row, key_row] at h2
  exact List.map_inj_right (fun x y e => by injection e) |>.mp h2
theorem valV_rows {f : Row → V} {x : Row} : ∀ {rs : List Row}, valV (rs.map fun r => (keyOf r, f r)) (keyOf x) = if x ∈ rs then some (f x) else none
  | [] => rfl
  | r :: rs => by
    rw [List.map_cons]
    by_cases e : r = x
    · subst e
      rw [valV_pos rfl, if_pos List.mem_cons_self]
    · rw [valV_neg (show ¬ keyOf r = keyOf x from fun z => e (keyOf_inj z)), valV_rows]
      by_cases h : x ∈ rs
      · rw [if_pos h, if_pos (List.mem_cons_of_mem _ h)]
      · rw [if_neg h, if_neg]
        intro z
        rcases List.mem_cons.mp z with z | z
        · exact e z.symm
        · exact h z
theorem valV_rows_in {f : Row → V} {x : Row} {rs : List Row} (h : x ∈ rs) : valV (rs.map fun r => (keyOf r, f r)) (keyOf x) = some (f x) := by rw [valV_rows, if_pos h]
theorem valV_rows_out {f : Row → V} {x : Row} {rs : List Row} (h : x ∉ rs) : valV (rs.map fun r => (keyOf r, f r)) (keyOf x) = none := by rw [valV_rows, if_neg h]
/-- a new row's value, at the end -/
theorem put_rows {f : Row → V} {x : Row} {v : V} {rs : List Row} (h : x ∉ rs) : putK (rs.map fun r => (keyOf r, f r)) (keyOf x) v = (rs ++ [x]).map fun r => (keyOf r, if r = x then v else f r) := by
  rw [putK_new v (valV_rows_out h), List.map_append]
  congr 1
  · refine List.map_congr_left fun r hr => ?_
    rw [if_neg (show ¬ r = x from fun z => h (z ▸ hr))]
  · show [(keyOf x, v)] = [(keyOf x, if x = x then v else f x)]
    rw [if_pos rfl]
/-! ### the module's defs as they are called -/
structure Cl (P : Program) (w : World) (K : PySem.W.Frag) (mg : Str → Option Value) (base : Heap) (k : Nat) (x : Str) (ps : List Str) (sp : Sp) : Prop where
  ex : ∃ (f : Addr) (fd : FuncData), FnOk P w K mg base CX0 k f fd ps sp ∧ mg x = some (.ref f) ∧ PySem.W.keepIn K (.ref f) = true ∧ Binds K fd ps []
theorem pc {X : Cx} {k j : Nat} {x : Str} {ps : List Str} {sp : Sp} {p pos : Pos} {e : Expr} {es : List Expr} {t : TA} (c : Cl X.prog X.w X.K X.mg X.base k x ps sp) (hr : Room j X.A) (hg : Gl X x) (ha : PA X (e :: es) t) (hk : k ≤ j := by decide)
    (hdb : (x == ("__debug__" : Str)) = false := by decide) (he : starEach (e :: es) X.env = (false, eval e X.env) :: starEach es X.env := by rfl) (hpl : (backTo pos (starEach es X.env)).any (·.1) = false := by rfl) :
    PE X (.Call (.Name x p) (e :: es) [] pos) (tCall sp [] E0 t) := by
  obtain ⟨f, fd, F, hm, kp, b⟩ := c.ex
  exact pe_call F (hr.mono hk) hg hm kp b .nil pass0 ha hdb he hpl
theorem Cl.of {P : Program} {w : World} {K : PySem.W.Frag} {mg : Str → Option Value} {base : Heap} {k : Nat} {x : Str} {ps : List Str} {sp : Sp} {st : Stmt} {f : Addr} {fd : FuncData} (F : Fun K x x st f fd) (ok : FnOk P w K mg base CX0 k f fd ps sp) (hm : mg x = some (.ref f)) (b : Binds K fd ps []) : Cl P w K mg base k x ps sp :=
  ⟨f, fd, ok, hm, F.kp, b⟩
/-! ### locked dicts -/
theorem same_unlock {H H' : Hp} {d : Addr} {od : Obj} {u : HO} (s : Same (upd H d (.frz od u)) H') (e : H d = some u) : Same H (upd H' d u) := fun b o h => by
  by_cases hb : b = d
  · subst hb
    rw [upd_same, ← e, h]
  · rw [upd_ne hb]
    exact s b o (by rw [upd_ne hb]; exact h)
theorem sameBut_unlock {p : Addr} {H H' : Hp} {d : Addr} {od : Obj} {u : HO} (s : SameBut p (upd H d (.frz od u)) H') (e : H d = some u) : SameBut p H (upd H' d u) := fun b o hp h => by
  by_cases hb : b = d
  · subst hb
    rw [upd_same, ← e, h]
  · rw [upd_ne hb]
    exact s b o hp (by rw [upd_ne hb]; exact h)
theorem atI_end {α : Type} {xs : List α} {n : Nat} {v : α} (hn : xs.length = n + 1) (h : xs[n]? = some v) : atI xs (-1) = some v := by
  unfold atI ixN
  rw [hn, if_neg (by decide), if_pos (by omega)]
  show xs[((-1 : Int) + ((n + 1 : Nat) : Int)).toNat]? = some v
  rw [show ((-1 : Int) + ((n + 1 : Nat) : Int)).toNat = n by omega]
  exact h
theorem ref_int {es : List Addr} {ns : List Int} (h : es.map V.ref = ns.map V.int) : es = [] := by
  cases es with
  | nil => rfl
  | cons e es =>
    cases ns with
    | nil => cases h
    | cons n ns =>
      injection h with h _
      cases h
end K87
namespace K87
open PySem PySem.Spec PyProof.Rows L2
section
variable {P : Program} {w : World} {K : PySem.W.Frag} {mg : Str → Option Value} {base : Heap}
theorem scLater : FnScope ["lot", "found", "later", "earlier", "mark"] ["lot"] (defScope sLater) := ⟨rfl, rfl, rfl, by decide +kernel, rfl, by decide +kernel, by decide +kernel⟩
def spLater : Sp := fun vs H Q _ => ∃ (v : V) (L : Lot), vs = [v] ∧ LotAt H v L ∧ ∀ H' p, Same H H' → LaterAt H' p L → Q (.ref p) H'
theorem ok_later {f : Addr} {fd : FuncData} {k : Nat} (F : Fun K "later_than" "later_than" sLater f fd) (B : Blt mg) : FnOk P w K mg base CX0 (k + 1) f fd ["lot"] spLater := by
  refine F.ok scLater (fun vs H Q E h => ?_) (fun cdv A outer s H vs Q E hr h => ?_)
  · obtain ⟨v, L, rfl, _⟩ := h
    rfl
  · obtain ⟨v, L, rfl, hL, q⟩ := h
    have hu := hu_of hr
    refine ⟨_, pss_cons (ps_setLc (i := 1) (own := [("mark", 4)]) (g := gName 4) (tt := tYes) rfl scLater.nd rfl rfl (sw_true rfl rfl rfl (by decide +kernel))
        (pi_range1 (by rfl) B.range (pa_cons (pe_ix ix_tup (pv 0) pe_int (fun _ _ => rfl)) pa_nil)) (blkOk_by (N := ["lot", "found", "later", "earlier", "mark"]) (sc := defScope sLater) (by decide +kernel))
        (fun _ _ _ _ _ => pg_name (i := 4) scLater.nd rfl (Or.inl rfl)) (fun _ _ _ _ _ => pts_nil) (fun _ _ _ _ _ => pe_dnewK))
      (pss_cons (ps_for PassesOwn.never rfl (pi_tup (pe_ix ix_tup (pv 0) pe_int (fun _ _ => rfl)))
          (pg_tup rfl (pgs_cons (pg_name (i := 2) scLater.nd rfl (.inl rfl)) (pgs_cons (pg_name (i := 3) scLater.nd rfl (.inl rfl)) pgs_nil)))
          (pss_one (ps_dput hu (pe_ix ix_list (pv 1) (pv 3) (fun _ _ => rfl)) (pv 2) pe_bl rfl)))
      (pss_one (ps_ret (pv 1)))), ?_⟩
    obtain ⟨⟨hok, hm, hpl⟩, a, p, ts, rfl, ha, hp, hts⟩ := id hL
    -- found = [{} for mark in range(lot[0])]
    refine ⟨_, rfl, a, _, 0, _, rfl, rfl, SqT.of ha, atI_nat (j := 0) rfl, (L.many : Int), rfl, by omega, by omega, fun D nD => ?_⟩
    refine lc_range (lo := 0) (n := ((L.many : Int)).toNat) (fun i H2 => ∃ ds : List Addr, ds.length = i ∧ ds.Nodup ∧ Same H H2 ∧ H2 D = some (.lst (ds.map V.ref)) ∧ ∀ d ∈ ds, H d = none ∧ H2 d = some (.dK []))
      ⟨[], rfl, List.nodup_nil, same_upd nD, upd_same, fun d hd => nomatch hd⟩ ?_ ?_
    · rintro i H2 hi ⟨ds, hl, nd, sm, hD, hds⟩
      refine ⟨rfl, fun d nd2 => ?_⟩
      have neD : D ≠ d := ne_of_none hD nd2
      have nin : d ∉ ds := fun hd => by
        rw [(hds d hd).2] at nd2
        cases nd2
      refine ⟨_, (upd_ne neD).trans hD, ?_, ds ++ [d], ?_, ?_, ?_, ?_, ?_⟩
      · rw [List.length_map]
        have := line_ge
        omega
      · rw [List.length_append, hl]
        rfl
      · exact nd_snoc nd nin
      · exact Same.put (Same.put sm (Same.free sm nd2)) nD
      · rw [upd_same, List.map_append]
        rfl
      · intro e he
        have neDe : e ≠ D := by
          rintro rfl
          rcases List.mem_append.mp he with he | he
          · have := (hds _ he).2
            rw [hD] at this
            cases this
          · exact neD (List.mem_singleton.mp he)
        rw [upd_ne neDe]
        rcases List.mem_append.mp he with he | he
        · have hne : e ≠ d := fun z => nin (z ▸ he)
          rw [upd_ne hne]
          exact hds e he
        · obtain rfl := List.mem_singleton.mp he
          exact ⟨Same.free sm nd2, upd_same⟩
    · rintro H2 ⟨ds, hl, nd, sm, hD, hds⟩
      have hlen : ds.length = L.many := by omega
      -- for later, earlier in lot[1]
      refine ⟨_, rfl, a, _, 1, _, rfl, rfl, SqT.of (sm _ _ ha), atI_nat (j := 1) rfl, p, rfl, ⟨_, SqT.of (sm _ _ hp)⟩, ?_⟩
      refine for_tup (K := K) (a := p) (xs := ts.map V.ref) (fun i σ H3 => ∃ x2 x3, σ = [some (.ref a), some (.ref D), x2, x3, none] ∧ Same H H3 ∧ H3 D = some (.lst (ds.map V.ref)) ∧
          ∀ (j : Nat) (d : Addr), ds[j]? = some d → ∃ kvs : List (Key × V), H3 d = some (.dK kvs) ∧ kvs.length ≤ i ∧ ∀ x : Int, (valV kvs (Sum.inl x)).isSome = decide ((x, (j : Int)) ∈ L.pairs.take i))
        ⟨none, none, rfl, sm, hD, fun j d hj => ⟨[], (hds d (List.mem_of_getElem? hj)).2, Nat.le_refl _, fun x => by simp [valV_nil]⟩⟩
        (fun i σ H3 _ ⟨_, _, _, sm3, _⟩ => SqT.of (sm3 _ _ hp)) ?_ ?_
      · rintro i y σ H3 hi ⟨x2, x3, rfl, sm3, hD3, hd3⟩
        obtain ⟨t, ht, rfl⟩ := map_get hi
        obtain ⟨⟨x, y⟩, hxy, hpair⟩ := paired_at hts ht
        obtain ⟨⟨hx0, hx1⟩, hy0, hy1⟩ := hok x y (List.mem_of_getElem? hxy)
        -- later, earlier = the pair
        refine ⟨t, _, rfl, SqT.of (sm3 _ _ hpair), rfl, _, _, rfl, _, _, rfl, rfl, ?_⟩
        -- found[earlier][later] = True
        obtain ⟨j, rfl⟩ : ∃ j : Nat, y = (j : Int) := ⟨y.toNat, by omega⟩
        have hj : j < ds.length := by omega
        obtain ⟨kvs, hd, hkl, hk⟩ := hd3 j ds[j] (List.getElem?_eq_getElem hj)
        have hil : i < L.pairs.length := (List.getElem?_eq_some_iff.mp hxy).1
        refine ⟨_, rfl, _, rfl, D, _, _, _, rfl, rfl, SqL.of hD3, atI_nat (j := j) (by rw [List.getElem?_map, List.getElem?_eq_getElem hj]; rfl), _, rfl, ds[j], _, rfl, DPut.k (k := Sum.inl x) hd ?_, ?_⟩
        · have := line_ge
          omega
        · have nDj : D ≠ ds[j] := ne_of hD3 hd (fun z => nomatch z)
          have fj : H ds[j] = none := (hds _ (List.getElem_mem hj)).1
          refine ⟨_, _, rfl, Same.put sm3 fj, (upd_ne nDj).trans hD3, fun j2 d2 hj2 => ?_⟩
          have hz : ∀ x' : Int, decide ((x', (j2 : Int)) ∈ L.pairs.take (i + 1)) = (decide ((x', (j2 : Int)) ∈ L.pairs.take i) || decide (x' = x ∧ j2 = j)) := fun x' => by
            rw [List.take_add_one, hxy]
            rw [← Bool.decide_or]
            refine decide_eq_decide.mpr ?_
            rw [List.mem_append]
            refine or_congr_right ?_
            show (x', (j2 : Int)) ∈ [(x, (j : Int))] ↔ _
            rw [List.mem_singleton, Prod.mk.injEq]
            omega
          by_cases e : j2 = j
          · subst e
            rw [List.getElem?_eq_getElem hj] at hj2
            obtain rfl := Option.some.inj hj2
            refine ⟨_, upd_same, Nat.le_trans (length_putK _ _ _) (by omega), fun x' => ?_⟩
            rw [valV_put, hz, ← hk]
            by_cases ex : x' = x
            · subst ex
              simp
            · have : ¬ (Sum.inl x' : Key) = Sum.inl x := fun z => ex (Sum.inl.inj z)
              simp [this, ex]
          · have hne : d2 ≠ ds[j] := fun z => e (nd_ix nd (z ▸ hj2) (List.getElem?_eq_getElem hj))
            obtain ⟨kvs2, g1, g2, g3⟩ := hd3 j2 d2 hj2
            refine ⟨kvs2, (upd_ne hne).trans g1, by omega, fun x' => ?_⟩
            rw [g3, hz]
            simp [e]
      · rintro σ H3 ⟨x2, x3, rfl, sm3, hD3, hd3⟩
        refine ⟨_, rfl, q H3 D sm3 ⟨ds, hD3, hlen, fun j d hj => ?_⟩⟩
        obtain ⟨kvs, g1, _, g3⟩ := hd3 j d hj
        refine ⟨kvs, g1, fun x => ?_⟩
        rw [g3, List.length_map, List.take_of_length_le (Nat.le_of_eq (Paired.length hts).symm)]
end
end K87
/-! Loops over what K87's rules walk, by an invariant over the turn -/
namespace K87
open PySem PySem.Spec PyProof.Rows L2
theorem for_itemsT {d : Addr} {o : Obj} {kvs : List (List Key × V)} {g : TG} {tb : TS} {D : Ends} {σ : L2.St} {H : Hp} (Pv : Nat → L2.St → Hp → Prop) (h0 : Pv 0 σ H)
    (hl : ∀ i σ H, i ≤ kvs.length → Pv i σ H → H d = some (.frz o (.dT kvs)))
    (hs : ∀ i k v σ H T q, kvs[i]? = some (k, v) → Pv i σ H → H T = none → H q = some (.tup (k.map kV)) →
      g (.ref T) σ (upd H T (.tup [.ref q, v])) fun σ2 H2 => tb { D with nx := Pv (i + 1), ct := Pv (i + 1), bk := D.nx } σ2 H2)
    (hd : ∀ σ H, Pv kvs.length σ H → D.nx σ H) :
    ∃ W : Nat → Nat → L2.St → Hp → Prop, (∃ m, W 0 m σ H) ∧ ∀ i m σ H, W i m σ H → ((ItT d o kvs).stop i H ∧ D.nx σ H) ∨ ((ItT d o kvs).go i H ∧ ∃ N : L2.St → Hp → Prop,
      (∀ σ' H', N σ' H' → ∃ m', m' < m ∧ W (i + 1) m' σ' H') ∧ ∀ x H', (ItT d o kvs).yld i H x H' → g x σ H' fun σ2 H2 => tb { D with nx := N, ct := N, bk := D.nx } σ2 H2) := by
  refine ⟨fun i m σ H => i + m = kvs.length ∧ Pv i σ H, ⟨kvs.length, by omega, h0⟩, ?_⟩
  rintro i m σ H ⟨e, p⟩
  have hf := hl i σ H (by omega) p
  by_cases hi : i < kvs.length
  · refine .inr ⟨⟨hf, hi⟩, Pv (i + 1), fun σ' H' p' => ⟨m - 1, by omega, by omega, p'⟩, ?_⟩
    rintro x H' ⟨T, q, k, v, hk, rfl, nT, hq, rfl⟩
    exact hs i k v σ H T q hk p nT hq
  · obtain rfl : i = kvs.length := by omega
    exact .inl ⟨⟨hf, Nat.le_refl _⟩, hd σ H p⟩
theorem lc_keysT {d : Addr} {o : Obj} {kvs : List (List Key × V)} {g : TG} {tt : TT} {te : TE} {vs : List Nat} {σ : L2.St} {H1 : Hp} {D : Addr} {Qd : Hp → Prop} (Pv : Nat → Hp → Prop) (h0 : Pv 0 (upd H1 D (.lst [])))
    (hl : ∀ i H, i ≤ kvs.length → Pv i H → H d = some (.frz o (.dT kvs)))
    (hs : ∀ i k v H q, kvs[i]? = some (k, v) → Pv i H → H q = some (.tup (k.map kV)) → g (.ref q) (wipe σ vs) H fun σ2 H2 => wipe σ2 vs = wipe σ vs ∧ tt σ2 H2 fun b H3 =>
      if b = true then te σ2 H3 fun y H4 => ∃ acc, H4 D = some (.lst acc) ∧ acc.length < sizeLine ∧ Pv (i + 1) (upd H4 D (.lst (acc ++ [y]))) else Pv (i + 1) H3) (hd : ∀ H, Pv kvs.length H → Qd H) :
    ∃ W : Nat → Nat → Hp → Prop, (∃ m, W 0 m (upd H1 D (.lst []))) ∧ ∀ i m H, W i m H →
      ((Itkt d o kvs).stop i H ∧ Qd H) ∨ ((Itkt d o kvs).go i H ∧ ∃ Nx : Hp → Prop, (∀ H', Nx H' → ∃ m', m' < m ∧ W (i + 1) m' H') ∧ ∀ x H', (Itkt d o kvs).yld i H x H' → g x (wipe σ vs) H' fun σ2 H2 => wipe σ2 vs = wipe σ vs ∧ tt σ2 H2 fun b H3 =>
        if b = true then te σ2 H3 fun y H4 => ∃ acc, H4 D = some (.lst acc) ∧ acc.length < sizeLine ∧ Nx (upd H4 D (.lst (acc ++ [y]))) else Nx H3) := by
  refine ⟨fun i m H => i + m = kvs.length ∧ Pv i H, ⟨kvs.length, by omega, h0⟩, ?_⟩
  rintro i m H ⟨e, p⟩
  have hf := hl i H (by omega) p
  by_cases hi : i < kvs.length
  · refine .inr ⟨⟨hf, hi⟩, Pv (i + 1), fun H' p' => ⟨m - 1, by omega, by omega, p'⟩, ?_⟩
    rintro x H' ⟨rfl, k, v, q, hk, rfl, hq⟩
    exact hs i k v _ q hk p hq
  · obtain rfl : i = kvs.length := by omega
    exact .inl ⟨⟨hf, Nat.le_refl _⟩, hd H p⟩
theorem dcT_keysT {d : Addr} {o : Obj} {kvs : List (List Key × V)} {g : TG} {tt : TT} {tk tv : TE} {vs : List Nat} {σ : L2.St} {H1 : Hp} {D : Addr} {Qd : Hp → Prop} (Pv : Nat → Hp → Prop) (h0 : Pv 0 (upd H1 D (.dT [])))
    (hl : ∀ i H, i ≤ kvs.length → Pv i H → H d = some (.frz o (.dT kvs)))
    (hs : ∀ i k v H q, kvs[i]? = some (k, v) → Pv i H → H q = some (.tup (k.map kV)) → g (.ref q) (wipe σ vs) H fun σ2 H2 => wipe σ2 vs = wipe σ vs ∧ tt σ2 H2 fun b H3 =>
      if b = true then tk σ2 H3 fun y H4 => tv σ2 H4 fun z H5 => storesT D (Pv (i + 1)) y z H5 else Pv (i + 1) H3) (hd : ∀ H, Pv kvs.length H → Qd H) :
    ∃ W : Nat → Nat → Hp → Prop, (∃ m, W 0 m (upd H1 D (.dT []))) ∧ ∀ i m H, W i m H →
      ((Itkt d o kvs).stop i H ∧ Qd H) ∨ ((Itkt d o kvs).go i H ∧ ∃ Nx : Hp → Prop, (∀ H', Nx H' → ∃ m', m' < m ∧ W (i + 1) m' H') ∧ ∀ x H', (Itkt d o kvs).yld i H x H' → g x (wipe σ vs) H' fun σ2 H2 => wipe σ2 vs = wipe σ vs ∧ tt σ2 H2 fun b H3 =>
        if b = true then tk σ2 H3 fun y H4 => tv σ2 H4 fun z H5 => storesT D Nx y z H5 else Nx H3) := by
  refine ⟨fun i m H => i + m = kvs.length ∧ Pv i H, ⟨kvs.length, by omega, h0⟩, ?_⟩
  rintro i m H ⟨e, p⟩
  have hf := hl i H (by omega) p
  by_cases hi : i < kvs.length
  · refine .inr ⟨⟨hf, hi⟩, Pv (i + 1), fun H' p' => ⟨m - 1, by omega, by omega, p'⟩, ?_⟩
    rintro x H' ⟨rfl, k, v, q, hk, rfl, hq⟩
    exact hs i k v _ q hk p hq
  · obtain rfl : i = kvs.length := by omega
    exact .inl ⟨⟨hf, Nat.le_refl _⟩, hd H p⟩
/-- {k: v for x in a list that stays}, keys ints or texts -/
theorem dc_list {K : PySem.W.Frag} {a : Addr} {xs : List V} {g : TG} {tt : TT} {tk tv : TE} {vs : List Nat} {σ : L2.St} {H1 : Hp} {D : Addr} {Qd : Hp → Prop} (Pv : Nat → Hp → Prop) (h0 : Pv 0 (upd H1 D (.dK []))) (hl : ∀ i H, i ≤ xs.length → Pv i H → SqL K H a xs)
    (hs : ∀ i x H, xs[i]? = some x → Pv i H → g x (wipe σ vs) H fun σ2 H2 => wipe σ2 vs = wipe σ vs ∧ tt σ2 H2 fun b H3 =>
      if b = true then tk σ2 H3 fun y H4 => tv σ2 H4 fun z H5 => ∃ kvs k, y = kV k ∧ H5 D = some (.dK kvs) ∧ kvs.length < sizeLine ∧ Pv (i + 1) (upd H5 D (.dK (putK kvs k z))) else Pv (i + 1) H3) (hd : ∀ H, Pv xs.length H → Qd H) :
    ∃ W : Nat → Nat → Hp → Prop, (∃ m, W 0 m (upd H1 D (.dK []))) ∧ ∀ i m H, W i m H →
      ((Itl K a).stop i H ∧ Qd H) ∨ ((Itl K a).go i H ∧ ∃ Nx : Hp → Prop, (∀ H', Nx H' → ∃ m', m' < m ∧ W (i + 1) m' H') ∧ ∀ x H', (Itl K a).yld i H x H' → g x (wipe σ vs) H' fun σ2 H2 => wipe σ2 vs = wipe σ vs ∧ tt σ2 H2 fun b H3 =>
        if b = true then tk σ2 H3 fun y H4 => tv σ2 H4 fun z H5 => ∃ kvs k, y = kV k ∧ H5 D = some (.dK kvs) ∧ kvs.length < sizeLine ∧ Nx (upd H5 D (.dK (putK kvs k z))) else Nx H3) := by
  refine ⟨fun i m H => i + m = xs.length ∧ Pv i H, ⟨xs.length, by omega, h0⟩, ?_⟩
  rintro i m H ⟨e, p⟩
  have hf := hl i H (by omega) p
  by_cases hi : i < xs.length
  · refine .inr ⟨⟨xs, _, hf, List.getElem?_eq_getElem hi⟩, Pv (i + 1), fun H' p' => ⟨m - 1, by omega, by omega, p'⟩, ?_⟩
    rintro x H' ⟨rfl, hx⟩
    exact hs i x _ (hx xs hf) p
  · obtain rfl : i = xs.length := by omega
    exact .inl ⟨⟨xs, hf, Nat.le_refl _⟩, hd H p⟩
end K87
namespace K87
open PySem PySem.Spec PyProof.Rows L2
section
variable {P : Program} {w : World} {K : PySem.W.Frag} {mg : Str → Option Value} {base : Heap}
abbrev nLevels : List Str := ["lot", "most", "later", "found", "size", "here", "row", "marks", "mark", "other"]
theorem scLevels : FnScope nLevels ["lot", "most"] (defScope sLevels) := ⟨rfl, rfl, rfl, by decide +kernel, rfl, by decide +kernel, by decide +kernel⟩
/-- the dicts of the levels up to one -/
def LevelsAt (H : Hp) (p : Addr) (L : Lot) (n : Nat) : Prop := ∃ es : List Addr, H p = some (.lst (es.map V.ref)) ∧ es.length = n + 1 ∧ ∀ (j : Nat) (e : Addr), es[j]? = some e → LevelAt H e L j
theorem LevelsAt.same {H H' : Hp} {p : Addr} {L : Lot} {n : Nat} (h : LevelsAt H p L n) (s : Same H H') : LevelsAt H' p L n := by
  obtain ⟨es, h1, h2, h3⟩ := h
  exact ⟨es, s _ _ h1, h2, fun j e he => (h3 j e he).same s⟩
def spLevels : Sp := fun vs H Q _ => ∃ (v : V) (L : Lot) (n : Nat), vs = [v, .int (n : Int)] ∧ LotAt H v L ∧ n ≤ 4 ∧ ∀ H' p, Same H H' → LevelsAt H' p L n → Q (.ref p) H'
/-- where the next row stands: ahead of it these, and it is none of these -/
theorem row_new {L : Lot} {i j k : Nat} {r : Row} {m : Int} (hr : (rowsOf L i)[j]? = some r) (hm : (ab L r)[k]? = some m) :
    (r ++ [m]) ∉ ((rowsOf L i).take j).flatMap (more L) ++ ((ab L r).take k).map (fun x => r ++ [x]) := by
  have nd := rowsOf_nodup L (i + 1)
  have e1 : rowsOf L i = (rowsOf L i).take j ++ r :: (rowsOf L i).drop (j + 1) := by
    have hj := (List.getElem?_eq_some_iff.mp hr)
    obtain ⟨hl, rfl⟩ := hj
    rw [List.getElem_cons_drop, List.take_append_drop]
  have e2 : ab L r = (ab L r).take k ++ m :: (ab L r).drop (k + 1) := by
    obtain ⟨hl, rfl⟩ := List.getElem?_eq_some_iff.mp hm
    rw [List.getElem_cons_drop, List.take_append_drop]
  have e3 : rowsOf L (i + 1) = (((rowsOf L i).take j).flatMap (more L) ++ ((ab L r).take k).map (fun x => r ++ [x])) ++ (r ++ [m]) :: (((ab L r).drop (k + 1)).map (fun x => r ++ [x]) ++ ((rowsOf L i).drop (j + 1)).flatMap (more L)) := by
    show (rowsOf L i).flatMap (more L) = _
    conv => lhs; rw [e1, List.flatMap_append, List.flatMap_cons]
    have e4 : more L r = ((ab L r).take k).map (fun x => r ++ [x]) ++ (r ++ [m]) :: ((ab L r).drop (k + 1)).map (fun x => r ++ [x]) := by
      show (ab L r).map (fun x => r ++ [x]) = _
      conv => lhs; rw [e2, List.map_append, List.map_cons]
    rw [e4]
    simp only [List.append_assoc, List.cons_append]
  rw [e3] at nd
  intro h
  exact (List.nodup_append.mp nd).2.2 _ h _ List.mem_cons_self rfl
theorem flatMap_next {α β : Type} {f : α → List β} {l : List α} {j : Nat} {a : α} (h : l[j]? = some a) : (l.take (j + 1)).flatMap f = (l.take j).flatMap f ++ f a := by
  rw [List.take_add_one, h, List.flatMap_append]
  show _ ++ [a].flatMap f = _
  rw [List.flatMap_singleton]
theorem map_next {α β : Type} {f : α → β} {l : List α} {j : Nat} {a : α} (h : l[j]? = some a) : (l.take (j + 1)).map f = (l.take j).map f ++ [f a] := by
  rw [List.take_add_one, h, List.map_append]
  rfl
theorem filter_next {α : Type} {f : α → Bool} {l : List α} {j : Nat} {a : α} (h : l[j]? = some a) : (l.take (j + 1)).filter f = (l.take j).filter f ++ if f a = true then [a] else [] := by
  rw [List.take_add_one, h, List.filter_append]
  congr 1
  show [a].filter f = _
  rw [List.filter_cons]
  rfl
theorem ok_levels {f : Addr} {fd : FuncData} {k : Nat} (F : Fun K "levels" "levels" sLevels f fd) (B : Blt mg) (CL : Cl P w K mg base 1 "later_than" ["lot"] spLater) : FnOk P w K mg base CX0 2 f fd ["lot", "most"] spLevels := by
  refine F.ok scLevels (fun vs H Q E h => ?_) (fun cdv A outer s H vs Q E hr h => ?_)
  · obtain ⟨v, L, n, rfl, _⟩ := h
    rfl
  · obtain ⟨v, L, n, rfl, hL, hn, q⟩ := h
    have hu := hu_of hr
    have nd := scLevels.nd
    refine ⟨_, pss_cons (ps_set (i := 2) nd rfl (.inr rfl) (pc CL hr (by rfl) (pa_cons (pv 0) pa_nil)))
      (pss_cons (ps_set (i := 3) nd rfl (.inl rfl) (pe_lst (pa_cons (pe_dispT1 hu (pe_tup pa_nil) (pe_listRg rfl (by rfl) B.list (prg_1 (by rfl) B.range (pe_ix ix_tup (pv 0) pe_int (fun _ _ => rfl))))) pa_nil)))
      (pss_cons (ps_for PassesOwn.never rfl (pi_range1 (by rfl) B.range (pa_cons (pv 1) pa_nil)) (pg_name (i := 4) nd rfl (.inl rfl))
        (pss_cons (ps_set (i := 5) nd rfl (.inl rfl) pe_dnewT)
        (pss_cons (ps_lock (ps_for PassesOwn.never rfl (pi_itemsT (pe_ix ix_list (pv 3) (pe_un un_neg pe_int) (fun _ _ => rfl)))
            (pg_tup rfl (pgs_cons (pg_name (i := 6) nd rfl (.inl rfl)) (pgs_cons (pg_name (i := 7) nd rfl (.inl rfl)) pgs_nil)))
            (pss_one (ps_for PassesOwn.never rfl (pi_list (pv 7)) (pg_name (i := 8) nd rfl (.inr rfl))
              (pss_one (ps_dput hu (pv 5) (pe_op op_catA (pv 6) (pe_tup (pa_cons (pv 8) pa_nil)))
                (pe_lc (own := [("other", 9)]) (g := gName 9) rfl nd (pi_list (pv 7)) (blkOk_by (N := nLevels) (sc := defScope sLevels) (by decide +kernel))
                  (fun _ _ _ _ _ => pg_name (i := 9) nd rfl (Or.inl rfl)) (fun _ _ _ _ _ => pts_one (pt_cmp (pc_din hu (pv 9) (pe_ix (r := rIxL K) ix_list (pv 2) (pv 8) (fun _ _ => rfl))))) (fun _ _ _ _ _ => pv 9)) rfl))))))
        (pss_one (ps_expr (pe_bm PySem.F.plainAttrs_list PySem.F.slot_list_append PySem.F.type_list_append mt_append (pv 3) (pa_cons (pv 5) pa_nil)))))))
      (pss_one (ps_ret (pv 3))))), ?_⟩
    obtain ⟨⟨hok, hm, hpl⟩, a, p, ts, rfl, ha, hp, hts⟩ := id hL
    have line := line_ge
    -- later = later_than(lot)
    refine ⟨_, rfl, _, L, rfl, hL, fun H1 pl s1 hl1 => ?_⟩
    obtain ⟨dsl, hpl1, hdl, hdk⟩ := id hl1
    -- found = [{(): list(range(lot[0]))}]
    intro e0 ne0
    refine ⟨by show 0 ≤ sizeLine; omega, fun t0 nt0 => ?_⟩
    have s2 : Same H1 (upd (upd H1 e0 (.dT [])) t0 (.tup [])) := Same.put (same_upd ne0) ((same_upd ne0).free nt0)
    have ne_et : e0 ≠ t0 := ne_of_none upd_same nt0
    refine ⟨_, rfl, a, _, 0, _, rfl, rfl, SqT.of (s2 _ _ (s1 _ _ ha)), atI_nat (j := 0) rfl, (L.many : Int), rfl, .of_le (by omega) (by omega) (by omega) (by omega), fun l0 nl0 => ?_⟩
    have fl0 : H1 l0 = none := s2.free nl0
    have ne_el : e0 ≠ l0 := ne_of_none (o := .dT []) (by rw [upd_ne ne_et, upd_same]) nl0
    have ne_tl : t0 ≠ l0 := ne_of_none (o := .tup []) (by rw [upd_same]) nl0
    refine ⟨[], t0, rfl, by rw [upd_ne ne_tl, upd_same]; rfl, by rw [upd_ne ne_el, upd_ne ne_et, upd_same], ?_⟩
    generalize hH5 : upd (upd (upd (upd H1 e0 (.dT [])) t0 (.tup [])) l0 (.lst (rgV 0 (L.many : Int)))) e0 (.dT [([], .ref l0)]) = H5
    have s5 : Same H1 H5 := by
      rw [← hH5]
      exact Same.put (Same.put s2 fl0) ne0
    have p5 : LevelAt H5 e0 L 0 := by
      refine ⟨fun _ => l0, by rw [← hH5, upd_same]; rfl, fun r hr => ?_⟩
      obtain rfl : r = [] := List.mem_singleton.mp hr
      rw [← hH5, upd_ne ne_el.symm, upd_same, ab_nil]
      unfold rgV Lot.marks
      rw [List.map_map, show ((L.many : Int) - 0).toNat = L.many by omega]
      refine congrArg (fun z => some (HO.lst z)) (List.map_congr_left fun i _ => ?_)
      show V.int (0 + (i : Int)) = V.int (i : Int)
      rw [Int.zero_add]
    refine ⟨by show 1 ≤ sizeLine; omega, fun fo nfo => ?_⟩
    -- for size in range(most)
    have ffo : H1 fo = none := s5.free nfo
    have neo : e0 ≠ fo := ne_of_none p5.choose_spec.1 nfo
    refine ⟨_, rfl, (n : Int), rfl, by omega, by omega, ?_⟩
    refine for_range (lo := 0) (n := (n : Int).toNat) (fun i σ H2 => ∃ x4 x5 x6 x7 x8, σ = [some (.ref a), some (.int (n : Int)), some (.ref pl), some (.ref fo), x4, x5, x6, x7, x8, none] ∧ Same H1 H2 ∧
        ∃ es : List Addr, H2 fo = some (.lst (es.map V.ref)) ∧ es.length = i + 1 ∧ (∀ e ∈ es, H1 e = none) ∧ ∀ (j : Nat) (e : Addr), es[j]? = some e → LevelAt H2 e L j)
      ⟨none, none, none, none, none, rfl, Same.put s5 ffo, [e0], upd_same, rfl, fun e he => List.mem_singleton.mp he ▸ ne0, fun j e he => ?_⟩ ?_ ?_
    · cases j with
      | zero =>
        obtain rfl : e0 = e := Option.some.inj he
        exact p5.same (same_upd nfo)
      | succ j => cases he
    · rintro i σ H2 hi ⟨x4, x5, x6, x7, x8, rfl, sm, es, hfo, hes, hen, hlv⟩
      -- here = {}
      intro d nd0
      have fd0 : H1 d = none := Same.free sm nd0
      have ne_fd : fo ≠ d := ne_of_none hfo nd0
      have hei : i < es.length := by omega
      obtain ⟨mfe, hme, hmr⟩ := hlv i es[i] (List.getElem?_eq_getElem hei)
      have ne_ed : es[i] ≠ d := ne_of_none hme nd0
      -- found[-1], locked
      refine ⟨es[i], _, (upd_ne ne_ed).trans hme, trivial, fun od => ?_⟩
      have ne_fe : fo ≠ es[i] := ne_of hfo hme (fun z => nomatch z)
      have fei : H1 es[i] = none := hen _ (List.getElem_mem hei)
      generalize hHL : upd (upd H2 d (.dT [])) es[i] (.frz od (.dT ((rowsOf L i).map fun r => (keyOf r, V.ref (mfe r))))) = HL
      have gL : ∀ b o, b ≠ es[i] → H2 b = some o → HL b = some o := fun b o hb e => by
        rw [← hHL, upd_ne hb, upd_ne (ne_of_none e nd0)]
        exact e
      have eL : HL es[i] = some (.frz od (.dT ((rowsOf L i).map fun r => (keyOf r, V.ref (mfe r))))) := by rw [← hHL, upd_same]
      have dL : HL d = some (.dT []) := by rw [← hHL, upd_ne ne_ed.symm, upd_same]
      have sL : Same H1 HL := fun b o e => gL b o (ne_of_none e fei) (sm b o e)
      have mL : ∀ r ∈ rowsOf L i, HL (mfe r) = some (.lst ((ab L r).map V.int)) := fun r hr => gL _ _ (ne_of (hmr r hr) hme (fun z => nomatch z)) (hmr r hr)
      refine ⟨_, rfl, 1, rfl, fo, _, -1, _, rfl, rfl, SqL.of (gL _ _ ne_fe hfo), atI_end (n := i) (by rw [List.length_map, hes]) (by rw [List.getElem?_map, List.getElem?_eq_getElem hei]; rfl), _, od, _, rfl, eL, ?_⟩
      have hi4 : i ≤ 3 := by omega
      refine for_itemsT (fun j σ H5 => ∃ x6 x7 x8, σ = [some (.ref a), some (.int (n : Int)), some (.ref pl), some (.ref fo), some (.int (0 + (i : Int))), some (.ref d), x6, x7, x8, none] ∧ SameBut d HL H5 ∧
          Part H5 d L (((rowsOf L i).take j).flatMap (more L)))
        ⟨x6, x7, x8, rfl, .refl d HL, fun _ => 0, dL, fun r hr => nomatch hr⟩ (fun j σ H5 _ ⟨_, _, _, _, sb, _⟩ => sb _ _ ne_ed eL) ?_ ?_
      · rintro j k v σ H5 T q hk ⟨x6, x7, x8, rfl, sb, pt⟩ nT hq
        obtain ⟨r, hr, hkv⟩ := map_get hk
        obtain ⟨rfl, rfl⟩ := Prod.mk.inj hkv
        rw [key_row] at hq
        have hri : r ∈ rowsOf L i := List.mem_of_getElem? hr
        -- row, marks = the pair
        refine ⟨T, _, rfl, SqT.of upd_same, rfl, _, _, rfl, _, _, rfl, rfl, ?_⟩
        have ne_md : mfe r ≠ d := ne_of (mL r hri) dL (fun z => nomatch z)
        have m5 := sb _ _ ne_md (mL r hri)
        have ne_dT : d ≠ T := ne_of_none pt.choose_spec.1 nT
        have fT : H1 T = none := (SameBut.same sb sL fd0).free nT
        generalize hH6 : upd H5 T (.tup [.ref q, .ref (mfe r)]) = H6
        have s56 : Same H5 H6 := hH6 ▸ same_upd nT
        have s16 : Same H1 H6 := (SameBut.same sb sL fd0).trans s56
        have p6 := pt.same s56
        have m6 := s56 _ _ m5
        have q6 := s56 _ _ hq
        -- for mark in marks
        refine ⟨_, rfl, mfe r, rfl, ⟨_, SqL.of m6⟩, ?_⟩
        refine for_list (K := K) (a := mfe r) (xs := (ab L r).map V.int) (fun kx σ H7 => ∃ x8, σ = [some (.ref a), some (.int (n : Int)), some (.ref pl), some (.ref fo), some (.int (0 + (i : Int))), some (.ref d), some (.ref q), some (.ref (mfe r)), x8, none] ∧
            SameBut d H6 H7 ∧ Part H7 d L (((rowsOf L i).take j).flatMap (more L) ++ ((ab L r).take kx).map (fun x => r ++ [x])))
          ⟨x8, rfl, .refl d H6, by rw [List.take_zero, List.map_nil, List.append_nil]; exact p6⟩ (fun kx σ H7 _ ⟨_, _, sb7, _⟩ => SqL.of (sb7 _ _ ne_md m6)) ?_ ?_
        · rintro kx y σ H7 hkx ⟨x8, rfl, sb7, mf7, hd7, hm7⟩
          obtain ⟨m, hm1, rfl⟩ := map_get hkx
          have m7 := sb7 _ _ ne_md m6
          have s17 : Same H1 H7 := SameBut.same sb7 s16 fd0
          have hmm : m ∈ L.marks := (mem_ab.mp (List.mem_of_getElem? hm1)).1
          obtain ⟨hm0, hm2⟩ := Lot.mem_marks.mp hmm
          have hmt : m.toNat < dsl.length := by omega
          obtain ⟨kvl, hkl, hkx2⟩ := hdk m.toNat dsl[m.toNat] (List.getElem?_eq_getElem hmt)
          rw [show ((m.toNat : Nat) : Int) = m by omega] at hkx2
          -- [other for other in marks if other in later[mark]]
          refine ⟨_, rfl, mfe r, rfl, ⟨_, SqL.of m7⟩, fun c nc => ?_⟩
          refine lc_list (K := K) (a := mfe r) (xs := (ab L r).map V.int) (fun y H8 => Same H7 H8 ∧ H8 c = some (.lst ((((ab L r).take y).filter fun o => decide ((o, m) ∈ L.pairs)).map V.int)))
            ⟨same_upd nc, upd_same⟩ (fun y H8 _ ⟨s8, _⟩ => SqL.of (s8 _ _ m7)) ?_ ?_
          · rintro y z H8 hy ⟨s8, hc8⟩
            obtain ⟨o, ho, rfl⟩ := map_get hy
            have hlen8 : (((ab L r).take y).filter fun o => decide ((o, m) ∈ L.pairs)).length ≤ 6 := by
              refine Nat.le_trans (List.length_filter_le _ _) (Nat.le_trans (by rw [List.length_take]; exact Nat.min_le_right _ _) (Nat.le_trans (ab_length L r) hm))
            refine ⟨rfl, _, rfl, _, rfl, _, rfl, pl, _, m, .ref dsl[m.toNat], rfl, rfl, SqL.of (s8 _ _ (s17 _ _ hpl1)), at_of (j := m.toNat) (by omega) (by rw [List.getElem?_map, List.getElem?_eq_getElem hmt]; rfl), _, _, rfl,
              DGet.k (k := Sum.inl o) (s8 _ _ (s17 _ _ hkl)), _, rfl, ?_⟩
            rw [hkx2]
            refine ite2 (fun ht => ?_) (fun ht => ?_)
            · refine ⟨_, rfl, _, hc8, by rw [List.length_map]; omega, Same.put s8 nc, ?_⟩
              rw [upd_same, filter_next ho, if_pos ht, List.map_append]
              rfl
            · refine ⟨s8, ?_⟩
              rw [hc8, filter_next ho, if_neg ht, List.append_nil]
          · rintro H8 ⟨s8, hc8⟩
            rw [List.length_map, List.take_length, ← ab_snoc] at hc8
            -- here[row + (mark,)] = it
            have q8 := s8 _ _ (sb7 _ _ (ne_of q6 p6.choose_spec.1 (fun z => nomatch z)) q6)
            have d8 := s8 _ _ hd7
            have hrlen : r.length = i := (mem_rowsOf.mp hri).2
            have fin : ∀ (b : Addr) (H9 : Hp), Same H8 H9 → H9 b = some (.tup ((r ++ [m]).map V.int)) → ∃ (a' : Addr) (H4 : Hp), (V.ref d) = .ref a' ∧ DPut H9 a' (.ref b) (.ref c) H4 ∧ ∃ x8,
                [some (V.ref a), some (.int (n : Int)), some (.ref pl), some (.ref fo), some (.int (0 + (i : Int))), some (.ref d), some (.ref q), some (.ref (mfe r)), some (.int m), none] =
                  [some (V.ref a), some (.int (n : Int)), some (.ref pl), some (.ref fo), some (.int (0 + (i : Int))), some (.ref d), some (.ref q), some (.ref (mfe r)), x8, none] ∧
                SameBut d H6 H4 ∧ Part H4 d L (((rowsOf L i).take j).flatMap (more L) ++ ((ab L r).take (kx + 1)).map (fun x => r ++ [x])) := fun b H9 s9 hb => by
              refine ⟨d, _, rfl, DPut.t (k := keyOf (r ++ [m])) (s9 _ _ d8) (by rw [key_row]; exact hb) ?_, _, rfl, ?_, ?_⟩
              · rw [List.length_map, List.length_append, List.length_map, List.length_take]
                have h1 := flatMap_length_le (f := more L) (l := (rowsOf L i).take j) (n := 6) fun x _ => by
                  unfold more
                  rw [List.length_map]
                  exact Nat.le_trans (ab_length L x) hm
                have h2 : ((rowsOf L i).take j).length ≤ 1296 := Nat.le_trans (by rw [List.length_take]; exact Nat.min_le_right _ _) (rowsOf_few hm (by omega))
                have h3 : min kx (ab L r).length ≤ 6 := Nat.le_trans (Nat.min_le_right _ _) (Nat.le_trans (ab_length L r) hm)
                omega
              · refine SameBut.put (SameBut.trans sb7 (.of (Same.trans s8 s9))) (.inr rfl)
              · have hnew := row_new hr hm1
                rw [put_rows hnew, map_next hm1, ← List.append_assoc]
                refine ⟨fun x => if x = r ++ [m] then c else mf7 x, ?_, fun x hx => ?_⟩
                · rw [upd_same]
                  refine congrArg (fun z => some (HO.dT z)) (List.map_congr_left fun x _ => ?_)
                  by_cases e : x = r ++ [m]
                  · dsimp only
                    rw [if_pos e, if_pos e]
                  · dsimp only
                    rw [if_neg e, if_neg e]
                · have hcd : c ≠ d := ne_of hc8 d8 (fun z => nomatch z)
                  by_cases e : x = r ++ [m]
                  · dsimp only
                    rw [if_pos e, upd_ne hcd, e]
                    exact s9 _ _ hc8
                  · dsimp only
                    rw [if_neg e]
                    have hx2 : x ∈ ((rowsOf L i).take j).flatMap (more L) ++ ((ab L r).take kx).map (fun x => r ++ [x]) := by
                      rcases List.mem_append.mp hx with hx | hx
                      · exact hx
                      · exact absurd (List.mem_singleton.mp hx) e
                    rw [upd_ne (ne_of (hm7 x hx2) hd7 (fun z => nomatch z))]
                    exact s9 _ _ (s8 _ _ (hm7 x hx2))
            refine ⟨_, rfl, _, rfl, _, rfl, by show 1 ≤ sizeLine; omega, fun t nt => ?_⟩
            refine ⟨q, t, _, _, rfl, rfl, SqT.of ((same_upd nt) _ _ q8), SqT.of upd_same, by rw [List.length_map, hrlen]; show i + 1 ≤ sizeLine; omega, fun er => ?_, fun _ z => (nomatch z), fun _ _ b nb => ?_⟩
            · refine fin t _ (same_upd nt) ?_
              rw [upd_same, List.map_append, er]
              rfl
            · refine fin b _ ((same_upd nt).trans (same_upd nb)) ?_
              rw [upd_same, List.map_append]
              rfl
        · rintro σ H7 ⟨x8, rfl, sb7, p7⟩
          rw [List.length_map, List.take_length] at p7
          refine ⟨_, _, _, rfl, sb.trans (SameBut.trans (.of s56) sb7), ?_⟩
          rw [flatMap_next hr]
          exact p7
      · rintro σ H5 ⟨x6, x7, x8, rfl, sb, pt⟩
        rw [List.length_map, List.take_length] at pt
        -- behind the lock
        have e5 := sb _ _ ne_ed eL
        refine ⟨e5, ?_⟩
        have sb5 : SameBut d (upd H2 d (.dT [])) (upd H5 es[i] (.dT ((rowsOf L i).map fun r => (keyOf r, V.ref (mfe r))))) := by
          refine sameBut_unlock (od := od) ?_ ((upd_ne ne_ed).trans hme)
          rw [hHL]
          exact sb
        generalize hH6 : upd H5 es[i] (.dT ((rowsOf L i).map fun r => (keyOf r, V.ref (mfe r)))) = H6 at sb5 ⊢
        have s26 : Same H2 H6 := sb5.same (same_upd nd0) nd0
        have p6 : LevelAt H6 d L (i + 1) := by
          obtain ⟨mf, h1, h2⟩ := pt
          refine ⟨mf, ?_, fun x hx => ?_⟩
          · rw [← hH6, upd_ne ne_ed.symm]
            exact h1
          · rw [← hH6, upd_ne (ne_of (h2 x hx) e5 (fun z => nomatch z))]
            exact h2 x hx
        -- found.append(here)
        have f6 := s26 _ _ hfo
        refine ⟨_, rfl, .inl ⟨rfl, _, SqL.of f6⟩, _, rfl, fo, _, _, rfl, rfl, f6, by rw [List.length_map]; omega, ?_⟩
        refine ⟨_, _, _, _, _, rfl, Same.put (Same.trans sm s26) ffo, es ++ [d], by rw [upd_same, List.map_append]; rfl, by rw [List.length_append, hes]; rfl, fun e he => ?_, fun j e he => ?_⟩
        · rcases List.mem_append.mp he with he | he
          · exact hen e he
          · exact List.mem_singleton.mp he ▸ fd0
        · have nfo2 : ∀ {e : Addr} {j : Nat}, LevelAt H6 e L j → LevelAt (upd H6 fo (.lst (es.map V.ref ++ [V.ref d]))) e L j := fun {e j} h => by
            obtain ⟨mf, h1, h2⟩ := h
            have hmf : ∀ r ∈ rowsOf L j, mf r ≠ fo := fun r hr z => by
              have := h2 r hr
              rw [z, f6] at this
              injection this with this
              injection this with this
              rw [ref_int this] at hes
              cases hes
            exact ⟨mf, (upd_ne (ne_of h1 f6 (fun z => nomatch z))).trans h1, fun r hr => (upd_ne (hmf r hr)).trans (h2 r hr)⟩
          by_cases hj : j < es.length
          · rw [List.getElem?_append_left hj] at he
            exact nfo2 ((hlv j e he).same s26)
          · rw [List.getElem?_append_right (by omega)] at he
            have ej : j = i + 1 := by
              have := (List.getElem?_eq_some_iff.mp he).1
              simp at this
              omega
            subst ej
            rw [hes, Nat.sub_self] at he
            obtain rfl := Option.some.inj he
            exact nfo2 p6
    · rintro σ H2 ⟨x4, x5, x6, x7, x8, rfl, sm, es, hfo, hes, hen, hlv⟩
      exact ⟨_, rfl, q H2 fo (s1.trans sm) ⟨es, hfo, by rw [hes]; omega, hlv⟩⟩
end
end K87
namespace K87
open PySem PySem.Spec PyProof.Rows L2
/-- t + u, whichever of the two is empty -/
theorem cat_read {K : PySem.W.Frag} {a b : Addr} {xs ys : List V} {H : Hp} {Q : VK} (ha : H a = some (.tup xs)) (hb : H b = some (.tup ys)) (hl : xs.length + ys.length ≤ sizeLine)
    (h : ∀ c H', Same H H' → H' c = some (.tup (xs ++ ys)) → Q (.ref c) H') : rCatA K (.ref a) (.ref b) H Q := by
  refine ⟨a, b, xs, ys, rfl, rfl, SqT.of ha, SqT.of hb, hl, fun e => h b H (Same.refl H) ?_, fun _ e => h a H (Same.refl H) ?_, fun _ _ p np => h p _ (same_upd np) upd_same⟩
  · rw [hb, e]
    rfl
  · rw [ha, e, List.append_nil]
/-- t[lo:hi], the whole or not -/
theorem cut_read {K : PySem.W.Frag} {a : Addr} {xs : List V} {lo hi : Option Int} {H : Hp} {Q : VK} (ha : H a = some (.tup xs)) (h : ∀ c H', Same H H' → H' c = some (.tup (cutV xs lo hi)) → Q (.ref c) H') : rSlA K (.ref a) lo hi H Q := by
  refine ⟨a, xs, rfl, SqT.of ha, fun e => h a H (Same.refl H) ?_, fun _ p np => h p _ (same_upd np) upd_same⟩
  unfold cutV
  rw [e.1, e.2, List.drop_zero, Nat.sub_zero, List.take_length]
  exact ha
theorem noPart {σ : L2.St} {H : Hp} {Q : Option Int → Hp → Prop} (h : Q none H) : tNoPart σ H Q := h
theorem cut_to (xs : List V) (i : Nat) : cutV xs none (some (i : Int)) = xs.take i := by
  unfold cutV
  rw [HT.sIx_none, HT.sIx_nat, List.drop_zero, Nat.sub_zero]
  by_cases h : i ≤ xs.length
  · rw [Nat.min_eq_left h]
  · rw [Nat.min_eq_right (by omega), List.take_length, List.take_of_length_le (by omega)]
theorem cut_from (xs : List V) (i : Nat) : cutV xs (some (i : Int)) none = xs.drop i := by
  unfold cutV
  rw [HT.sIx_none, HT.sIx_nat]
  by_cases h : i ≤ xs.length
  · rw [Nat.min_eq_left h, List.take_of_length_le (by rw [List.length_drop]; omega)]
  · rw [Nat.min_eq_right (by omega), Nat.sub_self, List.take_zero, List.drop_eq_nil_of_le (by omega)]
section
variable {P : Program} {w : World} {K : PySem.W.Frag} {mg : Str → Option Value} {base : Heap}
abbrev nParts : List Str := ["row", "mark", "at"]
theorem scParts : FnScope nParts ["row", "mark"] (defScope sParts) := ⟨rfl, rfl, rfl, by decide +kernel, rfl, by decide +kernel, by decide +kernel⟩
def spParts : Sp := fun vs H Q _ => ∃ (q : Addr) (r : Row) (m : Int), vs = [.ref q, .int m] ∧ H q = some (.tup (r.map V.int)) ∧ r.length ≤ 1000 ∧
  ∀ H' p ts, Same H H' → H p = none → H' p = some (.lst (ts.map V.ref)) → Paired (RowAt H') ts (leav r m) → Q (.ref p) H'
theorem ok_parts {f : Addr} {fd : FuncData} {k : Nat} (F : Fun K "parts_with" "parts_with" sParts f fd) (B : Blt mg) : FnOk P w K mg base CX0 (k + 1) f fd ["row", "mark"] spParts := by
  refine F.ok scParts (fun vs H Q E h => ?_) (fun cdv A outer s H vs Q E hr h => ?_)
  · obtain ⟨v, L, n, rfl, _⟩ := h
    rfl
  · obtain ⟨q, r, m, rfl, hq, hlen, k⟩ := h
    have nd := scParts.nd
    have line := line_ge
    refine ⟨_, pss_one (ps_ret (pe_lc (own := [("at", 2)]) (g := gName 2) (tt := tYes) rfl nd (pi_range1 (by rfl) B.range (pa_cons (pe_callB call_len_seq (by rfl) B.len PySem.boot_len (pa_cons (pv 0) pa_nil)) pa_nil))
      (blkOk_by (N := nParts) (sc := defScope sParts) (by decide +kernel)) (fun _ _ _ _ _ => pg_name (i := 2) nd rfl (Or.inl rfl)) (fun _ _ _ _ _ => pts_nil)
      (fun _ _ _ _ _ => pe_op (r := rCatA K) op_catA (pe_op (r := rCatA K) op_catA (pe_slice (r := rSlA K) sl_tupA (pv 0) po_none (po_some (pv 2))) (pe_slice (r := rSlA K) sl_tupA (pv 0) (po_some (pe_op op_add (pv 2) pe_int)) po_none)) (pe_tup (pa_cons (pv 1) pa_nil))))), ?_⟩
    refine ⟨_, rfl, q, _, rfl, .inr (SqT.of hq), ?_⟩
    refine ⟨_, rfl, by rw [List.length_map]; omega, by rw [List.length_map]; omega, fun D nD => ?_⟩
    refine lc_range (lo := 0) (n := (((r.map V.int).length : Nat) : Int).toNat) (fun i H2 => Same H H2 ∧ ∃ ts : List Addr, H2 D = some (.lst (ts.map V.ref)) ∧ Paired (RowAt H2) ts ((List.range i).map fun i => r.take i ++ r.drop (i + 1) ++ [m]))
      ⟨same_upd nD, [], upd_same, .nil⟩ ?_ ?_
    · rintro i H2 hi ⟨sm, ts, hD, pt⟩
      rw [List.length_map] at hi
      refine ⟨rfl, ⟨_, rfl, _, rfl, _, rfl, cut_read (sm _ _ hq) fun c1 H3 s3 h3 => ?_⟩⟩
      refine ⟨_, rfl, _, rfl, _, _, rfl, rfl, _, rfl, ?_⟩
      refine noPart ?_
      refine cut_read (s3 _ _ (sm _ _ hq)) fun c2 H4 s4 h4 => ?_
      rw [show (0 : Int) + (i : Int) = ((i : Nat) : Int) by omega, cut_to, ← List.map_take] at h3
      rw [show (0 : Int) + (i : Int) + 1 = ((i + 1 : Nat) : Int) by omega, cut_from, ← List.map_drop] at h4
      refine cat_read (s4 _ _ h3) h4 (by rw [List.length_map, List.length_map, List.length_take, List.length_drop]; omega) fun c3 H5 s5 h5 => ?_
      rw [← List.map_append] at h5
      refine ⟨_, rfl, by show 1 ≤ sizeLine; omega, fun t nt => ?_⟩
      refine cat_read (same_upd nt _ _ h5) upd_same (by rw [List.length_map, List.length_append, List.length_take, List.length_drop]; show _ + 1 ≤ sizeLine; omega) fun c H6 s6 h6 => ?_
      have s26 : Same H2 H6 := s3.trans (s4.trans (s5.trans ((same_upd nt).trans s6)))
      have l1 : ts.length = i := by rw [Paired.length pt, List.length_map, List.length_range]
      have nD6 : ∀ b, RowAt H6 b (r.take i ++ r.drop (i + 1) ++ [m]) → b ≠ D := fun b hb => ne_of hb (s26 _ _ hD) (fun z => nomatch z)
      refine ⟨_, s26 _ _ hD, by rw [List.length_map]; omega, Same.put (Same.trans sm s26) nD, ts ++ [c], by rw [upd_same, List.map_append]; rfl, ?_⟩
      rw [List.range_succ, List.map_append]
      have h6' : RowAt H6 c (r.take i ++ r.drop (i + 1) ++ [m]) := by
        unfold RowAt
        rw [h6]
        simp only [List.map_append]
        rfl
      refine paired_snoc (paired_same pt fun b q hb => ?_) ((upd_ne (nD6 c h6')).trans h6')
      exact (upd_ne (ne_of (s26 _ _ hb) (s26 _ _ hD) (fun z => nomatch z))).trans (s26 _ _ hb)
    · rintro H2 ⟨sm, ts, hD, pt⟩
      refine k H2 D ts sm nD hD ?_
      rw [List.length_map] at pt
      exact pt
end
end K87
set_option autoImplicit false
/-! What peeled keeps from turn to turn: plain lists -/
namespace K87
/-- (row, mark, part): part is a leaving of row by mark -/
abbrev Trip := Row × Int × Row
def trips1 (r : Row) (m : Int) : List Trip := (leav r m).map fun p => (r, m, p)
def tripsOf (L : Lot) (r : Row) : List Trip := (ab L r).flatMap (trips1 r)
/-- what waits for a part -/
def Wl (tr : List Trip) (x : Row) : List (Row × Int) := (tr.filter fun t => decide (t.2.2 = x)).map fun t => (t.1, t.2.1)
theorem Wl_nil (x : Row) : Wl [] x = [] := rfl
theorem Wl_snoc (tr : List Trip) (r : Row) (m : Int) (p x : Row) : Wl (tr ++ [(r, m, p)]) x = if x = p then Wl tr x ++ [(r, m)] else Wl tr x := by
  unfold Wl
  rw [List.filter_append, List.map_append]
  by_cases h : x = p
  · rw [if_pos h, List.filter_cons_of_pos (by simp [h]), List.filter_nil]
    rfl
  · rw [if_neg h, List.filter_cons_of_neg (by simp [Ne.symm h]), List.filter_nil, List.map_nil, List.append_nil]
theorem Wl_length (tr : List Trip) (x : Row) : (Wl tr x).length ≤ tr.length := by
  unfold Wl
  rw [List.length_map]
  exact List.length_filter_le _ _
theorem mem_Wl {tr : List Trip} {x r : Row} {m : Int} : (r, m) ∈ Wl tr x ↔ (r, m, x) ∈ tr := by
  unfold Wl
  rw [List.mem_map]
  constructor
  · rintro ⟨⟨r', m', x'⟩, h, e⟩
    rw [List.mem_filter, decide_eq_true_iff] at h
    obtain ⟨h1, h2⟩ := h
    obtain ⟨e1, e2⟩ := Prod.mk.inj e
    dsimp only at h2 e1 e2
    rw [← e1, ← e2, ← h2]
    exact h1
  · intro h
    exact ⟨(r, m, x), List.mem_filter.mpr ⟨h, by simp⟩, rfl⟩
theorem trips1_length (r : Row) (m : Int) : (trips1 r m).length = r.length := by
  unfold trips1
  rw [List.length_map, leav_length]
theorem tripsOf_length (L : Lot) (r : Row) : (tripsOf L r).length ≤ L.many * r.length := by
  unfold tripsOf
  refine Nat.le_trans (flatMap_length_le (n := r.length) fun m _ => Nat.le_of_eq (trips1_length r m)) ?_
  exact Nat.mul_le_mul_right _ (ab_length L r)
def allTr (L : Lot) (k : Nat) : List Trip := (rowsOf L k).flatMap (tripsOf L)
theorem mem_allTr {L : Lot} {k : Nat} {r p : Row} {m : Int} : (r, m, p) ∈ allTr L k ↔ r ∈ rowsOf L k ∧ m ∈ ab L r ∧ p ∈ leav r m := by
  unfold allTr tripsOf trips1
  rw [List.mem_flatMap]
  constructor
  · rintro ⟨r', h1, h2⟩
    obtain ⟨m', h3, h4⟩ := List.mem_flatMap.mp h2
    obtain ⟨p', h5, e⟩ := List.mem_map.mp h4
    obtain ⟨e1, e⟩ := Prod.mk.inj e
    obtain ⟨e2, e3⟩ := Prod.mk.inj e
    subst e1 e2 e3
    exact ⟨h1, h3, h5⟩
  · rintro ⟨h1, h2, h3⟩
    exact ⟨r, h1, List.mem_flatMap.mpr ⟨m, h2, List.mem_map.mpr ⟨p, h3, rfl⟩⟩⟩
/-- the marks of a row that no leaving's going has killed by round k, nor one of the pairs pp -/
def alive (L : Lot) (k : Nat) (pp : List (Row × Int)) (r : Row) : List Int := (ab L r).filter fun m => !((leav r m).any (goneBy L k)) && !decide ((r, m) ∈ pp)
theorem alive_zero (L : Lot) (r : Row) : alive L 0 [] r = ab L r := by
  unfold alive
  rw [List.filter_eq_self]
  intro m _
  have h : (leav r m).any (goneBy L 0) = false := by
    rw [List.any_eq_false]
    intro q _ h
    cases h
  rw [h]
  simp
theorem alive_other {L : Lot} {k : Nat} {pp : List (Row × Int)} {r x : Row} {m : Int} (h : x ≠ r) : alive L k (pp ++ [(r, m)]) x = alive L k pp x := by
  unfold alive
  refine List.filter_congr fun y _ => ?_
  congr 2
  refine decide_eq_decide.mpr ?_
  rw [List.mem_append, List.mem_singleton]
  exact or_iff_left fun e => h (Prod.mk.inj e).1
theorem alive_same {L : Lot} {k : Nat} {pp : List (Row × Int)} {r : Row} {m : Int} : alive L k (pp ++ [(r, m)]) r = (alive L k pp r).filter fun y => decide (y ≠ m) := by
  unfold alive
  rw [List.filter_filter]
  refine List.filter_congr fun y _ => ?_
  have e : decide ((r, y) ∈ pp ++ [(r, m)]) = (decide ((r, y) ∈ pp) || decide (y = m)) := by
    rw [← Bool.decide_or]
    refine decide_eq_decide.mpr ?_
    rw [List.mem_append, List.mem_singleton, Prod.mk.injEq]
    exact or_congr_right ⟨fun z => z.2, fun z => ⟨rfl, z⟩⟩
  rw [e]
  by_cases h1 : y = m <;> cases decide ((r, y) ∈ pp) <;> cases (leav r y).any (goneBy L k) <;> simp [h1]
theorem goneBy_next {L : Lot} {k : Nat} {r : Row} : goneBy L (k + 1) r = true ↔ goneBy L k r = true ∨ Rnd L r k := by
  constructor
  · intro h
    cases e : goneBy L k r with
    | true => exact .inl rfl
    | false => exact .inr ⟨h, e⟩
  · rintro (h | h)
    · exact goneBy_mono1 h
    · exact h.1
/-- all pairs of the rows that go in round k -/
theorem alive_turn {L : Lot} {n k : Nat} {hs : List Row} (hh : ∀ r, r ∈ hs ↔ r ∈ rowsOf L n ∧ Rnd L r k) {r : Row} (hr : r ∈ rowsOf L n) : alive L k (hs.flatMap (Wl (allTr L n))) r = alive L (k + 1) [] r := by
  unfold alive
  refine List.filter_congr fun m hm => ?_
  have e : ((leav r m).any (goneBy L (k + 1))) = ((leav r m).any (goneBy L k) || decide ((r, m) ∈ hs.flatMap (Wl (allTr L n)))) := by
    rw [Bool.eq_iff_iff, Bool.or_eq_true, List.any_eq_true, List.any_eq_true, decide_eq_true_iff, List.mem_flatMap]
    constructor
    · rintro ⟨q, hq, g⟩
      rcases goneBy_next.mp g with g | g
      · exact .inl ⟨q, hq, g⟩
      · exact .inr ⟨q, (hh q).mpr ⟨leav_rowsOf hr hm hq, g⟩, mem_Wl.mpr (mem_allTr.mpr ⟨hr, hm, hq⟩)⟩
    · rintro (⟨q, hq, g⟩ | ⟨q, h1, h2⟩)
      · exact ⟨q, hq, goneBy_next.mpr (.inl g)⟩
      · exact ⟨q, (mem_allTr.mp (mem_Wl.mp h2)).2.2, goneBy_next.mpr (.inr ((hh q).mp h1).2)⟩
  rw [e]
  simp
theorem alive_nil {L : Lot} {k : Nat} {r : Row} : alive L k [] r = [] ↔ goneBy L (k + 1) r = true := by
  unfold alive
  rw [List.filter_eq_nil_iff, goneBy_succ]
  refine forall_congr' fun m => forall_congr' fun _ => ?_
  simp
/-- those that later holds behind the turn go in the next round -/
theorem later_turn {L : Lot} {n k : Nat} {hs gs : List Row} (hh : ∀ r, r ∈ hs ↔ r ∈ rowsOf L n ∧ Rnd L r k) (hg : ∀ r, r ∈ gs ↔ r ∈ rowsOf L n ∧ goneBy L (k + 1) r = true) (r : Row) :
    ((∃ m, (r, m) ∈ hs.flatMap (Wl (allTr L n))) ∧ alive L k (hs.flatMap (Wl (allTr L n))) r = [] ∧ r ∉ gs) ↔ r ∈ rowsOf L n ∧ Rnd L r (k + 1) := by
  constructor
  · rintro ⟨⟨m, hm⟩, h2, h3⟩
    obtain ⟨q, hq, h4⟩ := List.mem_flatMap.mp hm
    have hr := (mem_allTr.mp (mem_Wl.mp h4)).1
    rw [alive_turn hh hr, alive_nil] at h2
    refine ⟨hr, h2, ?_⟩
    cases e : goneBy L (k + 1) r with
    | false => rfl
    | true => exact absurd ((hg r).mpr ⟨hr, e⟩) h3
  · rintro ⟨hr, h1, h2⟩
    refine ⟨?_, ?_, ?_⟩
    · -- else it had gone already
      refine Classical.byContradiction fun hn => ?_
      have : goneBy L (k + 1) r = true := by
        rw [goneBy_succ]
        intro m hm
        obtain ⟨q, hq, g⟩ := goneBy_succ.mp h1 m hm
        rcases goneBy_next.mp g with g | g
        · exact ⟨q, hq, g⟩
        · exact absurd ⟨m, List.mem_flatMap.mpr ⟨q, (hh q).mpr ⟨leav_rowsOf hr hm hq, g⟩, mem_Wl.mpr (mem_allTr.mpr ⟨hr, hm, hq⟩)⟩⟩ hn
      rw [h2] at this
      cases this
    · rw [alive_turn hh hr, alive_nil]
      exact h1
    · intro h
      rw [((hg r).mp h).2] at h2
      cases h2
theorem rnd_zero {L : Lot} {r : Row} : Rnd L r 0 ↔ ab L r = [] := by
  have : goneBy L 1 r = true ↔ ab L r = [] := by
    rw [← alive_nil, alive_zero]
  constructor
  · intro h
    exact this.mp h.1
  · intro h
    exact ⟨this.mpr h, rfl⟩
theorem nodup_le {α : Type} [DecidableEq α] {l m : List α} (hl : l.Nodup) (hm : m.Nodup) (h : ∀ a ∈ l, a ∈ m) : l.length ≤ m.length := by
  have p : l.Perm (m.filter fun a => decide (a ∈ l)) := perm_of_mem hl (hm.sublist List.filter_sublist) fun a => by
    rw [List.mem_filter, decide_eq_true_iff]
    exact ⟨fun z => ⟨h a z, z⟩, fun z => z.2⟩
  rw [p.length_eq]
  exact List.length_filter_le _ _
end K87
/-! peeled: its dicts of dicts, of lists, in the heap -/
namespace K87
open PySem PySem.Spec PyProof.Rows L2
def PrAt (H : Hp) (t : Addr) (p : Row × Int) : Prop := ∃ q, H t = some (.tup [.ref q, .int p.2]) ∧ RowAt H q p.1
def noTup (H : Hp) (b : Addr) : Prop := ∀ xs, H b ≠ some (.tup xs)
theorem RowAt.but {H H' : Hp} {b q : Addr} {r : Row} (h : RowAt H q r) (s : SameBut b H H') (n : noTup H b) : RowAt H' q r := s _ _ (fun e => n _ (e ▸ h)) h
theorem PrAt.but {H H' : Hp} {b t : Addr} {p : Row × Int} (h : PrAt H t p) (s : SameBut b H H') (n : noTup H b) : PrAt H' t p := by
  obtain ⟨q, h1, h2⟩ := h
  exact ⟨q, s _ _ (fun e => n _ (e ▸ h1)) h1, h2.but s n⟩
theorem PrAt.same {H H' : Hp} {t : Addr} {p : Row × Int} (h : PrAt H t p) (s : Same H H') : PrAt H' t p := by
  obtain ⟨q, h1, h2⟩ := h
  exact ⟨q, s _ _ h1, s _ _ h2⟩
/-- a dict of lists of pairs -/
structure WaitOn (H0 H : Hp) (wt : Addr) (wf : Row → Addr) (rs : List Row) (W : Row → List (Row × Int)) : Prop where
  top : H wt = some (.dT (rs.map fun r => (keyOf r, V.ref (wf r))))
  inj : ∀ r ∈ rs, ∀ x ∈ rs, wf r = wf x → r = x
  each : ∀ r ∈ rs, ∃ ts : List Addr, H (wf r) = some (.lst (ts.map V.ref)) ∧ Paired (PrAt H) ts (W r)
  fr : H0 wt = none
  fre : ∀ r ∈ rs, H0 (wf r) = none
/-- a dict of dicts of marks -/
structure GoodOn (H0 H : Hp) (g : Addr) (dg : Row → Addr) (rs : List Row) (gd : Row → List Int) : Prop where
  top : H g = some (.dT (rs.map fun r => (keyOf r, V.ref (dg r))))
  inj : ∀ r ∈ rs, ∀ x ∈ rs, dg r = dg x → r = x
  each : ∀ r ∈ rs, H (dg r) = some (.dK ((gd r).map fun m => ((Sum.inl m : Key), V.bl true)))
  fr : H0 g = none
  fre : ∀ r ∈ rs, H0 (dg r) = none
section
variable {H0 H H' : Hp} {wt g b : Addr} {wf dg : Row → Addr} {rs : List Row} {W : Row → List (Row × Int)} {gd : Row → List Int}
theorem WaitOn.but (h : WaitOn H0 H wt wf rs W) (s : SameBut b H H') (h1 : b ≠ wt) (h2 : ∀ r ∈ rs, b ≠ wf r) (n : noTup H b) : WaitOn H0 H' wt wf rs W := by
  refine ⟨s _ _ (Ne.symm h1) h.top, h.inj, fun r hr => ?_, h.fr, h.fre⟩
  obtain ⟨ts, e, p⟩ := h.each r hr
  exact ⟨ts, s _ _ (Ne.symm (h2 r hr)) e, paired_same p fun _ _ z => z.but s n⟩
theorem WaitOn.same (h : WaitOn H0 H wt wf rs W) (s : Same H H') : WaitOn H0 H' wt wf rs W := by
  refine ⟨s _ _ h.top, h.inj, fun r hr => ?_, h.fr, h.fre⟩
  obtain ⟨ts, e, p⟩ := h.each r hr
  exact ⟨ts, s _ _ e, paired_same p fun _ _ z => z.same s⟩
theorem WaitOn.list_ne (h : WaitOn H0 H wt wf rs W) {o : HO} (hb : H b = some o) (n : ∀ xs, o ≠ .lst xs) : ∀ r ∈ rs, b ≠ wf r := fun r hr e => by
  obtain ⟨ts, e2, _⟩ := h.each r hr
  rw [← e, hb] at e2
  exact n _ (Option.some.inj e2)
theorem GoodOn.but (h : GoodOn H0 H g dg rs gd) (s : SameBut b H H') (h1 : b ≠ g) (h2 : ∀ r ∈ rs, b ≠ dg r) : GoodOn H0 H' g dg rs gd :=
  ⟨s _ _ (Ne.symm h1) h.top, h.inj, fun r hr => s _ _ (Ne.symm (h2 r hr)) (h.each r hr), h.fr, h.fre⟩
theorem GoodOn.same (h : GoodOn H0 H g dg rs gd) (s : Same H H') : GoodOn H0 H' g dg rs gd := ⟨s _ _ h.top, h.inj, fun r hr => s _ _ (h.each r hr), h.fr, h.fre⟩
theorem GoodOn.dict_ne (h : GoodOn H0 H g dg rs gd) {o : HO} (hb : H b = some o) (n : ∀ xs, o ≠ .dK xs) : ∀ r ∈ rs, b ≠ dg r := fun r hr e => by
  have e2 := h.each r hr
  rw [← e, hb] at e2
  exact n _ (Option.some.inj e2)
theorem noTup_of {o : HO} (hb : H b = some o) (n : ∀ xs, o ≠ .tup xs) : noTup H b := fun xs e => by
  rw [hb] at e
  exact n _ (Option.some.inj e)
theorem upd_but {o : HO} : SameBut b H (upd H b o) := (SameBut.refl b H).put (.inr rfl)
/-- one more pair waits -/
theorem WaitOn.app (h : WaitOn H0 H wt wf rs W) {part : Row} {p : Row × Int} {ts : List Addr} {t : Addr} (hp : part ∈ rs) (e : H (wf part) = some (.lst (ts.map V.ref))) (ht : PrAt H t p) :
    WaitOn H0 (upd H (wf part) (.lst (ts.map V.ref ++ [.ref t]))) wt wf rs fun x => if x = part then W x ++ [p] else W x := by
  have n : noTup H (wf part) := noTup_of e fun xs z => nomatch z
  refine ⟨(upd_ne (ne_of h.top e (fun z => nomatch z))).trans h.top, h.inj, fun r hr => ?_, h.fr, h.fre⟩
  obtain ⟨us, e2, pu⟩ := h.each r hr
  by_cases hx : r = part
  · subst hx
    rw [if_pos rfl]
    rw [e] at e2
    injection e2 with e2
    injection e2 with e2
    refine ⟨us ++ [t], ?_, paired_snoc (paired_same pu fun _ _ z => z.but upd_but n) (ht.but upd_but n)⟩
    rw [upd_same, List.map_append, e2]
    rfl
  · rw [if_neg hx]
    exact ⟨us, (upd_ne fun z => hx (h.inj r hr part hp z)).trans e2, paired_same pu fun _ _ z => z.but upd_but n⟩
/-- one more row's list -/
theorem WaitOn.new (h : WaitOn H0 H wt wf rs fun _ => []) {r : Row} {c : Addr} (hr : r ∉ rs) (e : H c = some (.lst [])) (hc : ∀ x ∈ rs, wf x ≠ c) (h0 : H0 c = none) :
    WaitOn H0 (upd H wt (.dT (putK (rs.map fun r => (keyOf r, V.ref (wf r))) (keyOf r) (.ref c)))) wt (fun x => if x = r then c else wf x) (rs ++ [r]) fun _ => [] := by
  refine ⟨?_, ?_, fun x hx => ?_, h.fr, fun x hx => ?_⟩
  · rw [upd_same, put_rows hr]
    refine congrArg (fun z => some (HO.dT z)) (List.map_congr_left fun x _ => ?_)
    by_cases ex : x = r
    · rw [if_pos ex, if_pos ex]
    · rw [if_neg ex, if_neg ex]
  · intro x hx y hy exy
    rw [List.mem_append, List.mem_singleton] at hx hy
    by_cases ex : x = r
    · by_cases ey : y = r
      · rw [ex, ey]
      · rw [if_pos ex, if_neg ey] at exy
        exact absurd exy.symm (hc y (hy.resolve_right ey))
    · by_cases ey : y = r
      · rw [if_neg ex, if_pos ey] at exy
        exact absurd exy (hc x (hx.resolve_right ex))
      · rw [if_neg ex, if_neg ey] at exy
        exact h.inj x (hx.resolve_right ex) y (hy.resolve_right ey) exy
  · rw [List.mem_append, List.mem_singleton] at hx
    by_cases ex : x = r
    · rw [if_pos ex]
      exact ⟨[], (upd_ne (ne_of e h.top (fun z => nomatch z))).trans e, .nil⟩
    · rw [if_neg ex]
      obtain ⟨ts, e2, _⟩ := h.each x (hx.resolve_right ex)
      cases ‹Paired (PrAt H) ts []›
      exact ⟨[], (upd_ne (ne_of e2 h.top (fun z => nomatch z))).trans e2, .nil⟩
  · rw [List.mem_append, List.mem_singleton] at hx
    by_cases ex : x = r
    · rw [if_pos ex]
      exact h0
    · rw [if_neg ex]
      exact h.fre x (hx.resolve_right ex)
/-- one more row's marks -/
theorem GoodOn.new (h : GoodOn H0 H g dg rs gd) {r : Row} {c : Addr} (hr : r ∉ rs) (e : H c = some (.dK ((gd r).map fun m => ((Sum.inl m : Key), V.bl true)))) (hc : ∀ x ∈ rs, dg x ≠ c) (h0 : H0 c = none) :
    GoodOn H0 (upd H g (.dT (putK (rs.map fun r => (keyOf r, V.ref (dg r))) (keyOf r) (.ref c)))) g (fun x => if x = r then c else dg x) (rs ++ [r]) gd := by
  refine ⟨?_, ?_, fun x hx => ?_, h.fr, fun x hx => ?_⟩
  · rw [upd_same, put_rows hr]
    refine congrArg (fun z => some (HO.dT z)) (List.map_congr_left fun x _ => ?_)
    by_cases ex : x = r
    · rw [if_pos ex, if_pos ex]
    · rw [if_neg ex, if_neg ex]
  · intro x hx y hy exy
    rw [List.mem_append, List.mem_singleton] at hx hy
    by_cases ex : x = r
    · by_cases ey : y = r
      · rw [ex, ey]
      · rw [if_pos ex, if_neg ey] at exy
        exact absurd exy.symm (hc y (hy.resolve_right ey))
    · by_cases ey : y = r
      · rw [if_neg ex, if_pos ey] at exy
        exact absurd exy (hc x (hx.resolve_right ex))
      · rw [if_neg ex, if_neg ey] at exy
        exact h.inj x (hx.resolve_right ex) y (hy.resolve_right ey) exy
  · rw [List.mem_append, List.mem_singleton] at hx
    by_cases ex : x = r
    · rw [if_pos ex, ex]
      exact (upd_ne (ne_of e h.top (fun z => nomatch z))).trans e
    · rw [if_neg ex]
      exact (upd_ne (ne_of (h.each x (hx.resolve_right ex)) h.top (fun z => nomatch z))).trans (h.each x (hx.resolve_right ex))
  · rw [List.mem_append, List.mem_singleton] at hx
    by_cases ex : x = r
    · rw [if_pos ex]
      exact h0
    · rw [if_neg ex]
      exact h.fre x (hx.resolve_right ex)
/-- a row's marks changed -/
theorem GoodOn.turn (h : GoodOn H0 H g dg rs gd) {r : Row} {l : List Int} (hr : r ∈ rs) :
    GoodOn H0 (upd H (dg r) (.dK (l.map fun m => ((Sum.inl m : Key), V.bl true)))) g dg rs fun x => if x = r then l else gd x := by
  refine ⟨(upd_ne (ne_of h.top (h.each r hr) (fun z => nomatch z))).trans h.top, h.inj, fun x hx => ?_, h.fr, h.fre⟩
  by_cases ex : x = r
  · rw [if_pos ex, ex, upd_same]
  · rw [if_neg ex]
    exact (upd_ne fun z => ex (h.inj x hx r hr z)).trans (h.each x hx)
theorem GoodOn.congr (h : GoodOn H0 H g dg rs gd) {gd' : Row → List Int} (e : ∀ r ∈ rs, gd r = gd' r) : GoodOn H0 H g dg rs gd' := ⟨h.top, h.inj, fun r hr => e r hr ▸ h.each r hr, h.fr, h.fre⟩
theorem WaitOn.congr (h : WaitOn H0 H wt wf rs W) {W' : Row → List (Row × Int)} (e : ∀ r ∈ rs, W r = W' r) : WaitOn H0 H wt wf rs W' := ⟨h.top, h.inj, fun r hr => e r hr ▸ h.each r hr, h.fr, h.fre⟩
end
/-! ### dicts of marks -/
abbrev mK (l : List Int) : List (Key × V) := l.map fun m => ((Sum.inl m : Key), V.bl true)
theorem mK_val {m : Int} : ∀ {l : List Int}, valV (mK l) (Sum.inl m) = if m ∈ l then some (.bl true) else none
  | [] => rfl
  | x :: l => by
    show valV (((Sum.inl x : Key), V.bl true) :: mK l) _ = _
    by_cases e : x = m
    · subst e
      rw [valV_pos rfl, if_pos List.mem_cons_self]
    · rw [valV_neg (fun z => e (Sum.inl.inj z)), mK_val]
      by_cases h : m ∈ l
      · rw [if_pos h, if_pos (List.mem_cons_of_mem _ h)]
      · rw [if_neg h, if_neg]
        intro z
        rcases List.mem_cons.mp z with z | z
        · exact e z.symm
        · exact h z
theorem mK_drop (l : List Int) (m : Int) : dropK (mK l) (Sum.inl m) = mK (l.filter fun y => decide (y ≠ m)) := by
  unfold dropK mK
  rw [List.filter_map]
  refine congrArg _ (List.filter_congr fun y _ => ?_)
  refine decide_eq_decide.mpr ?_
  exact ⟨fun z e => z (by rw [e]), fun z e => z (Sum.inl.inj e)⟩
theorem mK_drop_out {l : List Int} {m : Int} (h : valV (mK l) (Sum.inl m) = none) : mK (l.filter fun y => decide (y ≠ m)) = mK l := by
  refine congrArg _ (List.filter_eq_self.mpr fun y hy => decide_eq_true fun e => ?_)
  rw [mK_val, if_pos (e ▸ hy)] at h
  cases h
theorem mK_put {l : List Int} {m : Int} (h : m ∉ l) : putK (mK l) (Sum.inl m) (.bl true) = mK (l ++ [m]) := by
  rw [putK_new _ (by rw [mK_val, if_neg h])]
  unfold mK
  rw [List.map_append]
  rfl
theorem mK_empty {l : List Int} : (mK l).isEmpty = l.isEmpty := by
  cases l <;> rfl
theorem take_not {α : Type} {l : List α} {j : Nat} {a : α} (nd : l.Nodup) (h : l[j]? = some a) : a ∉ l.take j := by
  have e1 : l = l.take j ++ a :: l.drop (j + 1) := by
    obtain ⟨hl, rfl⟩ := List.getElem?_eq_some_iff.mp h
    rw [List.getElem_cons_drop, List.take_append_drop]
  intro hm
  rw [e1] at nd
  exact (List.nodup_append.mp nd).2.2 _ hm _ List.mem_cons_self rfl
theorem take_next {α : Type} {l : List α} {j : Nat} {a : α} (h : l[j]? = some a) : l.take (j + 1) = l.take j ++ [a] := by
  rw [List.take_add_one, h]
  rfl
theorem same_lock {H H' : Hp} {e : Addr} {o : HO} (s : Same H H') : Same (upd H e o) (upd H' e o) := fun b x h => by
  by_cases hb : b = e
  · subst hb
    rw [upd_same] at h ⊢
    exact h
  · rw [upd_ne hb] at h ⊢
    exact s b x h
theorem free_lock {H : Hp} {e c : Addr} {o : HO} (h : upd H e o c = none) : H c = none := by
  by_cases hb : c = e
  · subst hb
    rw [upd_same] at h
    cases h
  · rw [upd_ne hb] at h
    exact h
theorem lock_free {H : Hp} {e c : Addr} {o u : HO} (he : H e = some u) (h : H c = none) : upd H e o c = none := by
  rw [upd_ne (fun z => by rw [z, he] at h; cases h)]
  exact h
theorem WaitOn.none0 {H0 H : Hp} {wt : Addr} {wf : Row → Addr} {rs : List Row} {W : Row → List (Row × Int)} (h : H wt = some (.dT [])) (f : H0 wt = none) : WaitOn H0 H wt wf (rs.take 0) W :=
  ⟨h, fun _ h => (nomatch h), fun _ h => (nomatch h), f, fun _ h => (nomatch h)⟩
theorem GoodOn.none0 {H0 H : Hp} {g : Addr} {dg : Row → Addr} {rs : List Row} {gd : Row → List Int} (h : H g = some (.dT [])) (f : H0 g = none) : GoodOn H0 H g dg (rs.take 0) gd :=
  ⟨h, fun _ h => (nomatch h), fun _ h => (nomatch h), f, fun _ h => (nomatch h)⟩
end K87
/-! peeled: the state within a round -/
namespace K87
open PySem PySem.Spec PyProof.Rows L2
structure Mid (H0 H : Hp) (L : Lot) (R : List Row) (T : List Trip) (kk : Nat) (g D go ha lt : Addr) (dg wf : Row → Addr) (ts : List Addr) (hs gs : List Row) (pg pm : List (Row × Int)) (ls : List Row) : Prop where
  sm : Same H0 H
  hha : H ha = some (.lst (ts.map V.ref))
  pts : Paired (RowAt H) ts hs
  hgo : H go = some (.dT (gs.map fun r => (keyOf r, V.int (rnd L r))))
  good : GoodOn H0 H g dg R (alive L kk pg)
  wait : WaitOn H0 H D wf R (Wl T)
  hlt : H lt = some (.dT (ls.map fun r => (keyOf r, V.bl true)))
  nd : ls.Nodup
  sub : ∀ r ∈ ls, r ∈ R
  mem : ∀ r, r ∈ ls ↔ (∃ m, (r, m) ∈ pm) ∧ alive L kk pm r = [] ∧ r ∉ gs
section
variable {H0 H H' : Hp} {L : Lot} {R : List Row} {T : List Trip} {kk : Nat} {g D go ha lt : Addr} {dg wf : Row → Addr} {ts : List Addr} {hs gs : List Row} {pg pm : List (Row × Int)} {ls : List Row}
theorem Mid.same (M : Mid H0 H L R T kk g D go ha lt dg wf ts hs gs pg pm ls) (s : Same H H') : Mid H0 H' L R T kk g D go ha lt dg wf ts hs gs pg pm ls :=
  ⟨M.sm.trans s, s _ _ M.hha, paired_same M.pts fun _ _ h => s _ _ h, s _ _ M.hgo, M.good.same s, M.wait.same s, s _ _ M.hlt, M.nd, M.sub, M.mem⟩
/-- good[row].pop(mark, None) -/
theorem Mid.pop {r : Row} {m : Int} {pp : List (Row × Int)} (M : Mid H0 H L R T kk g D go ha lt dg wf ts hs gs pp pm ls) (hr : r ∈ R) :
    Mid H0 (upd H (dg r) (.dK (mK (alive L kk (pp ++ [(r, m)]) r)))) L R T kk g D go ha lt dg wf ts hs gs (pp ++ [(r, m)]) pm ls := by
  have e := M.good.each r hr
  have n := noTup_of e (fun _ z => nomatch z)
  refine ⟨Same.put M.sm (M.good.fre r hr), (upd_ne (ne_of M.hha e (fun z => nomatch z))).trans M.hha, paired_same M.pts fun _ _ h => RowAt.but h upd_but n, (upd_ne (ne_of M.hgo e (fun z => nomatch z))).trans M.hgo, ?_,
    M.wait.but upd_but (ne_of e M.wait.top (fun z => nomatch z)) (M.wait.list_ne e (fun _ z => nomatch z)) n, (upd_ne (ne_of M.hlt e (fun z => nomatch z))).trans M.hlt, M.nd, M.sub, M.mem⟩
  refine (M.good.turn hr).congr fun x _ => ?_
  by_cases ex : x = r
  · rw [if_pos ex, ex]
  · rw [if_neg ex, alive_other ex]
theorem mem_snoc_other {pp : List (Row × Int)} {r x : Row} {m : Int} (h : x ≠ r) : (∃ y, (x, y) ∈ pp ++ [(r, m)]) ↔ ∃ y, (x, y) ∈ pp := by
  refine exists_congr fun y => ?_
  rw [List.mem_append, List.mem_singleton]
  exact or_iff_left fun e => h (Prod.mk.inj e).1
theorem alive_less {k : Nat} {pp : List (Row × Int)} {r : Row} {m : Int} (h : alive L k pp r = []) : alive L k (pp ++ [(r, m)]) r = [] := by
  rw [alive_same, h]
  rfl
/-- nothing is stored -/
theorem Mid.skip {r : Row} {m : Int} {pp : List (Row × Int)} (M : Mid H0 H L R T kk g D go ha lt dg wf ts hs gs pg pp ls) (h : ¬ (alive L kk (pp ++ [(r, m)]) r = [] ∧ r ∉ gs)) :
    Mid H0 H L R T kk g D go ha lt dg wf ts hs gs pg (pp ++ [(r, m)]) ls := by
  refine ⟨M.sm, M.hha, M.pts, M.hgo, M.good, M.wait, M.hlt, M.nd, M.sub, fun x => ?_⟩
  by_cases ex : x = r
  · subst ex
    constructor
    · intro hx
      obtain ⟨_, h2, h3⟩ := (M.mem x).mp hx
      exact absurd ⟨alive_less h2, h3⟩ h
    · rintro ⟨_, h2, h3⟩
      exact absurd ⟨h2, h3⟩ h
  · rw [M.mem x, mem_snoc_other ex, alive_other ex]
theorem put_same {f : Row → V} {x : Row} {v : V} {rs : List Row} (h : x ∈ rs) (hv : f x = v) : putK (rs.map fun r => (keyOf r, f r)) (keyOf x) v = rs.map fun r => (keyOf r, f r) := by
  unfold putK
  rw [if_pos]
  · rw [List.map_map]
    refine List.map_congr_left fun r _ => ?_
    show (if keyOf r = keyOf x then (keyOf r, v) else (keyOf r, f r)) = (keyOf r, f r)
    by_cases e : r = x
    · rw [if_pos (by rw [e]), e, hv]
    · rw [if_neg fun z => e (keyOf_inj z)]
  · rw [valV_any, valV_rows_in h]
    rfl
/-- later[row] = True -/
theorem Mid.store {r : Row} {m : Int} {pp : List (Row × Int)} (M : Mid H0 H L R T kk g D go ha lt dg wf ts hs gs pg pp ls) (hr : r ∈ R) (h1 : alive L kk (pp ++ [(r, m)]) r = []) (h2 : r ∉ gs) (n0 : H0 lt = none)
    (n1 : lt ≠ go) (n2 : lt ≠ g) (n3 : lt ≠ D) :
    ∃ ls', Mid H0 (upd H lt (.dT (putK (ls.map fun r => (keyOf r, V.bl true)) (keyOf r) (.bl true)))) L R T kk g D go ha lt dg wf ts hs gs pg (pp ++ [(r, m)]) ls' := by
  have e := M.hlt
  have n := noTup_of e (fun _ z => nomatch z)
  have key : ∀ ls' : List Row, putK (ls.map fun r => (keyOf r, V.bl true)) (keyOf r) (.bl true) = ls'.map (fun r => (keyOf r, V.bl true)) → ls'.Nodup → (∀ x, x ∈ ls' ↔ x ∈ ls ∨ x = r) →
      Mid H0 (upd H lt (.dT (putK (ls.map fun r => (keyOf r, V.bl true)) (keyOf r) (.bl true)))) L R T kk g D go ha lt dg wf ts hs gs pg (pp ++ [(r, m)]) ls' := fun ls' he hn hm => by
    refine ⟨Same.put M.sm n0, (upd_ne (ne_of M.hha e (fun z => nomatch z))).trans M.hha, paired_same M.pts fun _ _ h => RowAt.but h upd_but n, (upd_ne n1.symm).trans M.hgo, M.good.but upd_but n2 (M.good.dict_ne e (fun _ z => nomatch z)),
      M.wait.but upd_but n3 (M.wait.list_ne e (fun _ z => nomatch z)) n, by rw [upd_same, he], hn, fun x hx => ?_, fun x => ?_⟩
    · rcases (hm x).mp hx with hx | hx
      · exact M.sub x hx
      · exact hx ▸ hr
    · rw [hm]
      by_cases ex : x = r
      · subst ex
        exact ⟨fun _ => ⟨⟨m, List.mem_append_right _ (List.mem_singleton.mpr rfl)⟩, h1, h2⟩, fun _ => .inr rfl⟩
      · rw [or_iff_left ex, M.mem x, mem_snoc_other ex, alive_other ex]
  by_cases hx : r ∈ ls
  · exact ⟨ls, key ls (put_same hx rfl) M.nd fun x => ⟨.inl, fun z => z.elim id fun z => z ▸ hx⟩⟩
  · refine ⟨ls ++ [r], key _ ?_ (nd_snoc M.nd hx) fun x => by rw [List.mem_append, List.mem_singleton]⟩
    rw [put_rows hx]
    refine List.map_congr_left fun x _ => ?_
    by_cases ex : x = r
    · rw [if_pos ex]
    · rw [if_neg ex]
end
theorem upd_self {H : Hp} {a : Addr} {o : HO} (h : H a = some o) : upd H a o = H := by
  funext b
  by_cases e : b = a
  · rw [e, upd_same, h]
  · rw [upd_ne e]
/-- d.pop(k, x), there or not -/
theorem pop_any {kvs : List (Key × V)} {a : Addr} {k : Key} {Q : VK} {z : V} {H : Hp} (e : H a = some (.dK kvs)) (h : ∀ v, Q v (upd H a (.dK (dropK kvs k)))) :
    (∀ v, valV kvs k = some v → Q v (upd H a (.dK (dropK kvs k)))) ∧ (valV kvs k = none → Q z H) := by
  refine ⟨fun v _ => h v, fun n => ?_⟩
  have := h z
  rw [dropK_no (valV_not n), upd_self e] at this
  exact this
end K87
/-! == of rows, of lists and tuples of rows -/
namespace K87
open PySem PySem.Spec PyProof.Rows L2
section
variable {K : PySem.W.Frag} {H : Hp}
theorem dp_ints : ∀ r : Row, DpAll K H (r.map V.int) (r.map PyData.int)
  | [] => .nil
  | x :: r => .cons (.int x) (dp_ints r)
theorem dp_row {t : Addr} {r : Row} (h : RowAt H t r) : Dp K H (.ref t) (encR r) := .tup (SqT.of h) (dp_ints r)
theorem dp_rows : ∀ {ts : List Addr} {rs : List Row}, Paired (RowAt H) ts rs → DpAll K H (ts.map V.ref) (rs.map encR)
  | _, _, .nil => .nil
  | _, _, .cons h t => .cons (dp_row h) (dp_rows t)
def encB (rs : List Row) : PyData := .tuple (rs.map encR)
theorem dp_book {v : V} {rs : List Row} (h : BookAt H v rs) : Dp K H v (encB rs) := by
  obtain ⟨a, ts, rfl, ha, p⟩ := h
  exact .tup (SqT.of ha) (dp_rows p)
theorem dp_books : ∀ {vs : List V} {ls : List (List Row)}, Paired (BookAt H) vs ls → DpAll K H vs (ls.map encB)
  | _, _, .nil => .nil
  | _, _, .cons h t => .cons (dp_book h) (dp_books t)
end
theorem lay_ints : ∀ r : Row, PyData.canLayAll0 (r.map PyData.int) = true
  | [] => rfl
  | x :: r => by
    show (PyData.canLay0 (.int x) && PyData.canLayAll0 (r.map PyData.int)) = true
    rw [lay_ints r]
    rfl
theorem lay_row (r : Row) : PyData.canLay0 (encR r) = true := lay_ints r
theorem lay_rows : ∀ rs : List Row, PyData.canLayAll0 (rs.map encR) = true
  | [] => rfl
  | r :: rs => by
    show (PyData.canLay0 (encR r) && PyData.canLayAll0 (rs.map encR)) = true
    rw [lay_row, lay_rows rs]
    rfl
theorem lay_book (rs : List Row) : PyData.canLay0 (encB rs) = true := lay_rows rs
theorem lay_books : ∀ ls : List (List Row), PyData.canLayAll0 (ls.map encB) = true
  | [] => rfl
  | r :: rs => by
    show (PyData.canLay0 (encB r) && PyData.canLayAll0 (rs.map encB)) = true
    rw [lay_book, lay_books rs]
    rfl
theorem depth_rows : ∀ rs : List Row, PyData.depthAll (rs.map encR) ≤ 1
  | [] => Nat.zero_le _
  | r :: rs => by
    show max (PyData.depth (encR r)) (PyData.depthAll (rs.map encR)) ≤ 1
    rw [depth_encR]
    exact Nat.max_le.mpr ⟨Nat.le_refl _, depth_rows rs⟩
theorem depth_book (rs : List Row) : PyData.depth (encB rs) ≤ 2 := by
  show PyData.depthAll (rs.map encR) + 1 ≤ 2
  have := depth_rows rs
  omega
theorem depth_books : ∀ ls : List (List Row), PyData.depthAll (ls.map encB) ≤ 2
  | [] => Nat.zero_le _
  | r :: rs => by
    show max (PyData.depth (encB r)) (PyData.depthAll (rs.map encB)) ≤ 2
    exact Nat.max_le.mpr ⟨depth_book r, depth_books rs⟩
theorem shaped_of {d : PyData} (h1 : PyData.canLay0 d = true) (h2 : d.depth ≤ 64) : SeqAt.shaped d = true := by
  unfold SeqAt.shaped
  rw [h1, decide_eq_true h2]
  rfl
theorem shaped_row (r : Row) : SeqAt.shaped (encR r) = true := shaped_of (lay_row r) (by rw [depth_encR]; decide)
theorem shaped_list (rs : List Row) : SeqAt.shaped (.list (rs.map encR)) = true := shaped_of (lay_rows rs) (by
  show PyData.depthAll (rs.map encR) + 1 ≤ 64
  have := depth_rows rs
  omega)
theorem shaped_book (rs : List Row) : SeqAt.shaped (encB rs) = true := shaped_of (lay_book rs) (Nat.le_trans (depth_book rs) (by decide))
theorem shaped_books (ls : List (List Row)) : SeqAt.shaped (.tuple (ls.map encB)) = true := shaped_of (lay_books ls) (by
  show PyData.depthAll (ls.map encB) + 1 ≤ 64
  have := depth_books ls
  omega)
theorem shaped_ints (r : List Int) : SeqAt.shaped (.list (r.map .int)) = true := shaped_of (lay_ints r) (by
  show PyData.depthAll (r.map .int) + 1 ≤ 64
  rw [PySem.W.depth_ints]
  decide)
theorem eqv_nil (ds : List PyData) : PyData.eqv (.list ds) (.list []) = ds.isEmpty := by
  cases ds <;> simp [PyData.eqv, PyData.eqvAll]
theorem eqv_nilT (ds : List PyData) : PyData.eqv (.tuple ds) (.tuple []) = ds.isEmpty := by
  cases ds <;> simp [PyData.eqv, PyData.eqvAll]
theorem eqv_self {d : PyData} (h : SeqAt.shaped d = true) : PyData.eqv d d = true := by
  unfold SeqAt.shaped at h
  rw [Bool.and_eq_true] at h
  exact SeqAt.eqv_refl d h.1
end K87
namespace K87
open PySem PySem.Spec PyProof.Rows L2
section
variable {P : Program} {w : World} {K : PySem.W.Frag} {mg : Str → Option Value} {base : Heap}
abbrev nPeeled : List Str := ["above", "good", "waiting", "row", "marks", "mark", "part", "gone", "here", "number", "later"]
theorem scPeeled : FnScope nPeeled ["above"] (defScope sPeeled) := ⟨rfl, rfl, rfl, by decide +kernel, rfl, by decide +kernel, by decide +kernel⟩
def spPeeled : Sp := fun vs H Q _ => ∃ (e : Addr) (L : Lot) (n : Nat), vs = [.ref e] ∧ LevelAt H e L n ∧ L.many ≤ 6 ∧ n ≤ 4 ∧ ∀ H' p, Same H H' → H p = none → GoneAt H' p L n → Q (.ref p) H'
set_option maxHeartbeats 4000000 in
theorem ok_peeled {f : Addr} {fd : FuncData} {k : Nat} (F : Fun K "peeled" "peeled" sPeeled f fd) (B : Blt mg) (CP : Cl P w K mg base 1 "parts_with" ["row", "mark"] spParts) : FnOk P w K mg base CX0 2 f fd ["above"] spPeeled := by
  refine F.ok scPeeled (fun vs H Q E h => ?_) (fun cdv A outer s H vs Q E hr h => ?_)
  · obtain ⟨v, L, n, rfl, _⟩ := h
    rfl
  · obtain ⟨e, L, n, rfl, hlev, hm, hn, q⟩ := h
    have hu := hu_of hr
    have hu0 := hr.units0
    have nd := scPeeled.nd
    have line := line_ge
    refine ⟨_, pss_cons (ps_asg (pe_tup (pa_cons pe_dnewT (pa_cons (pe_lock (pe_dcT (own := [("row", 3)]) (g := gName 3) (tt := tYes) rfl hu nd (pi_keys (pv 0)) (blkOk_by (N := nPeeled) (sc := defScope sPeeled) (by decide +kernel))
          (fun _ _ _ _ _ => pg_name (i := 3) nd rfl (Or.inl rfl)) (fun _ _ _ _ _ => pts_nil) (fun _ _ _ _ _ => pv 3) (fun _ _ _ _ _ => pe_lst pa_nil))) pa_nil)))
        (pg_tup rfl (pgs_cons (pg_name (i := 1) nd rfl (.inr rfl)) (pgs_cons (pg_name (i := 2) nd rfl (.inl rfl)) pgs_nil))))
      (pss_cons (ps_lock (ps_for PassesOwn.never rfl (pi_itemsT (pv 0)) (pg_tup rfl (pgs_cons (pg_name (i := 3) nd rfl (.inl rfl)) (pgs_cons (pg_name (i := 4) nd rfl (.inl rfl)) pgs_nil)))
          (pss_cons (ps_dput hu (pv 1) (pv 3) (pe_dc (own := [("mark", 5)]) (g := gName 5) (tt := tYes) rfl nd (pi_list (pv 4)) (blkOk_by (N := nPeeled) (sc := defScope sPeeled) (by decide +kernel))
              (fun _ _ _ _ _ => pg_name (i := 5) nd rfl (Or.inl rfl)) (fun _ _ _ _ _ => pts_nil) (fun _ _ _ _ _ => pv 5) (fun _ _ _ _ _ => pe_bl)) rfl)
          (pss_one (ps_for PassesOwn.never rfl (pi_list (pv 4)) (pg_name (i := 5) nd rfl (.inl rfl))
            (pss_one (ps_for PassesOwn.never rfl (pi_list (pc CP hr (by rfl) (pa_cons (pv 3) (pa_cons (pv 5) pa_nil)))) (pg_name (i := 6) nd rfl (.inl rfl))
              (pss_one (ps_expr (pe_bm PySem.F.plainAttrs_list PySem.F.slot_list_append PySem.F.type_list_append mt_append (pe_dget hu (pv 2) (pv 6) (fun _ _ => rfl)) (pa_cons (pe_tup (pa_cons (pv 3) (pa_cons (pv 5) pa_nil))) pa_nil)))))))))))
      (pss_cons (ps_par3 (i := 7) (j := 8) (l := 9) rfl nd rfl rfl rfl (by decide) (by decide) (by decide) rfl rfl rfl
          (pa_cons pe_dnewT (pa_cons (pe_lock (pe_lc (own := [("row", 3)]) (g := gName 3) rfl nd (pi_keys (pv 0)) (blkOk_by (N := nPeeled) (sc := defScope sPeeled) (by decide +kernel))
            (fun _ _ _ _ _ => pg_name (i := 3) nd rfl (Or.inl rfl)) (fun _ _ _ _ _ => pts_one (pt_cmpR (op_eqE hu0) (pe_dget hu (pv 1) (pv 3) (fun _ _ => rfl)) pe_dnewK (nomark _))) (fun _ _ _ _ _ => pv 3)))
            (pa_cons pe_int pa_nil))) (by rfl))
      (pss_cons (ps_while PassesOwn.never (pt_cmpR (op_neD hr.units) (pv 8) (pe_lst pa_nil) (nomark _))
          (pss_cons (ps_for PassesOwn.never rfl (pi_list (pv 8)) (pg_name (i := 3) nd rfl (.inl rfl)) (pss_one (ps_dput hu (pv 7) (pv 3) (pv 9) rfl)))
          (pss_cons (ps_set (i := 10) nd rfl (.inl rfl) pe_dnewT)
          (pss_cons (ps_for PassesOwn.never rfl (pi_list (pv 8)) (pg_name (i := 6) nd rfl (.inl rfl))
            (pss_one (ps_for PassesOwn.never rfl (pi_list (pe_dget hu (pv 2) (pv 6) (fun _ _ => rfl))) (pg_tup rfl (pgs_cons (pg_name (i := 3) nd rfl (.inl rfl)) (pgs_cons (pg_name (i := 5) nd rfl (.inl rfl)) pgs_nil)))
              (pss_cons (ps_expr (pe_dpop2 (pe_dget hu (pv 1) (pv 3) (fun _ _ => rfl)) (pv 5) pe_non ⟨rfl, rfl, rfl, rfl⟩))
              (pss_one (ps_if (PW.pt (pw_and (pt_cmpR (op_eqE hu0) (pe_dget hu (pv 1) (pv 3) (fun _ _ => rfl)) pe_dnewK (nomark _)) (pw_and1 (pt_cmp (pc_dnotin hu (pv 3) (pv 7))))))
                (pss_one (ps_dput hu (pv 10) (pv 3) pe_bl rfl)) pss_nil))))))
          (pss_one (ps_par (i := 8) (j := 9) rfl nd rfl rfl (by decide) rfl rfl
            (pa_cons (pe_callTy (call_list_dT rfl) (by rfl) B.list (by decide +kernel) (pa_cons (pv 10) pa_nil)) (pa_cons (pe_op op_add (pv 9) pe_int) pa_nil)) (by rfl)))))))
      (pss_one (ps_ret (pv 7)))))), ?_⟩
    obtain ⟨mf, he, hmf⟩ := id hlev
    have rl : (rowsOf L n).length ≤ 1296 := rowsOf_few hm hn
    have ndR := rowsOf_nodup L n
    generalize hR : rowsOf L n = R at he hmf rl ndR
    -- good, waiting = {}, {row: [] for row in above}
    intro g ng
    have ne_eg : e ≠ g := ne_of_none he ng
    refine ⟨e, _, (upd_ne ne_eg).trans he, trivial, fun od => ?_⟩
    refine ⟨_, rfl, e, od, rfl, .inr ⟨_, upd_same, fun D nD => ?_⟩⟩
    have fD1 := free_lock nD
    have fD : H D = none := (same_upd ng).free fD1
    have ne_gD : g ≠ D := ne_of_none upd_same fD1
    refine dcT_keysT (fun j H2 => Same (upd (upd H g (.dT [])) e (.frz od (.dT (R.map fun r => (keyOf r, V.ref (mf r)))))) H2 ∧ ∃ wf, WaitOn H H2 D wf (R.take j) fun _ => [])
      ⟨same_upd nD, fun _ => 0, .none0 upd_same fD⟩ (fun j H2 _ ⟨sm, _⟩ => sm _ _ upd_same) ?_ ?_
    · rintro j k v H2 q hk ⟨sm, wf, w2⟩ hq
      obtain ⟨r, hr, hkv⟩ := map_get hk
      obtain ⟨rfl, rfl⟩ := Prod.mk.inj hkv
      refine ⟨rfl, _, rfl, Nat.zero_le _, fun p np => ?_⟩
      have w3 := w2.same (same_upd (o := .lst []) np)
      have fp : H p = none := (same_upd ng).free (free_lock (Same.free sm np))
      refine ⟨_, keyOf r, q, rfl, same_upd np _ _ hq, w3.top, ?_, Same.put (Same.put sm (Same.free sm np)) nD, fun x => if x = r then p else wf x, ?_⟩
      · rw [List.length_map, List.length_take]
        omega
      · rw [take_next hr]
        exact w3.new (take_not ndR hr) upd_same (fun x hx => by
          obtain ⟨ts, h1, _⟩ := w2.each x hx
          exact ne_of_none h1 np) fp
    · rintro H2 ⟨sm, wf, w2⟩
      rw [List.length_map, List.take_length] at w2
      have e2 := sm _ _ upd_same
      refine ⟨e2, ?_⟩
      have s3 : Same (upd H g (.dT [])) (upd H2 e (.dT (R.map fun r => (keyOf r, V.ref (mf r))))) := same_unlock sm ((upd_ne ne_eg).trans he)
      have w3 : WaitOn H (upd H2 e (.dT (R.map fun r => (keyOf r, V.ref (mf r))))) D wf R fun _ => [] := w2.but upd_but (ne_of_none he fD) (w2.list_ne e2 (fun _ z => nomatch z)) (noTup_of e2 (fun _ z => nomatch z))
      refine ⟨by show 2 ≤ sizeLine; omega, fun p np => ?_⟩
      refine ⟨p, _, rfl, SqT.of upd_same, rfl, _, _, rfl, _, _, rfl, rfl, ?_⟩
      have s4 : Same (upd H g (.dT [])) (upd (upd H2 e (.dT (R.map fun r => (keyOf r, V.ref (mf r))))) p (.tup [V.ref g, V.ref D])) := s3.trans (same_upd np)
      have w4 := w3.same (same_upd (o := .tup [V.ref g, V.ref D]) np)
      generalize upd (upd H2 e (.dT (R.map fun r => (keyOf r, V.ref (mf r))))) p (.tup [V.ref g, V.ref D]) = H4 at s4 w4
      have g4 := s4 _ _ upd_same
      have s04 : Same H H4 := (same_upd ng).trans s4
      have e4 := s04 _ _ he
      clear s4 w3 s3 e2 w2 sm np
      -- for row, marks in above.items()
      refine ⟨e, _, e4, trivial, fun od2 => ?_⟩
      generalize hu2 : HO.dT (R.map fun r => (keyOf r, V.ref (mf r))) = u at he e4
      have sB : Same (upd H e (.frz od2 u)) (upd H4 e (.frz od2 u)) := same_lock s04
      have fg : upd H e (.frz od2 u) g = none := lock_free he ng
      have wB : WaitOn H (upd H4 e (.frz od2 u)) D wf R fun _ => [] := w4.but upd_but (ne_of_none he fD) (w4.list_ne e4 (fun _ z => by rw [← hu2] at z; cases z)) (noTup_of e4 (fun _ z => by rw [← hu2] at z; cases z))
      refine ⟨_, rfl, e, od2, _, rfl, by rw [hu2]; exact upd_same, ?_⟩
      have m4 : ∀ {H5 : Hp}, Same (upd H e (.frz od2 u)) H5 → ∀ r ∈ R, H5 (mf r) = some (.lst ((ab L r).map V.int)) := fun s r hr => s _ _ ((upd_ne (ne_of (hmf r hr) he (fun z => by rw [← hu2] at z; cases z))).trans (hmf r hr))
      refine for_itemsT (fun j σ H5 => ∃ x3 x4 x5 x6, σ = [some (.ref e), some (.ref g), some (.ref D), x3, x4, x5, x6, none, none, none, none] ∧ Same (upd H e (.frz od2 u)) H5 ∧
          ∃ dg, GoodOn H H5 g dg (R.take j) (ab L) ∧ WaitOn H H5 D wf R (Wl ((R.take j).flatMap (tripsOf L))))
        ⟨none, none, none, none, rfl, sB, fun _ => 0, .none0 ((upd_ne (Ne.symm ne_eg)).trans g4) ng, wB⟩
        (fun j σ H5 _ ⟨_, _, _, _, _, s, _⟩ => by rw [hu2]; exact s _ _ upd_same) ?_ ?_
      · rintro j k v σ H5 T q hk ⟨x3, x4, x5, x6, rfl, s5, dg, gd5, w5⟩ nT hq
        obtain ⟨r, hr, hkv⟩ := map_get hk
        obtain ⟨rfl, rfl⟩ := Prod.mk.inj hkv
        rw [key_row] at hq
        have hrR : r ∈ R := List.mem_of_getElem? hr
        refine ⟨T, _, rfl, SqT.of upd_same, rfl, _, _, rfl, _, _, rfl, rfl, ?_⟩
        have s6 : Same (upd H e (.frz od2 u)) (upd H5 T (.tup [V.ref q, V.ref (mf r)])) := s5.trans (same_upd nT)
        have gd6 := gd5.same (same_upd (o := .tup [V.ref q, V.ref (mf r)]) nT)
        have w6 := w5.same (same_upd (o := .tup [V.ref q, V.ref (mf r)]) nT)
        have q6 := same_upd (o := .tup [V.ref q, V.ref (mf r)]) nT _ _ hq
        generalize upd H5 T (.tup [V.ref q, V.ref (mf r)]) = H6 at s6 gd6 w6 q6
        -- good[row] = {mark: True for mark in marks}
        refine ⟨_, rfl, mf r, rfl, ⟨_, SqL.of (m4 s6 r hrR)⟩, fun c nc => ?_⟩
        have fc : H c = none := free_lock (s6.free nc)
        refine dc_list (K := K) (a := mf r) (xs := (ab L r).map V.int) (fun y H7 => Same H6 H7 ∧ H7 c = some (.dK (mK ((ab L r).take y)))) ⟨same_upd nc, upd_same⟩ (fun y H7 _ ⟨s7, _⟩ => SqL.of (s7 _ _ (m4 s6 r hrR))) ?_ ?_
        · rintro y z H7 hy ⟨s7, hc7⟩
          obtain ⟨m, hm1, rfl⟩ := map_get hy
          refine ⟨rfl, _, rfl, _, Sum.inl m, rfl, hc7, ?_, Same.put s7 nc, ?_⟩
          · have := ab_length L r
            rw [List.length_map, List.length_take]
            omega
          · rw [upd_same, mK_put (take_not (ab_nodup L r) hm1), take_next hm1]
        · rintro H7 ⟨s7, hc7⟩
          rw [List.length_map, List.take_length] at hc7
          have gd7 := gd6.same s7
          have w7 := w6.same s7
          have q7 := s7 _ _ q6
          refine ⟨_, rfl, _, rfl, g, _, rfl, DPut.t (k := keyOf r) gd7.top (by rw [key_row]; exact q7) ?_, ?_⟩
          · rw [List.length_map, List.length_take]
            omega
          have gd8 := gd7.new (take_not ndR hr) hc7 (fun x hx => ne_of_none (gd6.each x hx) nc) fc
          have w8 := w7.but (upd_but (o := .dT (putK ((R.take j).map fun r => (keyOf r, V.ref (dg r))) (keyOf r) (.ref c)))) ne_gD (w7.list_ne gd7.top (fun _ z => nomatch z)) (noTup_of gd7.top (fun _ z => nomatch z))
          have s8 : Same (upd H e (.frz od2 u)) (upd H7 g (.dT (putK ((R.take j).map fun r => (keyOf r, V.ref (dg r))) (keyOf r) (.ref c)))) := Same.put (s6.trans s7) fg
          have q8 : RowAt (upd H7 g (.dT (putK ((R.take j).map fun r => (keyOf r, V.ref (dg r))) (keyOf r) (.ref c)))) q r := RowAt.but q7 upd_but (noTup_of gd7.top (fun _ z => nomatch z))
          rw [← take_next hr] at gd8
          generalize upd H7 g (.dT (putK ((R.take j).map fun r => (keyOf r, V.ref (dg r))) (keyOf r) (.ref c))) = H8 at gd8 w8 s8 q8
          generalize (fun x => if x = r then c else dg x) = dg8 at gd8
          -- for mark in marks
          refine ⟨_, rfl, mf r, rfl, ⟨_, SqL.of (m4 s8 r hrR)⟩, ?_⟩
          refine for_list (K := K) (a := mf r) (xs := (ab L r).map V.int) (fun kx σ H9 => ∃ x5 x6, σ = [some (.ref e), some (.ref g), some (.ref D), some (.ref q), some (.ref (mf r)), x5, x6, none, none, none, none] ∧ Same (upd H e (.frz od2 u)) H9 ∧
              RowAt H9 q r ∧ GoodOn H H9 g dg8 (R.take (j + 1)) (ab L) ∧ WaitOn H H9 D wf R (Wl ((R.take j).flatMap (tripsOf L) ++ ((ab L r).take kx).flatMap (trips1 r))))
            ⟨x5, x6, rfl, s8, q8, gd8, by rw [List.take_zero, List.flatMap_nil, List.append_nil]; exact w8⟩ (fun kx σ H9 _ ⟨_, _, _, s9, _⟩ => SqL.of (m4 s9 r hrR)) ?_ ?_
          · rintro kx z σ H9 hkx ⟨x5, x6, rfl, s9, q9, gd9, w9⟩
            obtain ⟨m, hm1, rfl⟩ := map_get hkx
            have hrn : r ∈ rowsOf L n := hR ▸ hrR
            have hrl : r.length ≤ 4 := by rw [(mem_rowsOf.mp hrn).2]; exact hn
            have hma : m ∈ ab L r := List.mem_of_getElem? hm1
            -- for part in parts_with(row, mark)
            refine ⟨_, rfl, _, rfl, q, r, m, rfl, q9, by omega, fun H10 lp ts s10 nlp hlp pr => ?_⟩
            have w10 := w9.same s10
            have nlw : ∀ x ∈ R, wf x ≠ lp := fun x hx => by
              obtain ⟨us, h1, _⟩ := w9.each x hx
              exact ne_of_none h1 nlp
            refine ⟨lp, rfl, ⟨_, SqL.of hlp⟩, ?_⟩
            have hA : ((R.take j).flatMap (tripsOf L) ++ ((ab L r).take kx).flatMap (trips1 r)).length ≤ 40000 := by
              rw [List.length_append]
              have h1 := flatMap_length_le (f := tripsOf L) (l := R.take j) (n := 24) fun x hx => by
                have hxn : x ∈ rowsOf L n := hR ▸ List.mem_of_mem_take hx
                refine Nat.le_trans (tripsOf_length L x) (Nat.le_trans (Nat.mul_le_mul hm (show x.length ≤ 4 by rw [(mem_rowsOf.mp hxn).2]; exact hn)) (by decide))
              have h2 := flatMap_length_le (f := trips1 r) (l := (ab L r).take kx) (n := 4) fun x _ => by rw [trips1_length]; exact hrl
              have h3 : ((R.take j).length) ≤ 1296 := by rw [List.length_take]; omega
              have h4 : ((ab L r).take kx).length ≤ 6 := by
                rw [List.length_take]
                have := ab_length L r
                omega
              omega
            generalize htr : (R.take j).flatMap (tripsOf L) ++ ((ab L r).take kx).flatMap (trips1 r) = tr at w9 w10 hA
            refine for_list (K := K) (a := lp) (xs := ts.map V.ref) (fun y σ H11 => ∃ x6, σ = [some (.ref e), some (.ref g), some (.ref D), some (.ref q), some (.ref (mf r)), some (.int m), x6, none, none, none, none] ∧ Same (upd H e (.frz od2 u)) H11 ∧
                RowAt H11 q r ∧ H11 lp = some (.lst (ts.map V.ref)) ∧ Paired (RowAt H11) ts (leav r m) ∧ GoodOn H H11 g dg8 (R.take (j + 1)) (ab L) ∧ WaitOn H H11 D wf R (Wl (tr ++ ((leav r m).take y).map fun p => (r, m, p))))
              ⟨x6, rfl, s9.trans s10, s10 _ _ q9, hlp, pr, gd9.same s10, by rw [List.take_zero, List.map_nil, List.append_nil]; exact w10⟩ (fun y σ H11 _ ⟨_, _, _, _, h, _⟩ => SqL.of h) ?_ ?_
            · rintro y z σ H11 hy ⟨x6, rfl, s11, q11, l11, p11, gd11, w11⟩
              obtain ⟨t1, ht1, rfl⟩ := map_get hy
              obtain ⟨x, hx, hrx⟩ := paired_at p11 ht1
              have hxR : x ∈ R := hR ▸ leav_rowsOf hrn hma (List.mem_of_getElem? hx)
              obtain ⟨us, hus, pus⟩ := w11.each x hxR
              -- waiting[part].append((row, mark))
              refine ⟨_, rfl, _, rfl, D, .ref (wf x), rfl, (valV_rows_in (f := fun r => V.ref (wf r)) hxR) ▸ DGet.t (k := keyOf x) w11.top (by rw [key_row]; exact hrx), ?_⟩
              refine ⟨.inl ⟨rfl, _, SqL.of hus⟩, _, rfl, _, rfl, by show 2 ≤ sizeLine; omega, fun t2 nt2 => ?_⟩
              have hus2 := same_upd (o := .tup [V.ref q, V.int m]) nt2 _ _ hus
              refine ⟨wf x, _, .ref t2, rfl, rfl, hus2, ?_, ?_⟩
              · rw [List.length_map, Paired.length pus]
                refine Nat.lt_of_le_of_lt (Wl_length _ _) ?_
                rw [List.length_append, List.length_map, List.length_take, leav_length]
                omega
              have nwx : noTup (upd H11 t2 (.tup [V.ref q, V.int m])) (wf x) := noTup_of hus2 (fun _ z => nomatch z)
              have sb : SameBut (wf x) H11 (upd (upd H11 t2 (.tup [V.ref q, V.int m])) (wf x) (.lst (us.map V.ref ++ [V.ref t2]))) := SameBut.put (.of (same_upd nt2)) (.inr rfl)
              have nw11 : noTup H11 (wf x) := noTup_of hus (fun _ z => nomatch z)
              refine ⟨_, rfl, Same.put (s11.trans (same_upd nt2)) (lock_free he (w11.fre x hxR)), RowAt.but q11 sb nw11, sb _ _ (nlw x hxR).symm l11, paired_same p11 fun _ _ h => RowAt.but h sb nw11, ?_, ?_⟩
              · exact gd11.but sb (ne_of hus gd11.top (fun z => nomatch z)) (gd11.dict_ne hus (fun _ z => nomatch z))
              · refine ((w11.same (same_upd (o := .tup [V.ref q, V.int m]) nt2)).app (p := (r, m)) hxR hus2 ⟨q, upd_same, same_upd nt2 _ _ q11⟩).congr fun z _ => ?_
                rw [map_next hx, ← List.append_assoc, Wl_snoc]
            · rintro σ H11 ⟨x6, rfl, s11, q11, l11, p11, gd11, w11⟩
              rw [List.length_map, Paired.length pr, List.take_length] at w11
              refine ⟨_, _, rfl, s11, q11, gd11, ?_⟩
              rw [flatMap_next hm1, ← List.append_assoc, htr]
              exact w11
          · rintro σ H9 ⟨x5, x6, rfl, s9, q9, gd9, w9⟩
            rw [List.length_map, List.take_length] at w9
            refine ⟨_, _, _, _, rfl, s9, dg8, gd9, ?_⟩
            rw [flatMap_next hr]
            exact w9
      · rintro σ H5 ⟨x3, x4, x5, x6, rfl, s5, dg, gd5, w5⟩
        rw [List.length_map, List.take_length] at gd5 w5
        have e5 := s5 _ _ upd_same
        refine ⟨e5, ?_⟩
        have s6 : Same H (upd H5 e u) := same_unlock s5 he
        have gd6 : GoodOn H (upd H5 e u) g dg R (ab L) := gd5.but upd_but ne_eg (gd5.dict_ne e5 (fun _ z => nomatch z))
        have w6 : WaitOn H (upd H5 e u) D wf R (Wl (R.flatMap (tripsOf L))) := w5.but upd_but (ne_of_none he fD) (w5.list_ne e5 (fun _ z => nomatch z)) (noTup_of e5 (fun _ z => nomatch z))
        generalize upd H5 e u = H6 at s6 gd6 w6
        have htr : R.flatMap (tripsOf L) = allTr L n := by
          unfold allTr
          rw [hR]
        rw [htr] at w6
        clear e5 gd5 w5 s5 wB e4 s04 g4 w4 sB
        -- gone, here, number = {}, [row for row in above if good[row] == {}], 0
        intro go ngo
        have fgo : H go = none := s6.free ngo
        have e6 := (same_upd (o := .dT []) ngo) _ _ (s6 _ _ he)
        refine ⟨e, u, e6, by rw [← hu2]; trivial, fun od3 => ?_⟩
        refine ⟨_, rfl, e, od3, rfl, .inr ⟨_, by rw [hu2]; exact upd_same, fun hp nhp => ?_⟩⟩
        have s7 : Same H (upd H6 go (.dT [])) := s6.trans (same_upd ngo)
        have gd7 := gd6.same (same_upd (o := .dT []) ngo)
        have w7 := w6.same (same_upd (o := .dT []) ngo)
        have go7 : (upd H6 go (.dT [])) go = some (.dT []) := upd_same
        have ne_g_go : g ≠ go := ne_of_none gd6.top ngo
        have ne_D_go : D ≠ go := ne_of_none w6.top ngo
        generalize upd H6 go (.dT []) = H7 at s7 gd7 w7 go7 e6 nhp
        have gdL : GoodOn H (upd H7 e (.frz od3 u)) g dg R (ab L) := gd7.but upd_but ne_eg (gd7.dict_ne e6 (fun _ z => by rw [← hu2] at z; cases z))
        refine lc_keysT (fun j H8 => Same (upd H7 e (.frz od3 u)) H8 ∧ ∃ ts : List Addr, H8 hp = some (.lst (ts.map V.ref)) ∧ Paired (RowAt H8) ts ((R.take j).filter fun r => decide (ab L r = [])))
          ⟨same_upd nhp, [], upd_same, .nil⟩ (fun j H8 _ ⟨s8, _⟩ => by rw [hu2]; exact s8 _ _ upd_same) ?_ ?_
        · rintro j k v H8 q2 hk ⟨s8, ts, hts, pts⟩ hq2
          obtain ⟨r, hr, hkv⟩ := map_get hk
          obtain ⟨rfl, rfl⟩ := Prod.mk.inj hkv
          have hrR : r ∈ R := List.mem_of_getElem? hr
          have gd8 := gdL.same s8
          refine ⟨rfl, _, rfl, _, rfl, g, .ref (dg r), rfl, (valV_rows_in (f := fun r => V.ref (dg r)) hrR) ▸ DGet.t (k := keyOf r) gd8.top hq2, fun p np => ?_⟩
          refine ⟨dg r, p, mK (ab L r), rfl, rfl, same_upd np _ _ (gd8.each r hrR), upd_same, _, rfl, ?_⟩
          rw [mK_empty]
          have hte : ((ab L r).isEmpty = true) ↔ ab L r = [] := List.isEmpty_iff
          have s9 : Same H8 (upd H8 p (.dK [])) := same_upd np
          have h9 := s9 _ _ hts
          refine ite2 (fun hc => ?_) (fun hc => ?_)
          · refine ⟨_, rfl, _, h9, ?_, Same.put (s8.trans s9) nhp, ts ++ [q2], by rw [upd_same, List.map_append]; rfl, ?_⟩
            · rw [List.length_map, Paired.length pts]
              refine Nat.lt_of_le_of_lt (List.length_filter_le _ _) ?_
              rw [List.length_take]
              omega
            · rw [filter_next hr, if_pos (decide_eq_true (hte.mp hc))]
              rw [key_row] at hq2
              have n9 := noTup_of h9 (fun _ z => nomatch z)
              exact paired_snoc (paired_same pts fun _ _ h => RowAt.but (RowAt.same h s9) upd_but n9) (RowAt.but (RowAt.same hq2 s9) upd_but n9)
          · refine ⟨s8.trans s9, ts, h9, ?_⟩
            rw [filter_next hr, if_neg (by rw [decide_eq_true_iff]; exact fun z => hc (hte.mpr z)), List.append_nil]
            exact paired_same pts fun _ _ h => RowAt.same h s9
        · rintro H8 ⟨s8, ts, hts, pts⟩
          rw [List.length_map, List.take_length] at pts
          have e8 := s8 _ _ upd_same
          refine ⟨e8, ?_⟩
          have s9 : Same H7 (upd H8 e u) := same_unlock s8 e6
          have n8 : noTup H8 e := noTup_of e8 (fun _ z => nomatch z)
          have h9 := (upd_ne (o := u) (ne_of hts e8 (fun z => nomatch z))).trans hts
          have p9 := paired_same pts fun _ _ h => RowAt.but h (upd_but (o := u)) n8
          have gd9 := gd7.same s9
          have w9 := w7.same s9
          have go9 := s9 _ _ go7
          have sm9 := s7.trans s9
          generalize upd H8 e u = H9 at s9 h9 p9 gd9 w9 go9 sm9
          clear hts pts e8 n8 s9 s8 gdL gd7 w7 s7 go7 e6 gd6 w6 s6
          refine ⟨_, _, _, rfl, ?_⟩
          -- while here != []
          refine ⟨fun ms σ Hw => ∃ (kk : Nat) (ha : Addr) (ts : List Addr) (hs gs : List Row) (x3 x4 x5 x6 x10 : Option V),
              σ = [some (.ref e), some (.ref g), some (.ref D), x3, x4, x5, x6, some (.ref go), some (.ref ha), some (.int (kk : Int)), x10] ∧ ms + gs.length = R.length ∧ Same H Hw ∧ Hw ha = some (.lst (ts.map V.ref)) ∧
              Paired (RowAt Hw) ts hs ∧ hs.Nodup ∧ (∀ r, r ∈ hs ↔ r ∈ rowsOf L n ∧ Rnd L r kk) ∧ Hw go = some (.dT (gs.map fun r => (keyOf r, V.int (rnd L r)))) ∧ gs.Nodup ∧ (∀ r, r ∈ gs ↔ r ∈ rowsOf L n ∧ goneBy L kk r = true) ∧
              GoodOn H Hw g dg R (alive L kk []) ∧ WaitOn H Hw D wf R (Wl (allTr L n)),
            ⟨R.length, 0, hp, ts, _, [], _, _, _, _, _, rfl, rfl, sm9, h9, p9, ndR.sublist List.filter_sublist, fun r => ?_, go9, List.nodup_nil, fun r => ⟨fun z => (nomatch z), fun z => absurd z.2 (show ¬ (false = true) by decide)⟩, gd9.congr fun r _ => (alive_zero L r).symm, w9⟩, ?_⟩
          · rw [List.mem_filter, decide_eq_true_iff, hR, rnd_zero]
          · clear h9 p9 gd9 w9 go9 sm9 ts
            rintro ms σ Hw ⟨kk, ha, ts, hs, gs, x3, x4, x5, x6, x10, rfl, hms, sm, hha, pts, hsn, hh, hgo, gsn, hg, gd, w⟩
            refine ⟨_, rfl, Nat.zero_le _, fun p np => ?_⟩
            have s1 : Same Hw (upd Hw p (.lst [])) := same_upd np
            refine ⟨.list (hs.map encR), .list ([] : List PyData), .lst (SqL.of (s1 _ _ hha)) (dp_rows (paired_same pts fun _ _ h => RowAt.same h s1)), .lst (SqL.of upd_same) .nil, shaped_list hs, shaped_ints [], _, rfl, ?_⟩
            rw [eqv_nil]
            have sm1 := sm.trans s1
            have hha1 := s1 _ _ hha
            have pts1 := paired_same pts fun _ _ h => RowAt.same h s1
            have hgo1 := s1 _ _ hgo
            have gd1 := gd.same s1
            have w1 := w.same s1
            generalize upd Hw p (.lst []) = H1 at sm1 hha1 pts1 hgo1 gd1 w1
            clear s1 sm hha pts hgo gd w np
            refine ite2 (fun hc => ?_) (fun hc => ?_)
            · -- one more round
              refine ⟨_, fun _ _ h => h, ?_⟩
              have hsR : ∀ r ∈ hs, r ∈ R := fun r hr => hR ▸ ((hh r).mp hr).1
              have gsR : ∀ r ∈ gs, r ∈ R := fun r hr => hR ▸ ((hg r).mp hr).1
              have hsl : hs.length ≤ 1296 := Nat.le_trans (nodup_le hsn ndR hsR) rl
              have gsl : gs.length ≤ 1296 := Nat.le_trans (nodup_le gsn ndR gsR) rl
              have apart : ∀ r ∈ hs, r ∉ gs := fun r h1 h2 => by
                have h3 := ((hh r).mp h1).2.2
                rw [((hg r).mp h2).2] at h3
                cases h3
              -- for row in here: gone[row] = number
              refine ⟨_, rfl, ha, rfl, ⟨_, SqL.of hha1⟩, ?_⟩
              refine for_list (K := K) (a := ha) (xs := ts.map V.ref) (fun i σ H2 => ∃ x3, σ = [some (.ref e), some (.ref g), some (.ref D), x3, x4, x5, x6, some (.ref go), some (.ref ha), some (.int (kk : Int)), x10] ∧ Same H H2 ∧ H2 ha = some (.lst (ts.map V.ref)) ∧
                  Paired (RowAt H2) ts hs ∧ H2 go = some (.dT ((gs ++ hs.take i).map fun r => (keyOf r, V.int (rnd L r)))) ∧ GoodOn H H2 g dg R (alive L kk []) ∧ WaitOn H H2 D wf R (Wl (allTr L n)))
                ⟨x3, rfl, sm1, hha1, pts1, by rw [List.take_zero, List.append_nil]; exact hgo1, gd1, w1⟩ (fun i σ H2 _ ⟨_, _, _, h, _⟩ => SqL.of h) ?_ ?_
              · rintro i z σ H2 hi ⟨x3, rfl, sm2, ha2, pt2, go2, gd2, w2⟩
                obtain ⟨t1, ht1, rfl⟩ := map_get hi
                obtain ⟨r, hr, hrow⟩ := paired_at pt2 ht1
                have hrm := List.mem_of_getElem? hr
                have hnew : r ∉ gs ++ hs.take i := fun z => (List.mem_append.mp z).elim (apart r hrm) (take_not hsn hr)
                have n2 := noTup_of go2 (fun _ z => nomatch z)
                refine ⟨_, rfl, _, rfl, _, rfl, go, _, rfl, DPut.t (k := keyOf r) go2 (by rw [key_row]; exact hrow) ?_, _, rfl, Same.put sm2 fgo, (upd_ne (ne_of ha2 go2 (fun z => nomatch z))).trans ha2, paired_same pt2 fun _ _ h => RowAt.but h upd_but n2, ?_,
                  gd2.but upd_but ne_g_go.symm (gd2.dict_ne go2 (fun _ z => nomatch z)), w2.but upd_but ne_D_go.symm (w2.list_ne go2 (fun _ z => nomatch z)) n2⟩
                · rw [List.length_map, List.length_append, List.length_take]
                  omega
                · rw [upd_same, put_rows hnew, take_next hr, List.append_assoc]
                  refine congrArg (fun z => some (HO.dT z)) (List.map_congr_left fun x _ => ?_)
                  by_cases ex : x = r
                  · rw [if_pos ex, ex]
                    refine congrArg (fun z => (keyOf r, V.int z)) ?_
                    show (kk : Int) = ((roundOf L r).getD 0 : Nat)
                    rw [roundOf_some.mpr ((hh r).mp hrm).2]
                    rfl
                  · rw [if_neg ex]
              · clear x3 sm1 hha1 pts1 hgo1 gd1 w1
                rintro σ H2 ⟨x3, rfl, sm2, ha2, pt2, go2, gd2, w2⟩
                rw [List.length_map, Paired.length pt2, List.take_length] at go2
                have hg2 : ∀ r, r ∈ gs ++ hs ↔ r ∈ rowsOf L n ∧ goneBy L (kk + 1) r = true := fun r => by
                  rw [List.mem_append, hg, hh, goneBy_next]
                  constructor
                  · rintro (⟨h1, h2⟩ | ⟨h1, h2⟩)
                    · exact ⟨h1, .inl h2⟩
                    · exact ⟨h1, .inr h2⟩
                  · rintro ⟨h1, h2 | h2⟩
                    · exact .inl ⟨h1, h2⟩
                    · exact .inr ⟨h1, h2⟩
                have gsn2 : (gs ++ hs).Nodup := List.nodup_append.mpr ⟨gsn, hsn, fun a h1 b h2 e => apart b h2 (e ▸ h1)⟩
                have hlen : gs.length < (gs ++ hs).length := by
                  rw [List.length_append]
                  cases hs with
                  | nil => exact nomatch (show false = true from hc)
                  | cons a b =>
                    rw [List.length_cons]
                    omega
                have hle : (gs ++ hs).length ≤ R.length := nodup_le gsn2 ndR fun r hr => hR ▸ ((hg2 r).mp hr).1
                generalize hgs2 : gs ++ hs = gs2 at go2 hg2 gsn2 hlen hle
                -- later = {}
                intro lt nlt
                have flt : H lt = none := Same.free sm2 nlt
                have n1 : lt ≠ go := (ne_of_none go2 nlt).symm
                have n2 : lt ≠ g := (ne_of_none gd2.top nlt).symm
                have n3 : lt ≠ D := (ne_of_none w2.top nlt).symm
                have M0 : Mid H (upd H2 lt (.dT [])) L R (allTr L n) kk g D go ha lt dg wf ts hs gs2 [] [] [] := by
                  have s3 : Same H2 (upd H2 lt (.dT [])) := same_upd nlt
                  exact ⟨sm2.trans s3, s3 _ _ ha2, paired_same pt2 fun _ _ h => RowAt.same h s3, s3 _ _ go2, gd2.same s3, w2.same s3, upd_same, List.nodup_nil, fun _ h => (nomatch h), fun r => ⟨fun h => (nomatch h), fun h => (nomatch h.1.choose_spec)⟩⟩
                generalize upd H2 lt (.dT []) = H3 at M0
                -- for part in here
                refine ⟨_, rfl, ha, rfl, ⟨_, SqL.of M0.hha⟩, ?_⟩
                refine for_list (K := K) (a := ha) (xs := ts.map V.ref) (fun i σ H3 => ∃ x3 x5 x6 ls, σ = [some (.ref e), some (.ref g), some (.ref D), x3, x4, x5, x6, some (.ref go), some (.ref ha), some (.int (kk : Int)), some (.ref lt)] ∧
                    Mid H H3 L R (allTr L n) kk g D go ha lt dg wf ts hs gs2 ((hs.take i).flatMap (Wl (allTr L n))) ((hs.take i).flatMap (Wl (allTr L n))) ls)
                  ⟨x3, x5, x6, [], rfl, M0⟩ (fun i σ H3 _ ⟨_, _, _, _, _, M⟩ => SqL.of M.hha) ?_ ?_
                · clear x3 x5 x6 M0
                  rintro i z σ H3 hi ⟨x3, x5, x6, ls, rfl, M⟩
                  obtain ⟨t1, ht1, rfl⟩ := map_get hi
                  obtain ⟨x, hx, hrow⟩ := paired_at M.pts ht1
                  have hxR := hsR x (List.mem_of_getElem? hx)
                  obtain ⟨us, hus, pus⟩ := M.wait.each x hxR
                  -- for row, mark in waiting[part]
                  refine ⟨_, rfl, _, rfl, D, .ref (wf x), rfl, (valV_rows_in (f := fun r => V.ref (wf r)) hxR) ▸ DGet.t (k := keyOf x) M.wait.top (by rw [key_row]; exact hrow), wf x, rfl, ⟨_, SqL.of hus⟩, ?_⟩
                  refine for_list (K := K) (a := wf x) (xs := us.map V.ref) (fun y σ H4 => ∃ x3 x5 ls, σ = [some (.ref e), some (.ref g), some (.ref D), x3, x4, x5, some (.ref t1), some (.ref go), some (.ref ha), some (.int (kk : Int)), some (.ref lt)] ∧
                      Mid H H4 L R (allTr L n) kk g D go ha lt dg wf ts hs gs2 ((hs.take i).flatMap (Wl (allTr L n)) ++ (Wl (allTr L n) x).take y) ((hs.take i).flatMap (Wl (allTr L n)) ++ (Wl (allTr L n) x).take y) ls ∧
                      H4 (wf x) = some (.lst (us.map V.ref)) ∧ Paired (PrAt H4) us (Wl (allTr L n) x))
                    ⟨x3, x5, ls, rfl, by rw [List.take_zero, List.append_nil]; exact M, hus, pus⟩ (fun y σ H4 _ ⟨_, _, _, _, _, h, _⟩ => SqL.of h) ?_ ?_
                  · clear x3 x5 x6 M hus pus hi hrow ls
                    rintro y z σ H4 hy ⟨x3, x5, ls, rfl, M, hus, pus⟩
                    obtain ⟨t2, ht2, rfl⟩ := map_get hy
                    obtain ⟨⟨r, m⟩, hrm, q2, h1, h2⟩ := paired_at pus ht2
                    have hrT := mem_allTr.mp (mem_Wl.mp (List.mem_of_getElem? hrm))
                    have hrR : r ∈ R := hR ▸ hrT.1
                    rw [take_next hrm, ← List.append_assoc]
                    generalize (hs.take i).flatMap (Wl (allTr L n)) ++ (Wl (allTr L n) x).take y = pp at M
                    refine ⟨t2, _, rfl, SqT.of h1, rfl, _, _, rfl, _, _, rfl, rfl, ?_⟩
                    -- good[row].pop(mark, None)
                    refine ⟨_, rfl, _, rfl, g, .ref (dg r), rfl, (valV_rows_in (f := fun r => V.ref (dg r)) hrR) ▸ DGet.t (k := keyOf r) M.good.top (by rw [key_row]; exact h2), dg r, rfl, .inl ⟨_, .inl (M.good.each r hrR)⟩, _, rfl, _, Sum.inl m, M.good.each r hrR, rfl,
                      pop_any (z := V.non) (M.good.each r hrR) fun v => ?_⟩
                    have M1 := M.pop (m := m) hrR
                    have ed := M.good.each r hrR
                    have nd1 := noTup_of ed (fun _ z => nomatch z)
                    have e1 := M1.good.each r hrR
                    have hd : dropK (mK (alive L kk pp r)) (Sum.inl m) = mK (alive L kk (pp ++ [(r, m)]) r) := by rw [mK_drop, ← alive_same]
                    rw [show (List.map (fun m => ((Sum.inl m : Key), V.bl true)) (alive L kk pp r)) = mK (alive L kk pp r) from rfl, hd]
                    have hus1 := (upd_ne (o := .dK (mK (alive L kk (pp ++ [(r, m)]) r))) (ne_of hus ed (fun z => nomatch z))).trans hus
                    have pus1 := paired_same pus fun _ _ h => PrAt.but h (upd_but (o := .dK (mK (alive L kk (pp ++ [(r, m)]) r)))) nd1
                    have h21 : RowAt (upd H4 (dg r) (.dK (mK (alive L kk (pp ++ [(r, m)]) r)))) q2 r := RowAt.but h2 upd_but nd1
                    generalize upd H4 (dg r) (.dK (mK (alive L kk (pp ++ [(r, m)]) r))) = H5 at M1 e1 hus1 pus1 h21
                    clear M ed nd1 hd hus pus h1 h2
                    -- if good[row] == {} and row not in gone: later[row] = True
                    refine ⟨_, rfl, _, rfl, g, .ref (dg r), rfl, (valV_rows_in (f := fun r => V.ref (dg r)) hrR) ▸ DGet.t (k := keyOf r) M1.good.top (by rw [key_row]; exact h21), fun p np => ?_⟩
                    refine ⟨dg r, p, mK (alive L kk (pp ++ [(r, m)]) r), rfl, rfl, same_upd np _ _ e1, upd_same, _, rfl, ?_⟩
                    have s6 : Same H5 (upd H5 p (.dK [])) := same_upd np
                    have M2 := M1.same s6
                    have hus2 := s6 _ _ hus1
                    have pus2 := paired_same pus1 fun _ _ h => PrAt.same h s6
                    have h22 := RowAt.same h21 s6
                    generalize upd H5 p (.dK []) = H6 at M2 hus2 pus2 h22
                    clear M1 hus1 pus1 h21 s6 np e1
                    rw [mK_empty]
                    have hte : ((alive L kk (pp ++ [(r, m)]) r).isEmpty = true) ↔ alive L kk (pp ++ [(r, m)]) r = [] := List.isEmpty_iff
                    refine ite2 (fun hc1 => ?_) (fun hc1 => ?_)
                    · refine ⟨_, rfl, _, rfl, go, _, rfl, DGet.t (k := keyOf r) M2.hgo (by rw [key_row]; exact h22), _, rfl, ?_⟩
                      by_cases hgr : r ∈ gs2
                      · rw [valV_rows_in (f := fun r => V.int (rnd L r)) hgr]
                        exact ⟨_, _, ls, rfl, M2.skip fun z => z.2 hgr, hus2, pus2⟩
                      · rw [valV_rows_out (f := fun r => V.int (rnd L r)) hgr]
                        obtain ⟨ls', M3⟩ := M2.store hrR (hte.mp hc1) hgr flt n1 n2 n3
                        have nlt2 := noTup_of M2.hlt (fun _ z => nomatch z)
                        refine ⟨_, rfl, _, rfl, lt, _, rfl, DPut.t (k := keyOf r) M2.hlt (by rw [key_row]; exact h22) ?_, _, _, ls', rfl, M3, (upd_ne (ne_of hus2 M2.hlt (fun z => nomatch z))).trans hus2, paired_same pus2 fun _ _ h => PrAt.but h upd_but nlt2⟩
                        rw [List.length_map]
                        have := nodup_le M2.nd ndR M2.sub
                        omega
                    · exact ⟨_, _, ls, rfl, M2.skip fun z => hc1 (hte.mpr z.1), hus2, pus2⟩
                  · rintro σ H4 ⟨x3, x5, ls, rfl, M4, _, _⟩
                    rw [List.length_map, Paired.length pus, List.take_length] at M4
                    refine ⟨_, _, _, ls, rfl, ?_⟩
                    rw [flatMap_next hx]
                    exact M4
                · clear x3 x5 x6 M0
                  rintro σ H3 ⟨x3, x5, x6, ls, rfl, M⟩
                  rw [List.length_map, Paired.length M.pts, List.take_length] at M
                  -- here, number = list(later), number + 1
                  refine ⟨_, rfl, lt, _, rfl, .inl M.hlt, fun p bs np hk => ?_⟩
                  have prs := keys_rows hk (rs := ls) (by rw [List.map_map]; rfl)
                  refine ⟨_, rfl, _, _, rfl, rfl, _, _, rfl, R.length - gs2.length, by omega, kk + 1, p, bs, ls, gs2, _, _, _, _, _, rfl, by omega, ?_⟩
                  have s5 : Same H3 (upd H3 p (.lst (bs.map V.ref))) := same_upd np
                  refine ⟨M.sm.trans s5, upd_same, paired_same prs fun _ _ h => RowAt.same h s5, M.nd, fun r => ?_, s5 _ _ M.hgo, gsn2, hg2, (M.good.same s5).congr fun r hr => alive_turn hh (hR ▸ hr), M.wait.same s5⟩
                  rw [M.mem r]
                  exact later_turn hh hg2 r
            · -- none goes any more
              have hs0 : hs = [] := by
                cases hs with
                | nil => rfl
                | cons a b => exact absurd rfl hc
              refine ⟨_, rfl, q H1 go sm1 fgo ⟨gs, gsn, fun r => ?_, hgo1⟩⟩
              rw [hg]
              refine and_congr_right fun hr => ?_
              rw [goneBy_rnd]
              constructor
              · rintro ⟨j, _, hj⟩ z
                rw [roundOf_some.mpr hj] at z
                cases z
              · intro z
                cases ej : roundOf L r with
                | none => exact absurd ej z
                | some j =>
                  have hj := roundOf_some.mp ej
                  refine ⟨j, rnd_none (fun x hx hx2 => ?_) hr hj, hj⟩
                  have := (hh x).mpr ⟨hx, hx2⟩
                  rw [hs0] at this
                  cases this
end
end K87
namespace K87
open PySem PySem.Spec PyProof.Rows L2
theorem rows_sortable (L : Lot) (m : Nat) (rs : List Row) (h : ∀ r ∈ rs, r ∈ rowsOf L m) (nd : rs.Nodup) : (∀ r ∈ rs, r ≠ []) ∨ rs.length ≤ 1 := by
  cases m with
  | zero =>
    right
    refine Nat.le_trans (nodup_le nd (rowsOf_nodup L 0) h) ?_
    exact Nat.le_refl 1
  | succ m =>
    left
    intro r hr e
    have := (mem_rowsOf.mp (h r hr)).2
    rw [e] at this
    cases this
section
variable {P : Program} {w : World} {K : PySem.W.Frag} {mg : Str → Option Value} {base : Heap}
/-- the last level's dict -/
theorem LevelsAt.last {H : Hp} {p : Addr} {L : Lot} {m : Nat} (h : LevelsAt H p L m) : ∃ (es : List Addr) (e : Addr), H p = some (.lst (es.map V.ref)) ∧ atI (es.map V.ref) (-1) = some (.ref e) ∧ LevelAt H e L m := by
  obtain ⟨es, h1, h2, h3⟩ := h
  have hm : m < es.length := by omega
  refine ⟨es, es[m], h1, atI_end (n := m) (by rw [List.length_map, h2]) (by rw [List.getElem?_map, List.getElem?_eq_getElem hm]; rfl), h3 m _ (List.getElem?_eq_getElem hm)⟩
abbrev nBook : List Str := ["lot", "n", "above", "gone", "row"]
theorem scBook : FnScope nBook ["lot", "n"] (defScope sBook) := ⟨rfl, rfl, rfl, by decide +kernel, rfl, by decide +kernel, by decide +kernel⟩
def spBook : Sp := fun vs H Q _ => ∃ (v : V) (L : Lot) (m : Nat), vs = [v, .int ((m + 1 : Nat) : Int)] ∧ LotAt H v L ∧ m ≤ 4 ∧ ∀ H' v', Same H H' → BookAt H' v' (bookM L (m + 1)) → Q v' H'
theorem ok_book {f : Addr} {fd : FuncData} {k : Nat} (F : Fun K "book" "book" sBook f fd) (B : Blt mg) (CL : Cl P w K mg base 2 "levels" ["lot", "most"] spLevels) (CP : Cl P w K mg base 2 "peeled" ["above"] spPeeled) : FnOk P w K mg base CX0 3 f fd ["lot", "n"] spBook := by
  refine F.ok scBook (fun vs H Q E h => ?_) (fun cdv A outer s H vs Q E hr h => ?_)
  · obtain ⟨v, L, m, rfl, _⟩ := h
    rfl
  · obtain ⟨v, L, m, rfl, hL, hm4, q⟩ := h
    have hu := hu_of hr
    have nd := scBook.nd
    have line := line_ge
    have hm := hL.1.2.1
    refine ⟨_, pss_cons (ps_set (i := 2) nd rfl (.inl rfl) (pe_ix ix_list (pc CL hr (by rfl) (pa_cons (pv 0) (pa_cons (pe_op op_sub (pv 1) pe_int) pa_nil))) (pe_un un_neg pe_int) (fun _ _ => rfl)))
      (pss_cons (ps_set (i := 3) nd rfl (.inr rfl) (pc CP hr (by rfl) (pa_cons (pv 2) pa_nil)))
      (pss_one (ps_ret (pe_callTy call_tuple_of (by rfl) B.tuple (by decide +kernel) (pa_cons (pe_callB (cr_sortT hr.units) (by rfl) B.sorted (by decide +kernel) (pa_cons
        (pe_lock (pe_lc (own := [("row", 4)]) (g := gName 4) rfl nd (pi_keys (pv 2)) (blkOk_by (N := nBook) (sc := defScope sBook) (by decide +kernel)) (fun _ _ _ _ _ => pg_name (i := 4) nd rfl (Or.inl rfl))
          (fun _ _ _ _ _ => pts_one (pt_cmp (pc_dnotin hu (pv 4) (pv 3)))) (fun _ _ _ _ _ => pv 4))) pa_nil)) pa_nil))))), ?_⟩
    -- above = levels(lot, n - 1)[-1]
    refine ⟨_, rfl, _, rfl, _, _, rfl, rfl, v, L, m, by show [v, V.int (((m + 1 : Nat) : Int) - 1)] = _; rw [show (((m + 1 : Nat) : Int) - 1) = (m : Int) by omega], hL, hm4, fun H1 p1 s1 hl => ?_⟩
    obtain ⟨es, e, h1, h2, hlev⟩ := hl.last
    refine ⟨1, rfl, p1, _, -1, _, rfl, rfl, SqL.of h1, h2, ?_⟩
    -- gone = peeled(above)
    refine ⟨_, rfl, e, L, m, rfl, hlev, hm, hm4, fun H2 go s2 ngo hg => ?_⟩
    have ne_ego : e ≠ go := ne_of_none hlev.choose_spec.1 ngo
    obtain ⟨mf, he, hmf⟩ := Part.same hlev s2
    obtain ⟨gs, gsn, hgs, hgo⟩ := hg
    -- [row for row in above if row not in gone]
    refine ⟨e, _, he, trivial, fun od => ?_⟩
    refine ⟨_, rfl, e, od, rfl, .inr ⟨_, upd_same, fun hp nhp => ?_⟩⟩
    refine lc_keysT (fun j H3 => Same (upd H2 e (.frz od (.dT ((rowsOf L m).map fun r => (keyOf r, V.ref (mf r)))))) H3 ∧ ∃ ts : List Addr, H3 hp = some (.lst (ts.map V.ref)) ∧
        Paired (RowAt H3) ts (((rowsOf L m).take j).filter fun r => decide (roundOf L r = none)))
      ⟨same_upd nhp, [], upd_same, .nil⟩ (fun j H3 _ ⟨s3, _⟩ => s3 _ _ upd_same) ?_ ?_
    · rintro j k v H3 q2 hk ⟨s3, ts, hts, pts⟩ hq2
      obtain ⟨r, hrj, hkv⟩ := map_get hk
      obtain ⟨rfl, rfl⟩ := Prod.mk.inj hkv
      have hrm : r ∈ rowsOf L m := List.mem_of_getElem? hrj
      have hgo3 := s3 _ _ ((upd_ne ne_ego.symm).trans hgo)
      refine ⟨rfl, _, rfl, _, rfl, go, _, rfl, DGet.t (k := keyOf r) hgo3 hq2, _, rfl, ?_⟩
      rw [key_row] at hq2
      have hc : (!(valV (gs.map fun r => (keyOf r, V.int (rnd L r))) (keyOf r)).isSome) = decide (roundOf L r = none) := by
        by_cases hg : r ∈ gs
        · rw [valV_rows_in (f := fun r => V.int (rnd L r)) hg, decide_eq_false ((hgs r).mp hg).2]
          rfl
        · rw [valV_rows_out (f := fun r => V.int (rnd L r)) hg, decide_eq_true (Classical.byContradiction fun z => hg ((hgs r).mpr ⟨hrm, z⟩))]
          rfl
      rw [hc]
      refine ite2 (fun ht => ?_) (fun ht => ?_)
      · refine ⟨_, rfl, _, hts, ?_, Same.put s3 nhp, ts ++ [q2], by rw [upd_same, List.map_append]; rfl, ?_⟩
        · rw [List.length_map, Paired.length pts]
          refine Nat.lt_of_le_of_lt (List.length_filter_le _ _) ?_
          rw [List.length_take]
          have := rowsOf_few hm hm4
          omega
        · rw [filter_next hrj, if_pos ht]
          have n3 := noTup_of hts (fun _ z => nomatch z)
          exact paired_snoc (paired_same pts fun _ _ h => RowAt.but h upd_but n3) (RowAt.but hq2 upd_but n3)
      · refine ⟨s3, ts, hts, ?_⟩
        rw [filter_next hrj, if_neg ht, List.append_nil]
        exact pts
    · rintro H3 ⟨s3, ts, hts, pts⟩
      rw [List.length_map, List.take_length] at pts
      have e3 := s3 _ _ upd_same
      refine ⟨e3, ?_⟩
      have s4 : Same H2 (upd H3 e (.dT ((rowsOf L m).map fun r => (keyOf r, V.ref (mf r))))) := same_unlock s3 he
      have h4 := (upd_ne (o := .dT ((rowsOf L m).map fun r => (keyOf r, V.ref (mf r)))) (ne_of hts e3 (fun z => nomatch z))).trans hts
      have p4 := paired_same pts fun _ _ h => RowAt.but h (upd_but (o := .dT ((rowsOf L m).map fun r => (keyOf r, V.ref (mf r))))) (noTup_of e3 (fun _ z => nomatch z))
      generalize upd H3 e (.dT ((rowsOf L m).map fun r => (keyOf r, V.ref (mf r)))) = H4 at s4 h4 p4
      -- tuple(sorted(it))
      refine ⟨hp, ts, _, RowAt H4, rfl, SqL.of h4, p4, fun t r h => SqT.of h, rows_sortable L m _ (fun r hr => (List.mem_filter.mp hr).1) ((rowsOf_nodup L m).sublist List.filter_sublist), fun us p pu np => ?_⟩
      refine ⟨p, _, rfl, .inl ⟨SqL.of upd_same, fun l nl => ?_⟩⟩
      have s5 := same_upd (o := .lst (us.map V.ref)) np
      refine q _ _ (s1.trans (s2.trans (s4.trans (s5.trans (same_upd nl))))) ⟨l, us, rfl, upd_same, paired_same pu fun _ _ h => same_upd nl _ _ (s5 _ _ h)⟩
end
end K87
namespace K87
open PySem PySem.Spec PyProof.Rows L2
/-- tuple(x) -/
def rTup (K : PySem.W.Frag) : List V → Hp → VK → Prop := fun xs H Q => ∃ (p : Addr) (ys : List V), xs = [.ref p] ∧ ((SqL K H p ys ∧ ∀ l, H l = none → Q (.ref l) (upd H l (.tup ys))) ∨ (SqT K H p ys ∧ Q (.ref p) H))
theorem cr_tup {X : Cx} : CallR X (.type "tuple") (rTup X.K) := call_tuple_of
/-- a tuple of tuples of rows -/
def RoundsAt (H : Hp) (v : V) (ls : List (List Row)) : Prop := ∃ (a : Addr) (vs : List V), v = .ref a ∧ H a = some (.tup vs) ∧ Paired (BookAt H) vs ls
theorem RoundsAt.same {H H' : Hp} {v : V} {ls : List (List Row)} (h : RoundsAt H v ls) (s : Same H H') : RoundsAt H' v ls := by
  obtain ⟨a, vs, h1, h2, h3⟩ := h
  exact ⟨a, vs, h1, s _ _ h2, paired_same h3 fun _ _ z => z.same s⟩
theorem rnd_eq {L : Lot} {r : Row} {k : Nat} (h : roundOf L r = some k) : rnd L r = (k : Int) := by
  unfold rnd
  rw [h]
  rfl
theorem roundOf_ne {L : Lot} {r : Row} (h : roundOf L r ≠ none) : ∃ k, roundOf L r = some k := by
  cases e : roundOf L r with
  | none => exact absurd e h
  | some k => exact ⟨k, rfl⟩
/-- the greatest round and one more -/
theorem manyR_of {L : Lot} {m : Nat} {gs : List Row} (hgs : ∀ r, r ∈ gs ↔ r ∈ rowsOf L m ∧ roundOf L r ≠ none) {x : Int} (h1 : x ∈ -1 :: gs.map (rnd L)) (h2 : ∀ y ∈ -1 :: gs.map (rnd L), y ≤ x) : x + 1 = (manyR L (m + 1) : Int) := by
  have hx : -1 ≤ x := h2 _ List.mem_cons_self
  have e : manyR L (m + 1) = (x + 1).toNat := by
    refine Nat.le_antisymm (manyR_le.mpr fun r hr => ?_) ?_
    · rw [Nat.add_sub_cancel] at hr
      cases er : roundOf L r with
      | none => exact Nat.zero_le _
      | some k =>
        have hm : rnd L r ∈ -1 :: gs.map (rnd L) := List.mem_cons_of_mem _ (List.mem_map.mpr ⟨r, (hgs r).mpr ⟨hr, by rw [er]; exact fun z => nomatch z⟩, rfl⟩)
        have := h2 _ hm
        rw [rnd_eq er] at this
        show k + 1 ≤ _
        omega
    · rcases List.mem_cons.mp h1 with h1 | h1
      · rw [h1]
        exact Nat.zero_le _
      · obtain ⟨r, hr, rfl⟩ := List.mem_map.mp h1
        obtain ⟨h3, h4⟩ := (hgs r).mp hr
        obtain ⟨k, ek⟩ := roundOf_ne h4
        have := manyR_le.mp (Nat.le_refl (manyR L (m + 1))) r (by rw [Nat.add_sub_cancel]; exact h3)
        rw [ek] at this
        rw [rnd_eq ek]
        have h5 : k + 1 ≤ manyR L (m + 1) := this
        omega
  omega
theorem round_line {L : Lot} {m : Nat} {gs : List Row} (gsn : gs.Nodup) (hgs : ∀ r, r ∈ gs ↔ r ∈ rowsOf L m ∧ roundOf L r ≠ none) (j : Nat) : (sortR gs).filter (fun r => decide (roundOf L r = some j)) = roundM L (m + 1) j := by
  rw [sortR_filter]
  unfold roundM
  rw [Nat.add_sub_cancel]
  refine sortR_one (perm_of_mem (gsn.sublist List.filter_sublist) ((rowsOf_nodup L m).sublist List.filter_sublist) fun r => ?_)
  rw [List.mem_filter, List.mem_filter, decide_eq_true_iff, hgs]
  exact ⟨fun h => ⟨h.1.1, h.2⟩, fun h => ⟨⟨h.1, by rw [h.2]; exact fun z => nomatch z⟩, h.2⟩⟩
theorem round_lt {L : Lot} {m j : Nat} {r : Row} (hr : r ∈ rowsOf L m) (h : roundOf L r = some j) : j < manyR L (m + 1) := by
  have := manyR_le.mp (Nat.le_refl (manyR L (m + 1))) r (by rw [Nat.add_sub_cancel]; exact hr)
  rw [h] at this
  exact this
/-- a round's number is below the number of rows -/
theorem round_few {L : Lot} {m k : Nat} {r : Row} (hr : r ∈ rowsOf L m) (h : Rnd L r k) : k < (rowsOf L m).length := by
  have ex : ∀ j, j ≤ k → ∃ x, x ∈ rowsOf L m ∧ Rnd L x j := fun j hj => Classical.byContradiction fun hn => by
    have := rnd_none (k := j) (fun x hx h2 => hn ⟨x, hx, h2⟩) hr h
    omega
  have ex2 : ∀ j, ∃ x, j ≤ k → x ∈ rowsOf L m ∧ Rnd L x j := fun j => by
    by_cases hj : j ≤ k
    · obtain ⟨x, hx⟩ := ex j hj
      exact ⟨x, fun _ => hx⟩
    · exact ⟨[], fun z => absurd z hj⟩
  obtain ⟨f, hf⟩ : ∃ f : Nat → Row, ∀ j, j ≤ k → f j ∈ rowsOf L m ∧ Rnd L (f j) j := ⟨fun j => (ex2 j).choose, fun j => (ex2 j).choose_spec⟩
  have nd : ((List.range (k + 1)).map f).Nodup := by
    refine List.pairwise_map.mpr (List.Pairwise.imp_of_mem ?_ List.nodup_range)
    intro a b ha hb hab e
    have h1 := hf a (by have := List.mem_range.mp ha; omega)
    have h2 := hf b (by have := List.mem_range.mp hb; omega)
    exact hab (h1.2.uniq (by show Rnd L (f a) b; rw [e]; exact h2.2))
  have := nodup_le nd (rowsOf_nodup L m) fun x hx => by
    obtain ⟨j, hj, rfl⟩ := List.mem_map.mp hx
    exact (hf j (by have := List.mem_range.mp hj; omega)).1
  rw [List.length_map, List.length_range] at this
  omega
theorem manyR_few {L : Lot} {m : Nat} (hm : L.many ≤ 6) (h4 : m ≤ 4) : manyR L (m + 1) ≤ 1296 := by
  refine manyR_le.mpr fun r hr => ?_
  rw [Nat.add_sub_cancel] at hr
  cases e : roundOf L r with
  | none => exact Nat.zero_le _
  | some k =>
    have := round_few hr (roundOf_some.mp e)
    have h2 := rowsOf_few hm h4
    show k + 1 ≤ _
    omega
theorem BookAt.but {H H' : Hp} {b : Addr} {v : V} {rs : List Row} (h : BookAt H v rs) (s : SameBut b H H') (n : noTup H b) : BookAt H' v rs := by
  obtain ⟨a, ts, h1, h2, h3⟩ := h
  exact ⟨a, ts, h1, s _ _ (fun e => n _ (e ▸ h2)) h2, paired_same h3 fun _ _ z => RowAt.but z s n⟩
section
variable {P : Program} {w : World} {K : PySem.W.Frag} {mg : Str → Option Value} {base : Heap}
abbrev nRounds : List Str := ["lot", "n", "gone", "found", "row", "number", "line"]
theorem scRounds : FnScope nRounds ["lot", "n"] (defScope sRounds) := ⟨rfl, rfl, rfl, by decide +kernel, rfl, by decide +kernel, by decide +kernel⟩
def spRounds : Sp := fun vs H Q _ => ∃ (v : V) (L : Lot) (m : Nat), vs = [v, .int ((m + 1 : Nat) : Int)] ∧ LotAt H v L ∧ m ≤ 4 ∧ ∀ H' v', Same H H' → RoundsAt H' v' (roundsM L (m + 1)) → Q v' H'
set_option maxHeartbeats 1000000 in
theorem ok_rounds {f : Addr} {fd : FuncData} {k : Nat} (F : Fun K "rounds" "rounds" sRounds f fd) (B : Blt mg) (CL : Cl P w K mg base 2 "levels" ["lot", "most"] spLevels) (CP : Cl P w K mg base 2 "peeled" ["above"] spPeeled) : FnOk P w K mg base CX0 3 f fd ["lot", "n"] spRounds := by
  refine F.ok scRounds (fun vs H Q E h => ?_) (fun cdv A outer s H vs Q E hr h => ?_)
  · obtain ⟨v, L, m, rfl, _⟩ := h
    rfl
  · obtain ⟨v, L, m, rfl, hL, hm4, q⟩ := h
    have hu := hu_of hr
    have hu65 : (A.deeper (envOfC "rounds" (defScope sRounds) s.heap.objs.size f cdv)).units + 65 < cLine := by
      have := hr.un
      omega
    have nd := scRounds.nd
    have line := line_ge
    have hm := hL.1.2.1
    refine ⟨_, pss_cons (ps_set (i := 2) nd rfl (.inl rfl) (pc CP hr (by rfl) (pa_cons (pe_ix ix_list (pc CL hr (by rfl) (pa_cons (pv 0) (pa_cons (pe_op op_sub (pv 1) pe_int) pa_nil))) (pe_un un_neg pe_int) (fun _ _ => rfl)) pa_nil)))
      (pss_cons (ps_setLc (i := 3) (own := [("number", 5)]) (g := gName 5) (tt := tYes) rfl nd rfl rfl (sw_true rfl rfl rfl (by decide +kernel))
          (pi_range1 (by rfl) B.range (pa_cons (pe_op op_add (pe_callB (cr_max rfl) (by rfl) B.max (by decide +kernel) (pa_cons (pe_op op_cat (pe_lst (pa_cons (pe_un un_neg pe_int) pa_nil))
            (pe_callTy (call_list_valsT rfl) (by rfl) B.list (by decide +kernel) (pa_cons (pe_bm0 PySem.F.plainAttrs_dict PySem.F.slot_dict_values PySem.F.type_dict_values mt_valuesT (pv 2)) pa_nil))) pa_nil)) pe_int) pa_nil))
          (blkOk_by (N := nRounds) (sc := defScope sRounds) (by decide +kernel)) (fun _ _ _ _ _ => pg_name (i := 5) nd rfl (Or.inl rfl)) (fun _ _ _ _ _ => pts_nil) (fun _ _ _ _ _ => pe_lst pa_nil))
      (pss_cons (ps_for PassesOwn.never rfl (pi_list (pe_callB (cr_sortD rfl hu65) (by rfl) B.sorted (by decide +kernel) (pa_cons (pv 2) pa_nil))) (pg_name (i := 4) nd rfl (.inl rfl))
          (pss_one (ps_expr (pe_bm PySem.F.plainAttrs_list PySem.F.slot_list_append PySem.F.type_list_append mt_append (pe_ix ix_list (pv 3) (pe_dget hu (pv 2) (pv 4) (fun _ _ => rfl)) (fun _ _ => rfl)) (pa_cons (pv 4) pa_nil)))))
      (pss_one (ps_ret (pe_callTy call_tuple_of (by rfl) B.tuple (by decide +kernel) (pa_cons (pe_lc (own := [("line", 6)]) (g := gName 6) (tt := tYes) rfl nd (pi_list (pv 3)) (blkOk_by (N := nRounds) (sc := defScope sRounds) (by decide +kernel))
          (fun _ _ _ _ _ => pg_name (i := 6) nd rfl (Or.inl rfl)) (fun _ _ _ _ _ => pts_nil) (fun _ _ _ _ _ => pe_callTy (T := "tuple") (r := rTup K) cr_tup (by rfl) B.tuple (by decide +kernel) (pa_cons (pv 6) pa_nil))) pa_nil)))))), ?_⟩
    -- gone = peeled(levels(lot, n - 1)[-1])
    refine ⟨_, rfl, _, rfl, _, _, rfl, rfl, v, L, m, by show [v, V.int (((m + 1 : Nat) : Int) - 1)] = _; rw [show (((m + 1 : Nat) : Int) - 1) = (m : Int) by omega], hL, hm4, fun H1 p1 s1 hl => ?_⟩
    obtain ⟨es, e, h1, h2, hlev⟩ := hl.last
    refine ⟨1, rfl, p1, _, -1, _, rfl, rfl, SqL.of h1, h2, ?_⟩
    refine ⟨e, L, m, rfl, hlev, hm, hm4, fun H2 go s2 ngo hg => ?_⟩
    have s02 := s1.trans s2
    clear hlev h1 h2 hl s2
    obtain ⟨gs, gsn, hgs, hgo⟩ := hg
    have gsl : gs.length ≤ 1296 := Nat.le_trans (nodup_le gsn (rowsOf_nodup L m) fun r hr => ((hgs r).mp hr).1) (rowsOf_few hm hm4)
    -- found = [[] for number in range(max([-1] + list(gone.values())) + 1)]
    refine ⟨1, rfl, by show 1 ≤ sizeLine; omega, fun l1 n1 => ?_⟩
    have s3 := same_upd (o := .lst [V.int (-1)]) n1
    refine ⟨_, rfl, .inr (.inr (.inl ⟨rfl, .inr ⟨_, s3 _ _ hgo⟩⟩)), go, _, rfl, rfl, s3 _ _ hgo, fun vw nvw => ?_⟩
    have s4 := same_upd (o := valsO vw go) nvw
    refine ⟨vw, go, _, rfl, upd_same, s4 _ _ (s3 _ _ hgo), fun l2 n2 => ?_⟩
    have s5 := same_upd (o := .lst ((gs.map fun r => (keyOf r, V.int (rnd L r))).map (·.2))) n2
    have e5 : (gs.map fun r => (keyOf r, V.int (rnd L r))).map (·.2) = (gs.map (rnd L)).map V.int := by
      rw [List.map_map, List.map_map]
      rfl
    refine ⟨l1, l2, _, _, rfl, rfl, s5 _ _ (s4 _ _ upd_same), upd_same, ?_, fun l3 n3 => ?_⟩
    · rw [List.length_map, List.length_map]
      show 1 + gs.length ≤ sizeLine
      omega
    refine ⟨l3, -1 :: gs.map (rnd L), rfl, SqL.of (by rw [upd_same, e5]; rfl), Nat.succ_pos _, fun x hx1 hx2 => ?_⟩
    have hx := manyR_of hgs hx1 hx2
    have s6 : Same H2 (upd (upd (upd (upd H2 l1 (.lst [V.int (-1)])) vw (valsO vw go)) l2 (.lst ((gs.map fun r => (keyOf r, V.int (rnd L r))).map (·.2)))) l3 (.lst ([V.int (-1)] ++ (gs.map fun r => (keyOf r, V.int (rnd L r))).map (·.2)))) :=
      s3.trans (s4.trans (s5.trans (same_upd n3)))
    generalize upd (upd (upd (upd H2 l1 (.lst [V.int (-1)])) vw (valsO vw go)) l2 (.lst ((gs.map fun r => (keyOf r, V.int (rnd L r))).map (·.2)))) l3 (.lst ([V.int (-1)] ++ (gs.map fun r => (keyOf r, V.int (rnd L r))).map (·.2))) = H3 at s6
    clear s3 s4 s5 n1 n2 n3 nvw
    have hmany := manyR_few hm hm4
    have go3 := s6 _ _ hgo
    refine ⟨x, 1, rfl, rfl, x + 1, rfl, by omega, by omega, fun fo nfo => ?_⟩
    have hxn : (x + 1).toNat = manyR L (m + 1) := by omega
    refine lc_range (lo := 0) (n := (x + 1).toNat) (fun i H4 => Same H3 H4 ∧ ∃ ds : List Addr, ds.length = i ∧ ds.Nodup ∧ H4 fo = some (.lst (ds.map V.ref)) ∧ ∀ d ∈ ds, H3 d = none ∧ d ≠ fo ∧ H4 d = some (.lst []))
      ⟨same_upd nfo, [], rfl, List.nodup_nil, upd_same, fun _ h => (nomatch h)⟩ ?_ ?_
    · rintro i H4 hi ⟨s7, ds, hl, ndd, hfo, hds⟩
      refine ⟨rfl, Nat.zero_le _, fun d nd4 => ?_⟩
      have s8 := same_upd (o := .lst []) nd4
      have nef : fo ≠ d := ne_of_none hfo nd4
      refine ⟨_, s8 _ _ hfo, ?_, Same.put (s7.trans s8) nfo, ds ++ [d], ?_, ?_, ?_, ?_⟩
      · rw [List.length_map]
        omega
      · rw [List.length_append, hl]
        rfl
      · exact nd_snoc ndd fun h => by
          rw [(hds d h).2.2] at nd4
          cases nd4
      · rw [upd_same, List.map_append]
        rfl
      · intro c hc
        rcases List.mem_append.mp hc with hc | hc
        · obtain ⟨h1, h2, h3⟩ := hds c hc
          exact ⟨h1, h2, (upd_ne h2).trans (s8 _ _ h3)⟩
        · obtain rfl := List.mem_singleton.mp hc
          exact ⟨Same.free s7 nd4, nef.symm, (upd_ne nef.symm).trans upd_same⟩
    · rintro H4 ⟨s7, ds, hl, ndd, hfo, hds⟩
      rw [hxn] at hl
      have go4 := s7 _ _ go3
      -- for row in sorted(gone)
      refine ⟨_, rfl, go, _, gs, rfl, go4, by rw [List.map_map]; rfl, rows_sortable L m gs (fun r hr => ((hgs r).mp hr).1) gsn, fun us p pu np => ?_⟩
      have s8 := same_upd (o := .lst (us.map V.ref)) np
      have hds2 : ∀ d ∈ ds, H3 d = none ∧ d ≠ fo ∧ d ≠ p := fun d hd => ⟨(hds d hd).1, (hds d hd).2.1, ne_of_none (hds d hd).2.2 np⟩
      refine ⟨p, rfl, ⟨_, SqL.of upd_same⟩, ?_⟩
      refine for_list (K := K) (a := p) (xs := us.map V.ref) (fun i σ H5 => ∃ x4, σ = [some v, some (.int ((m + 1 : Nat) : Int)), some (.ref go), some (.ref fo), x4, none, none] ∧ Same H3 H5 ∧ H5 p = some (.lst (us.map V.ref)) ∧ Paired (RowAt H5) us (sortR gs) ∧
          H5 fo = some (.lst (ds.map V.ref)) ∧ ∀ (j : Nat) (d : Addr), ds[j]? = some d → ∃ ts : List Addr, H5 d = some (.lst (ts.map V.ref)) ∧ Paired (RowAt H5) ts (((sortR gs).take i).filter fun r => decide (roundOf L r = some j)))
        ⟨none, rfl, s7.trans s8, upd_same, paired_same pu fun _ _ h => s8 _ _ h, s8 _ _ hfo, fun j d hj => ⟨[], s8 _ _ (hds d (List.mem_of_getElem? hj)).2.2, .nil⟩⟩ (fun i σ H5 _ ⟨_, _, _, h, _⟩ => SqL.of h) ?_ ?_
      · rintro i z σ H5 hi ⟨x4, rfl, s9, hp5, pu5, fo5, ln5⟩
        obtain ⟨t1, ht1, rfl⟩ := map_get hi
        obtain ⟨r, hri, hrow⟩ := paired_at pu5 ht1
        have hrg : r ∈ gs := sortR_mem.mp (List.mem_of_getElem? hri)
        obtain ⟨hrm, hrk⟩ := (hgs r).mp hrg
        obtain ⟨kk, ek⟩ := roundOf_ne hrk
        have hkd : kk < ds.length := by
          have := round_lt hrm ek
          omega
        obtain ⟨ts, hts, pts⟩ := ln5 kk ds[kk] (List.getElem?_eq_getElem hkd)
        have hdk := hds2 _ (List.getElem_mem hkd)
        -- found[gone[row]].append(row)
        refine ⟨_, rfl, _, rfl, _, rfl, go, .int (rnd L r), rfl, (valV_rows_in (f := fun r => V.int (rnd L r)) hrg) ▸ DGet.t (k := keyOf r) (s9 _ _ go3) (by rw [key_row]; exact hrow), ?_⟩
        refine ⟨fo, _, _, .ref ds[kk], rfl, rfl, SqL.of fo5, at_of (j := kk) (rnd_eq ek) (by rw [List.getElem?_map, List.getElem?_eq_getElem hkd]; rfl), ?_⟩
        refine ⟨.inl ⟨rfl, _, SqL.of hts⟩, _, rfl, ds[kk], _, .ref t1, rfl, rfl, hts, ?_, ?_⟩
        · rw [List.length_map, Paired.length pts]
          refine Nat.lt_of_le_of_lt (List.length_filter_le _ _) ?_
          rw [List.length_take, (sortR_perm gs).length_eq]
          omega
        · have n5 := noTup_of hts (fun _ z => nomatch z)
          refine ⟨_, rfl, Same.put s9 hdk.1, (upd_ne hdk.2.2.symm).trans hp5, paired_same pu5 fun _ _ h => RowAt.but h upd_but n5, (upd_ne hdk.2.1.symm).trans fo5, fun j d hj => ?_⟩
          by_cases ej : j = kk
          · subst ej
            rw [List.getElem?_eq_getElem hkd] at hj
            obtain rfl := Option.some.inj hj
            refine ⟨ts ++ [t1], by rw [upd_same, List.map_append]; rfl, ?_⟩
            rw [filter_next hri, if_pos (decide_eq_true ek)]
            exact paired_snoc (paired_same pts fun _ _ h => RowAt.but h upd_but n5) (RowAt.but hrow upd_but n5)
          · obtain ⟨ts2, h1, h2⟩ := ln5 j d hj
            have ned : d ≠ ds[kk] := fun z => ej (nd_ix ndd (z ▸ hj) (List.getElem?_eq_getElem hkd))
            refine ⟨ts2, (upd_ne ned).trans h1, ?_⟩
            rw [filter_next hri, if_neg (by rw [decide_eq_true_iff, ek]; exact fun z => ej (Option.some.inj z).symm), List.append_nil]
            exact paired_same h2 fun _ _ h => RowAt.but h upd_but n5
      · rintro σ H5 ⟨x4, rfl, s9, hp5, pu5, fo5, ln5⟩
        rw [List.length_map, Paired.length pu, List.take_length] at ln5
        -- tuple([tuple(line) for line in found])
        refine ⟨_, rfl, fo, rfl, ⟨_, SqL.of fo5⟩, fun D nD => ?_⟩
        refine lc_list (K := K) (a := fo) (xs := ds.map V.ref) (fun i H6 => Same H5 H6 ∧ ∃ vs : List V, H6 D = some (.lst vs) ∧ Paired (BookAt H6) vs ((List.range i).map (roundM L (m + 1))))
          ⟨same_upd nD, [], upd_same, .nil⟩ (fun i H6 _ ⟨s, _⟩ => SqL.of (s _ _ fo5)) ?_ ?_
        · rintro i z H6 hi ⟨s10, vs, hD, pv6⟩
          obtain ⟨d, hd, rfl⟩ := map_get hi
          have hil : i < ds.length := (List.getElem?_eq_some_iff.mp hd).1
          obtain ⟨ts, hts, pts⟩ := ln5 i d hd
          refine ⟨rfl, _, rfl, d, _, rfl, .inl ⟨SqL.of (s10 _ _ hts), fun l nl => ?_⟩⟩
          have s11 := same_upd (o := .tup (ts.map V.ref)) nl
          have hD7 := s11 _ _ hD
          have n7 := noTup_of hD7 (fun _ z => nomatch z)
          refine ⟨_, hD7, ?_, Same.put (s10.trans s11) nD, vs ++ [.ref l], upd_same, ?_⟩
          · rw [Paired.length pv6, List.length_map, List.length_range]
            omega
          · rw [List.range_succ, List.map_append]
            refine paired_snoc (paired_same pv6 fun _ _ h => BookAt.but (h.same s11) upd_but n7) (BookAt.but ⟨l, ts, rfl, upd_same, ?_⟩ upd_but n7)
            rw [round_line gsn hgs i] at pts
            exact paired_same pts fun _ _ h => s11 _ _ (s10 _ _ h)
        · rintro H6 ⟨s10, vs, hD, pv6⟩
          refine ⟨D, vs, rfl, .inl ⟨SqL.of hD, fun l nl => ?_⟩⟩
          have s11 := same_upd (o := .tup vs) nl
          refine q _ _ (s02.trans (s6.trans (s9.trans (s10.trans s11)))) ⟨l, vs, rfl, upd_same, ?_⟩
          rw [List.length_map, hl] at pv6
          exact paired_same pv6 fun _ _ h => h.same s11
end
end K87
namespace K87
open PySem PySem.Spec PyProof.Rows L2
section
variable {P : Program} {w : World} {K : PySem.W.Frag} {mg : Str → Option Value} {base : Heap}
/-! ### serves -/
abbrev nServes : List Str := ["lot", "n"]
theorem scServes : FnScope nServes ["lot", "n"] (defScope sServes) := ⟨rfl, rfl, rfl, by decide +kernel, rfl, by decide +kernel, by decide +kernel⟩
def spServes : Sp := fun vs H Q _ => ∃ (v : V) (L : Lot) (m : Nat), vs = [v, .int ((m + 1 : Nat) : Int)] ∧ LotAt H v L ∧ m ≤ 4 ∧ ∀ H', Same H H' → Q (.bl (servesM L (m + 1))) H'
theorem ok_serves {f : Addr} {fd : FuncData} {k : Nat} (F : Fun K "serves" "serves" sServes f fd) (CB : Cl P w K mg base 3 "book" ["lot", "n"] spBook) : FnOk P w K mg base CX0 4 f fd ["lot", "n"] spServes := by
  refine F.ok scServes (fun vs H Q E h => ?_) (fun cdv A outer s H vs Q E hr h => ?_)
  · obtain ⟨v, L, m, rfl, _⟩ := h
    rfl
  · obtain ⟨v, L, m, rfl, hL, hm4, q⟩ := h
    refine ⟨_, pss_one (ps_ret (pe_cmpR (op_neD hr.units) (pc CB hr (by rfl) (pa_cons (pv 0) (pa_cons (pv 1) pa_nil))) (pe_tup pa_nil) (nomark _))), ?_⟩
    refine ⟨_, rfl, _, rfl, v, L, m, rfl, hL, hm4, fun H1 v1 s1 hb => ?_⟩
    refine ⟨Nat.zero_le _, fun p np => ?_⟩
    have s2 := same_upd (o := .tup []) np
    refine ⟨encB (bookM L (m + 1)), .tuple [], dp_book (hb.same s2), .tup (SqT.of upd_same) .nil, shaped_book _, shaped_of rfl (by decide), ?_⟩
    have e : (!PyData.eqv (encB (bookM L (m + 1))) (.tuple [])) = servesM L (m + 1) := by
      show (!PyData.eqv (.tuple ((bookM L (m + 1)).map encR)) (.tuple [])) = servesM L (m + 1)
      rw [eqv_nilT]
      unfold servesM
      cases bookM L (m + 1) with
      | nil => simp
      | cons a b => simp
    rw [e]
    exact q _ (s1.trans s2)
/-! ### reach -/
abbrev nReach : List Str := ["lot", "found"]
theorem scReach : FnScope nReach ["lot"] (defScope sReach) := ⟨rfl, rfl, rfl, by decide +kernel, rfl, by decide +kernel, by decide +kernel⟩
def spReach : Sp := fun vs H Q _ => ∃ (v : V) (L : Lot), vs = [v] ∧ LotAt H v L ∧ ∀ H', Same H H' → Q (.int (reachM L : Int)) H'
theorem ok_reach {f : Addr} {fd : FuncData} {k : Nat} {t : Tok} (F : Fun K "reach" "reach" sReach f fd) (mM : mg "MOST_SLOTS" = some (.int 5 t)) (CS : Cl P w K mg base 4 "serves" ["lot", "n"] spServes) : FnOk P w K mg base CX0 5 f fd ["lot"] spReach := by
  refine F.ok scReach (fun vs H Q E h => ?_) (fun cdv A outer s H vs Q E hr h => ?_)
  · obtain ⟨v, L, rfl, _⟩ := h
    rfl
  · obtain ⟨v, L, rfl, hL, q⟩ := h
    have nd := scReach.nd
    refine ⟨_, pss_cons (ps_set (i := 1) nd rfl (.inl rfl) pe_int)
      (pss_cons (ps_while PassesOwn.never (PW.pt (pw_and (pt_cmpR op_lt (pv 1) (pe_glob (v := .int 5) rfl mM ⟨_, rfl⟩) (nomark _)) (pw_and1 (pt_val (pc CS hr (by rfl) (pa_cons (pv 0) (pa_cons (pe_op op_add (pv 1) pe_int) pa_nil)))))))
        (pss_one (ps_aug (i := 1) nd rfl (.inl rfl) pe_int ip_add)))
      (pss_one (ps_ret (pv 1)))), ?_⟩
    refine ⟨fun m σ H1 => ∃ k : Nat, σ = [some v, some (.int (k : Int))] ∧ k + m = 5 ∧ Same H H1 ∧ reachFrom L m k = reachM L, ⟨5, 0, rfl, rfl, Same.refl H, rfl⟩, ?_⟩
    rintro m σ H1 ⟨k, rfl, hk, s1, he⟩
    refine ⟨_, rfl, _, _, rfl, rfl, _, rfl, ?_⟩
    refine ite2 (fun hc => ?_) (fun hc => ?_)
    · have hk5 : (k : Int) < 5 := of_decide_eq_true hc
      obtain ⟨m', rfl⟩ : ∃ m', m = m' + 1 := ⟨m - 1, by omega⟩
      refine ⟨_, rfl, _, rfl, _, _, rfl, rfl, v, L, k, rfl, hL.same s1, by omega, fun H2 s2 => ⟨_, rfl, ?_⟩⟩
      refine ite2 (fun hc2 => ?_) (fun hc2 => ?_)
      · refine ⟨_, fun _ _ h => h, _, rfl, _, _, rfl, rfl, m', Nat.lt_succ_self _, k + 1, rfl, by omega, s1.trans s2, ?_⟩
        rw [← he]
        exact (if_pos hc2).symm
      · refine ⟨_, rfl, ?_⟩
        rw [show k = reachM L by rw [← he]; exact (if_neg hc2).symm]
        exact q _ (s1.trans s2)
    · have hk5 : ¬ (k : Int) < 5 := fun z => hc (decide_eq_true z)
      obtain rfl : m = 0 := by omega
      refine ⟨_, rfl, ?_⟩
      rw [show k = reachM L from he]
      exact q _ s1
/-! ### is_more, greatest -/
abbrev nMore : List Str := ["one", "other"]
theorem scMore : FnScope nMore ["one", "other"] (defScope sMore) := ⟨rfl, rfl, rfl, by decide +kernel, rfl, by decide +kernel, by decide +kernel⟩
def spMore : Sp := fun vs H Q _ => ∃ a b : Option Int, vs = [vO a, vO b] ∧ Q (.bl (isMore a b)) H
theorem vO_none {a : Option Int} : decide (vO a = V.non) = a.isNone := by
  cases a <;> rfl
theorem ok_more {f : Addr} {fd : FuncData} {k : Nat} (F : Fun K "is_more" "is_more" sMore f fd) : FnOk P w K mg base CX0 (k + 1) f fd ["one", "other"] spMore := by
  refine F.ok scMore (fun vs H Q E h => ?_) (fun cdv A outer s H vs Q E hr h => ?_)
  · obtain ⟨a, b, rfl, _⟩ := h
    rfl
  · obtain ⟨a, b, rfl, q⟩ := h
    refine ⟨_, pss_one (ps_ret (pe_and (pe_cmp (pc_notN (pv 1))) (pe_one (pe_or (pe_cmp (pc_isN (pv 0))) (pe_one (pe_cmpR op_gt (pv 0) (pv 1) (nomark _))))))), ?_⟩
    refine ⟨_, rfl, _, rfl, ?_⟩
    cases b with
    | none => exact q
    | some b =>
      refine ⟨_, rfl, _, rfl, ?_⟩
      cases a with
      | none => exact q
      | some a => exact ⟨_, rfl, _, rfl, _, _, rfl, rfl, q⟩
abbrev nGreat : List Str := ["hopes", "found", "one"]
theorem scGreat : FnScope nGreat ["hopes"] (defScope sGreat) := ⟨rfl, rfl, rfl, by decide +kernel, rfl, by decide +kernel, by decide +kernel⟩
def spGreat : Sp := fun vs H Q _ => ∃ (a : Addr) (l : List (Option Int)), vs = [.ref a] ∧ H a = some (.lst (l.map vO)) ∧ l ≠ [] ∧ Q (vO (great l)) H
theorem ok_great {f : Addr} {fd : FuncData} {k : Nat} (F : Fun K "greatest" "greatest" sGreat f fd) (CM : Cl P w K mg base 1 "is_more" ["one", "other"] spMore) : FnOk P w K mg base CX0 2 f fd ["hopes"] spGreat := by
  refine F.ok scGreat (fun vs H Q E h => ?_) (fun cdv A outer s H vs Q E hr h => ?_)
  · obtain ⟨a, l, rfl, _⟩ := h
    rfl
  · obtain ⟨a, l, rfl, ha, hl, q⟩ := h
    have nd := scGreat.nd
    refine ⟨_, pss_cons (ps_set (i := 1) nd rfl (.inl rfl) (pe_ix ix_list (pv 0) pe_int (fun _ _ => rfl)))
      (pss_cons (ps_for PassesOwn.never rfl (pi_list (pv 0)) (pg_name (i := 2) nd rfl (.inl rfl))
        (pss_one (ps_if (pt_val (pc CM hr (by rfl) (pa_cons (pv 2) (pa_cons (pv 1) pa_nil)))) (pss_one (ps_set (i := 1) nd rfl (.inl rfl) (pv 2))) pss_nil)))
      (pss_one (ps_ret (pv 1)))), ?_⟩
    obtain ⟨x, r, rfl⟩ : ∃ x r, l = x :: r := by
      cases l with
      | nil => exact absurd rfl hl
      | cons x r => exact ⟨x, r, rfl⟩
    refine ⟨_, rfl, a, _, 0, vO x, rfl, rfl, SqL.of ha, atI_nat (j := 0) rfl, ?_⟩
    refine ⟨_, rfl, a, rfl, ⟨_, SqL.of ha⟩, ?_⟩
    refine for_list (K := K) (a := a) (xs := (x :: r).map vO) (fun i σ H1 => H1 = H ∧ ∃ x2, σ = [some (.ref a), some (vO (((x :: r).take i).foldl grow x)), x2]) ⟨rfl, none, rfl⟩ (fun i σ H1 _ ⟨e, _⟩ => by rw [e]; exact SqL.of ha) ?_ ?_
    · rintro i z σ H1 hi ⟨rfl, x2, rfl⟩
      obtain ⟨y, hy, rfl⟩ := map_get hi
      refine ⟨_, rfl, _, rfl, y, ((x :: r).take i).foldl grow x, rfl, _, rfl, ?_⟩
      have e : ((x :: r).take (i + 1)).foldl grow x = grow (((x :: r).take i).foldl grow x) y := by rw [take_next hy, List.foldl_append]; rfl
      refine ite2 (fun hc => ?_) (fun hc => ?_)
      · refine ⟨_, rfl, rfl, some (vO y), ?_⟩
        rw [e, show grow (((x :: r).take i).foldl grow x) y = y from if_pos hc]
        rfl
      · refine ⟨rfl, some (vO y), ?_⟩
        rw [e, show grow (((x :: r).take i).foldl grow x) y = ((x :: r).take i).foldl grow x from if_neg hc]
        rfl
    · rintro σ H1 ⟨rfl, x2, rfl⟩
      refine ⟨_, rfl, ?_⟩
      rw [List.length_map, List.take_length]
      exact q
end
end K87
namespace K87
open PySem PySem.Spec PyProof.Rows L2
abbrev nInit : List Str := ["self", "lot", "n", "found", "gone", "row", "size", "marks", "longer", "mark"]
theorem scInit : FnScope nInit ["self", "lot", "n"] (defScope sInit) := ⟨rfl, rfl, rfl, by decide +kernel, rfl, by decide +kernel, by decide +kernel⟩
/-- what is asked of the class Hopes -/
structure HC (K : PySem.W.Frag) (C : Addr) : Prop where
  cl : Cls K C
  nt : NoAttr K C "table"
def tab (D : Addr) : List (Str × V) := putF "table" (.ref D) []
theorem tab_table (D : Addr) : (tab D).lookup ("table" : Str) = some (.ref D) := by
  unfold tab
  rw [lookup_putF, if_pos rfl]
theorem tab_no (D : Addr) {m : Str} (h : ¬ m = "table") : (tab D).lookup m = none := by
  unfold tab
  rw [lookup_putF, if_neg h]
  rfl
/-- the hopes of all rows of lo and more marks stand there -/
def TabOk (L : Lot) (m lo : Nat) (kvs : List (List Key × V)) : Prop := ∀ s, lo ≤ s → s ≤ m → ∀ r ∈ rowsOf L s, valV kvs (keyOf r) = some (vO (hopeAt L (m - s) r))
theorem valV_putR (kvs : List (List Key × V)) (r q : Row) (y : V) : valV (putK kvs (keyOf r) y) (keyOf q) = if q = r then some y else valV kvs (keyOf q) := by
  rw [valV_put]
  by_cases e : q = r
  · rw [if_pos e, if_pos (e ▸ rfl)]
  · rw [if_neg e, if_neg fun z => e (keyOf_inj z)]
theorem TabOk.put {L : Lot} {m s : Nat} {kvs : List (List Key × V)} (h : TabOk L m (s + 1) kvs) {r : Row} (hr : r ∈ rowsOf L s) (y : V) : TabOk L m (s + 1) (putK kvs (keyOf r) y) := fun j h1 h2 q hq => by
  rw [valV_putR, if_neg, h j h1 h2 q hq]
  intro e
  have e1 := (mem_rowsOf.mp hq).2
  have e2 := (mem_rowsOf.mp hr).2
  rw [e] at e1
  omega
theorem SameBut.free {p : Addr} {H H' : Hp} {b : Addr} {o : HO} (s : SameBut p H H') (hp : H' p = some o) (h : H' b = none) : H b = none := by
  cases e : H b with
  | none => rfl
  | some u =>
    by_cases hb : b = p
    · rw [hb, hp] at h
      cases h
    · rw [s b u hb e] at h
      cases h
theorem sameBut_lock {p : Addr} {H H' : Hp} {e : Addr} {o : HO} (s : SameBut p H H') : SameBut p (upd H e o) (upd H' e o) := fun b x hb h => by
  by_cases he : b = e
  · rw [he, upd_same] at h ⊢
    exact h
  · rw [upd_ne he] at h ⊢
    exact s b x hb h
theorem hope_up {L : Lot} {d : Nat} {r : Row} : hopeAt L (d + 1) r = if ab L r = [] then some (-((d : Int) + 1)) else great ((ab L r).map fun m => hopeAt L d (r ++ [m])) := rfl
section
variable {P : Program} {w : World} {K : PySem.W.Frag} {mg : Str → Option Value} {base : Heap}
def spInit (C : Addr) : Sp := fun vs H Q _ => ∃ (x dx : Addr) (v : V) (L : Lot) (m : Nat), vs = [.ref x, v, .int ((m + 1 : Nat) : Int)] ∧ H x = some (.ins C dx []) ∧ LotAt H v L ∧ m ≤ 4 ∧
  ∀ H' D, SameBut x H H' → H' x = some (.ins C dx (tab D)) → TableAt H' D L (m + 1) → Q .non H'
set_option maxHeartbeats 2000000 in
theorem ok_init {f C : Addr} {fd : FuncData} (F : Fun K "__init__" "Hopes.__init__" sInit f fd) (T : HC K C) (B : Blt mg) (CL : Cl P w K mg base 2 "levels" ["lot", "most"] spLevels) (CP : Cl P w K mg base 2 "peeled" ["above"] spPeeled)
    (CG : Cl P w K mg base 2 "greatest" ["hopes"] spGreat) : FnOk P w K mg base CX0 3 f fd ["self", "lot", "n"] (spInit C) := by
  refine F.ok scInit (fun vs H Q E h => ?_) (fun cdv A outer s H vs Q E hr h => ?_)
  · obtain ⟨x, dx, v, L, m, rfl, _⟩ := h
    rfl
  · obtain ⟨x, dx, v, L, m, rfl, hx, hL, hm4, q⟩ := h
    have hu := hu_of hr
    have nd := scInit.nd
    have line := line_ge
    have hm := hL.1.2.1
    refine ⟨_, pss_cons (ps_set (i := 3) nd rfl (.inl rfl) (pc CL hr (by rfl) (pa_cons (pv 1) (pa_cons (pe_op op_sub (pv 2) pe_int) pa_nil))))
      (pss_cons (ps_set (i := 4) nd rfl (.inr rfl) (pc CP hr (by rfl) (pa_cons (pe_ix ix_list (pv 3) (pe_un un_neg pe_int) (fun _ _ => rfl)) pa_nil)))
      (pss_cons (ps_fld (pv 0) (pe_lock (pe_dcT (own := [("row", 5)]) (g := gName 5) (tt := tYes) rfl hu nd (pi_keys (pe_ix ix_list (pv 3) (pe_un un_neg pe_int) (fun _ _ => rfl))) (blkOk_by (N := nInit) (sc := defScope sInit) (by decide +kernel))
          (fun _ _ _ _ _ => pg_name (i := 5) nd rfl (Or.inl rfl)) (fun _ _ _ _ _ => pts_nil) (fun _ _ _ _ _ => pv 5) (fun _ _ _ _ _ => pe_dget1 hu (pv 4) (pv 5) ⟨rfl, rfl, rfl, rfl⟩))) rfl)
      (pss_one (ps_for PassesOwn.never rfl (pi_range3 (by rfl) B.range (pa_cons (pe_op op_sub (pv 2) pe_int) (pa_cons (pe_un un_neg pe_int) (pa_cons (pe_un un_neg pe_int) pa_nil)))) (pg_name (i := 6) nd rfl (.inl rfl))
        (pss_one (ps_lock (ps_for PassesOwn.never rfl (pi_itemsT (pe_ix ix_list (pv 3) (pv 6) (fun _ _ => rfl)))
          (pg_tup rfl (pgs_cons (pg_name (i := 5) nd rfl (.inr rfl)) (pgs_cons (pg_name (i := 7) nd rfl (.inl rfl)) pgs_nil)))
          (pss_cons (ps_setLc (i := 8) (own := [("mark", 9)]) (g := gName 9) (tt := tYes) rfl nd rfl rfl (sw_true rfl rfl rfl (by decide +kernel)) (pi_list (pv 7)) (blkOk_by (N := nInit) (sc := defScope sInit) (by decide +kernel))
            (fun _ _ _ _ _ => pg_name (i := 9) nd rfl (Or.inl rfl)) (fun _ _ _ _ _ => pts_nil) (fun _ _ _ _ _ => pe_dget (td := tFld K (tVar 0) "table") hu (pe_fld (pv 0) rfl) (pe_op (r := rCatA K) op_catA (pv 5) (pe_tup (pa_cons (pv 9) pa_nil))) (fun _ _ => rfl)))
          (pss_one (ps_dput hu (pe_fld (pv 0) rfl) (pv 5) (pe_ifExp (pt_cmpR (op_neD hr.units) (pv 7) (pe_lst pa_nil) (nomark _)) (pc CG hr (by rfl) (pa_cons (pv 8) pa_nil)) (pe_op op_sub (pe_op op_add (pv 6) pe_int) (pv 2))) rfl)))))))))), ?_⟩
    -- found = levels(lot, n - 1)
    refine ⟨_, rfl, _, rfl, _, _, rfl, rfl, v, L, m, by show [v, V.int (((m + 1 : Nat) : Int) - 1)] = _; rw [show (((m + 1 : Nat) : Int) - 1) = (m : Int) by omega], hL, hm4, fun H1 fo s1 hl => ?_⟩
    obtain ⟨es, e, h1, h2, hlev⟩ := hl.last
    -- gone = peeled(found[-1])
    refine ⟨_, rfl, 1, rfl, fo, _, -1, _, rfl, rfl, SqL.of h1, h2, ?_⟩
    refine ⟨e, L, m, rfl, hlev, hm, hm4, fun H2 go s2 ngo hg => ?_⟩
    have hl2 := hl.same s2
    have x2 := s2 _ _ (s1 _ _ hx)
    have s02 : Same H H2 := s1.trans s2
    have fo2 := s2 _ _ h1
    have ne_ego : e ≠ go := ne_of_none hlev.choose_spec.1 ngo
    obtain ⟨mf, he, hmf⟩ := Part.same hlev s2
    obtain ⟨gs, gsn, hgs, hgo⟩ := hg
    clear s2 ngo hl hlev s1 h1
    -- self.table = {row: gone.get(row) for row in found[-1]}
    refine ⟨e, _, he, trivial, fun od => ?_⟩
    have ne_foe : fo ≠ e := ne_of fo2 he (fun z => nomatch z)
    refine ⟨_, rfl, 1, rfl, fo, _, -1, _, rfl, rfl, SqL.of ((upd_ne ne_foe).trans fo2), h2, e, od, rfl, .inr ⟨_, upd_same, fun D nD => ?_⟩⟩
    have fD : H2 D = none := free_lock nD
    refine dcT_keysT (fun j H3 => Same (upd H2 e (.frz od (.dT ((rowsOf L m).map fun r => (keyOf r, V.ref (mf r)))))) H3 ∧ H3 D = some (.dT (((rowsOf L m).take j).map fun r => (keyOf r, vO (hopeAt L 0 r)))))
      ⟨same_upd nD, upd_same⟩ (fun j H3 _ ⟨s3, _⟩ => s3 _ _ upd_same) ?_ ?_
    · rintro j k v H3 q2 hk ⟨s3, hD⟩ hq2
      obtain ⟨r, hrj, hkv⟩ := map_get hk
      obtain ⟨rfl, rfl⟩ := Prod.mk.inj hkv
      have hrm : r ∈ rowsOf L m := List.mem_of_getElem? hrj
      have hgo3 := s3 _ _ ((upd_ne ne_ego.symm).trans hgo)
      refine ⟨rfl, _, rfl, _, rfl, go, rfl, .inr ⟨_, .inl hgo3⟩, _, rfl, _, DGet.t (k := keyOf r) hgo3 hq2, ?_⟩
      have ev : (valV (gs.map fun r => (keyOf r, V.int (rnd L r))) (keyOf r)).getD .non = vO (hopeAt L 0 r) := by
        show _ = vO ((roundOf L r).map fun k => (k : Int))
        by_cases hg : r ∈ gs
        · obtain ⟨kk, ek⟩ := roundOf_ne ((hgs r).mp hg).2
          rw [valV_rows_in (f := fun r => V.int (rnd L r)) hg, ek, rnd_eq ek]
          rfl
        · have en : roundOf L r = none := Classical.byContradiction fun z => hg ((hgs r).mpr ⟨hrm, z⟩)
          rw [valV_rows_out (f := fun r => V.int (rnd L r)) hg, en]
          rfl
      rw [ev]
      refine ⟨_, keyOf r, q2, rfl, hq2, hD, ?_, Same.put s3 nD, ?_⟩
      · rw [List.length_map, List.length_take]
        have := rowsOf_few hm hm4
        omega
      · rw [upd_same, take_next hrj, put_rows (f := fun r => vO (hopeAt L 0 r)) (take_not (rowsOf_nodup L m) hrj)]
        refine congrArg (fun z => some (HO.dT z)) (List.map_congr_left fun y _ => ?_)
        by_cases ey : y = r
        · rw [if_pos ey, ey]
        · rw [if_neg ey]
    · rintro H3 ⟨s3, hD⟩
      rw [List.length_map, List.take_length] at hD
      have e3 := s3 _ _ upd_same
      refine ⟨e3, ?_⟩
      have s4 : Same H2 (upd H3 e (.dT ((rowsOf L m).map fun r => (keyOf r, V.ref (mf r))))) := same_unlock s3 he
      have ne_De : D ≠ e := (ne_of_none he fD).symm
      have hD4 := (upd_ne (o := .dT ((rowsOf L m).map fun r => (keyOf r, V.ref (mf r)))) ne_De).trans hD
      generalize upd H3 e (.dT ((rowsOf L m).map fun r => (keyOf r, V.ref (mf r)))) = H4 at s4 hD4
      clear s3 e3 hD
      have x4 := s4 _ _ x2
      have ne_xD : x ≠ D := ne_of_none x2 fD
      refine ⟨_, rfl, x, C, dx, [], rfl, x4, T.cl, T.nt, (by show 0 < 1000; decide), ?_⟩
      -- for size in range(n - 2, -1, -1)
      have sb5 : SameBut x H2 (upd H4 x (.ins C dx (tab D))) := (SameBut.of s4).put (.inr rfl)
      have hD5 : upd H4 x (.ins C dx (tab D)) D = _ := (upd_ne ne_xD.symm).trans hD4
      have kv0 : TabOk L m (m - 0) ((rowsOf L m).map fun r => (keyOf r, vO (hopeAt L 0 r))) := fun j h1 h2 r hr => by
        obtain rfl : j = m := by omega
        rw [valV_rows_in (f := fun r => vO (hopeAt L 0 r)) hr, Nat.sub_self]
      have kl0 : ((rowsOf L m).map fun r => (keyOf r, vO (hopeAt L 0 r))).length ≤ 1296 * (0 + 1) := by
        rw [List.length_map]
        exact rowsOf_few hm hm4
      have x5 : upd H4 x (.ins C dx (tab D)) x = some (.ins C dx (tab D)) := upd_same
      rw [show putF "table" (V.ref D) [] = tab D from rfl]
      generalize upd H4 x (.ins C dx (tab D)) = H5 at sb5 hD5 x5 ⊢
      generalize hkv0 : ((rowsOf L m).map fun r => (keyOf r, vO (hopeAt L 0 r))) = kvs0 at hD5 kv0 kl0
      clear hkv0 hD4 x4 s4
      refine ⟨_, rfl, _, _, rfl, rfl, 1, rfl, 1, rfl, (((m + 1 : Nat) : Int) - 2), -1, -1, _, rfl, RgC.neg (by omega) (by omega) (by omega) (by omega), ?_⟩
      refine for_rangeC (fun i σ H6 => ∃ y5 y6 y7 y8, σ = [some (.ref x), some v, some (.int ((m + 1 : Nat) : Int)), some (.ref fo), some (.ref go), y5, y6, y7, y8, none] ∧ SameBut x H2 H6 ∧ H6 x = some (.ins C dx (tab D)) ∧
          ∃ kvs, H6 D = some (.dT kvs) ∧ TabOk L m (m - i) kvs ∧ kvs.length ≤ 1296 * (i + 1))
        ⟨none, none, none, none, rfl, sb5, x5, kvs0, hD5, kv0, kl0⟩ ?_ ?_
      · rintro i σ H6 hi ⟨y5, y6, y7, y8, rfl, sb6, x6, kvs, hD6, kv6, kl6⟩
        have him : i < m := by omega
        obtain ⟨s, hs⟩ : ∃ s, s + (i + 1) = m := ⟨m - (i + 1), by omega⟩
        rw [show m - i = s + 1 by omega] at kv6
        have esz : (((m + 1 : Nat) : Int) - 2) + (i : Nat) * (-1) = (s : Int) := by omega
        rw [esz]
        -- found[size].items(), locked
        obtain ⟨es2, hes, hesl, hlv⟩ := hl2
        have hse : s < es2.length := by omega
        obtain ⟨mfe, hme, hmr⟩ := hlv s es2[s] (List.getElem?_eq_getElem hse)
        have ne_ex : es2[s] ≠ x := ne_of hme x2 (fun z => nomatch z)
        have ne_fx : fo ≠ x := ne_of hes x2 (fun z => nomatch z)
        have ne_fe : fo ≠ es2[s] := ne_of hes hme (fun z => nomatch z)
        have ne_De2 : D ≠ es2[s] := (ne_of_none hme fD).symm
        have ne_xe : x ≠ es2[s] := ne_ex.symm
        refine ⟨es2[s], _, sb6 _ _ ne_ex hme, trivial, fun od2 => ?_⟩
        refine ⟨_, rfl, _, rfl, fo, _, (s : Int), _, rfl, rfl, SqL.of ((upd_ne ne_fe).trans (sb6 _ _ ne_fx hes)), at_of (j := s) rfl (by rw [List.getElem?_map, List.getElem?_eq_getElem hse]; rfl), es2[s], od2, _, rfl, upd_same, ?_⟩
        have eR : upd H2 es2[s] (.frz od2 (.dT ((rowsOf L s).map fun r => (keyOf r, V.ref (mfe r))))) es2[s] = _ := upd_same
        have mR : ∀ r ∈ rowsOf L s, mfe r ≠ x ∧ upd H2 es2[s] (.frz od2 (.dT ((rowsOf L s).map fun r => (keyOf r, V.ref (mfe r))))) (mfe r) = some (.lst ((ab L r).map V.int)) := fun r hr =>
          ⟨ne_of (hmr r hr) x2 (fun z => nomatch z), (upd_ne (ne_of (hmr r hr) hme (fun z => nomatch z))).trans (hmr r hr)⟩
        have fDR : upd H2 es2[s] (.frz od2 (.dT ((rowsOf L s).map fun r => (keyOf r, V.ref (mfe r))))) D = none := (upd_ne ne_De2).trans fD
        have sbR : SameBut x (upd H2 es2[s] (.frz od2 (.dT ((rowsOf L s).map fun r => (keyOf r, V.ref (mfe r)))))) (upd H6 es2[s] (.frz od2 (.dT ((rowsOf L s).map fun r => (keyOf r, V.ref (mfe r)))))) := sameBut_lock sb6
        generalize hR : upd H2 es2[s] (.frz od2 (.dT ((rowsOf L s).map fun r => (keyOf r, V.ref (mfe r))))) = R at eR mR fDR sbR
        refine for_itemsT (fun j σ H7 => ∃ y5 y7 y8, σ = [some (.ref x), some v, some (.int ((m + 1 : Nat) : Int)), some (.ref fo), some (.ref go), y5, some (.int (s : Int)), y7, y8, none] ∧ SameBut x R H7 ∧ H7 x = some (.ins C dx (tab D)) ∧
            ∃ kvs, H7 D = some (.dT kvs) ∧ TabOk L m (s + 1) kvs ∧ (∀ r ∈ (rowsOf L s).take j, valV kvs (keyOf r) = some (vO (hopeAt L (m - s) r))) ∧ kvs.length ≤ 1296 * (i + 1) + j)
          ⟨y5, y7, y8, rfl, sbR, (upd_ne ne_xe).trans x6, kvs, (upd_ne ne_De2).trans hD6, kv6, (fun r hr => (nomatch hr)), kl6⟩ (fun j σ H7 _ ⟨_, _, _, _, sb, _⟩ => sb _ _ ne_ex eR) ?_ ?_
        · rintro j k v2 σ H7 t q2 hk ⟨y5, y7, y8, rfl, sb7, x7, kvs7, hD7, kv7, tk7, kl7⟩ nt hq2
          obtain ⟨r, hrj, hkv⟩ := map_get hk
          obtain ⟨rfl, rfl⟩ := Prod.mk.inj hkv
          have hrm : r ∈ rowsOf L s := List.mem_of_getElem? hrj
          rw [key_row] at hq2
          have hrl : r.length = s := (mem_rowsOf.mp hrm).2
          have hjl : j < (rowsOf L s).length := (List.getElem?_eq_some_iff.mp hrj).1
          have rl := rowsOf_few (k := s) hm (by omega)
          -- row, marks = the pair
          refine ⟨t, _, rfl, SqT.of upd_same, rfl, _, _, rfl, _, _, rfl, rfl, ?_⟩
          obtain ⟨ne_mx, mr⟩ := mR r hrm
          have m7 := sb7 _ _ ne_mx mr
          have st := same_upd (o := .tup [.ref q2, .ref (mfe r)]) nt
          have sb8 : SameBut x R (upd H7 t (.tup [.ref q2, .ref (mfe r)])) := sb7.trans (.of st)
          have x8 := st _ _ x7
          have hD8 := st _ _ hD7
          have m8 := st _ _ m7
          have q8 : RowAt (upd H7 t (.tup [.ref q2, .ref (mfe r)])) q2 r := st _ _ hq2
          generalize upd H7 t (.tup [.ref q2, .ref (mfe r)]) = H8 at sb8 x8 hD8 m8 q8
          clear st nt m7 hD7 x7 sb7 hq2
          -- longer = [self.table[row + (mark,)] for mark in marks]
          refine ⟨_, rfl, mfe r, rfl, ⟨_, SqL.of m8⟩, fun c nc => ?_⟩
          refine lc_list (K := K) (a := mfe r) (xs := (ab L r).map V.int) (fun y H9 => Same H8 H9 ∧ H9 c = some (.lst (((ab L r).take y).map fun o => vO (hopeAt L i (r ++ [o])))))
            ⟨same_upd nc, upd_same⟩ (fun y H9 _ ⟨s9, _⟩ => SqL.of (s9 _ _ m8)) ?_ ?_
          · rintro y z H9 hy ⟨s9, hc9⟩
            obtain ⟨o, ho, rfl⟩ := map_get hy
            have hro : r ++ [o] ∈ rowsOf L (s + 1) := mem_rowsOf.mpr ⟨isRow_snoc.mpr ⟨(mem_rowsOf.mp hrm).1, List.mem_of_getElem? ho⟩, by rw [List.length_append, hrl]; rfl⟩
            have hval := kv7 (s + 1) (Nat.le_refl _) (by omega) _ hro
            rw [show m - (s + 1) = i by omega] at hval
            have yl : y < 6 := Nat.lt_of_lt_of_le (List.getElem?_eq_some_iff.mp ho).1 (Nat.le_trans (ab_length L r) hm)
            have fin : ∀ (b : Addr) (H10 : Hp), Same H9 H10 → H10 b = some (.tup ((r ++ [o]).map V.int)) → ∃ (a : Addr) (v : V), (V.ref D) = .ref a ∧ DGet H10 a (.ref b) (some v) ∧ ∃ acc, H10 c = some (.lst acc) ∧ acc.length < sizeLine ∧
                Same H8 (upd H10 c (.lst (acc ++ [v]))) ∧ upd H10 c (.lst (acc ++ [v])) c = some (.lst (((ab L r).take (y + 1)).map fun o => vO (hopeAt L i (r ++ [o])))) := fun b H10 s10 hb => by
              refine ⟨D, _, rfl, hval ▸ DGet.t (k := keyOf (r ++ [o])) (s10 _ _ (s9 _ _ hD8)) (by rw [key_row]; exact hb), _, s10 _ _ hc9, ?_, Same.put (s9.trans s10) nc, ?_⟩
              · rw [List.length_map, List.length_take]
                omega
              · rw [upd_same, map_next ho]
            refine ⟨rfl, ⟨_, rfl, x, C, dx, _, _, rfl, s9 _ _ x8, T.cl, T.nt, tab_table D, _, rfl, _, rfl, by show 1 ≤ sizeLine; omega, fun t2 nt2 => ?_⟩⟩
            refine ⟨q2, t2, _, _, rfl, rfl, SqT.of ((same_upd nt2) _ _ (s9 _ _ q8)), SqT.of upd_same, by rw [List.length_map, hrl]; show s + 1 ≤ sizeLine; omega, fun er => ?_, fun _ z => (nomatch z), fun _ _ b nb => ?_⟩
            · refine fin t2 _ (same_upd nt2) ?_
              rw [upd_same, List.map_append, er]
              rfl
            · refine fin b _ ((same_upd nt2).trans (same_upd nb)) ?_
              rw [upd_same, List.map_append]
              rfl
          · rintro H9 ⟨s9, hc9⟩
            rw [List.length_map, List.take_length] at hc9
            have sb9 : SameBut x R H9 := sb8.trans (.of s9)
            have x9 := s9 _ _ x8
            have hD9 := s9 _ _ hD8
            have q9 : RowAt H9 q2 r := s9 _ _ q8
            have m9 := s9 _ _ m8
            -- self.table[row] = greatest(longer) if marks != [] else size + 1 - n
            refine ⟨_, rfl, Nat.zero_le _, fun p np => ?_⟩
            have sp := same_upd (o := .lst []) np
            refine ⟨.list ((ab L r).map .int), .list ([] : List PyData), .lst (SqL.of (sp _ _ m9)) (dp_ints _), .lst (SqL.of upd_same) .nil, shaped_ints _, shaped_ints [], ?_⟩
            rw [eqv_nil]
            have sb10 := sb9.trans (.of sp)
            have x10 := sp _ _ x9
            have hD10 := sp _ _ hD9
            have q10 : RowAt (upd H9 p (.lst [])) q2 r := sp _ _ q9
            have c10 := sp _ _ hc9
            have e10 : m - s = i + 1 := by omega
            rw [e10] at tk7 ⊢
            generalize upd H9 p (.lst []) = H10 at sb10 x10 hD10 q10 c10
            have kl10 : kvs7.length < sizeLine := by omega
            have fin : ∀ z, z = vO (hopeAt L (i + 1) r) → SameBut x R (upd H10 D (.dT (putK kvs7 (keyOf r) z))) ∧ upd H10 D (.dT (putK kvs7 (keyOf r) z)) x = some (.ins C dx (tab D)) ∧ ∃ kvs, upd H10 D (.dT (putK kvs7 (keyOf r) z)) D = some (.dT kvs) ∧ TabOk L m (s + 1) kvs ∧
                (∀ r ∈ (rowsOf L s).take (j + 1), valV kvs (keyOf r) = some (vO (hopeAt L (i + 1) r))) ∧ kvs.length ≤ 1296 * (i + 1) + (j + 1) := fun z hz => by
              refine ⟨sb10.put (.inl fDR), (upd_ne ne_xD).trans x10, _, upd_same, kv7.put hrm z, fun r2 hr2 => ?_, ?_⟩
              · rw [valV_putR]
                by_cases er : r2 = r
                · rw [if_pos er, hz, er]
                · rw [if_neg er]
                  refine tk7 r2 ?_
                  rw [take_next hrj] at hr2
                  rcases List.mem_append.mp hr2 with h | h
                  · exact h
                  · exact absurd (List.mem_singleton.mp h) er
              · have := length_putK kvs7 (keyOf r) z
                omega
            have eab : ((ab L r).map PyData.int).isEmpty = decide (ab L r = []) := by
              cases ab L r <;> simp
            rw [eab]
            refine ⟨_, rfl, ?_⟩
            by_cases ha : ab L r = []
            · rw [decide_eq_true ha]
              refine iteF ?_
              refine ⟨_, rfl, _, _, rfl, rfl, _, rfl, _, _, rfl, rfl, ?_⟩
              have ez : V.int ((s : Int) + 1 - ((m + 1 : Nat) : Int)) = vO (hopeAt L (i + 1) r) := by
                rw [hope_up, if_pos ha]
                show V.int _ = V.int _
                congr 1
                omega
              refine ⟨_, rfl, x, C, dx, _, _, rfl, x10, T.cl, T.nt, tab_table D, _, rfl, D, _, rfl, DPut.t (k := keyOf r) hD10 (by rw [key_row]; exact q10) kl10, _, _, _, rfl, ?_⟩
              exact fin _ ez
            · rw [decide_eq_false ha]
              refine iteT ?_
              refine ⟨_, rfl, c, (ab L r).map fun o => hopeAt L i (r ++ [o]), rfl, by rw [c10, List.map_map]; rfl, by simpa using ha, ?_⟩
              have ez : vO (great ((ab L r).map fun o => hopeAt L i (r ++ [o]))) = vO (hopeAt L (i + 1) r) := by
                rw [hope_up, if_neg ha]
              refine ⟨_, rfl, x, C, dx, _, _, rfl, x10, T.cl, T.nt, tab_table D, _, rfl, D, _, rfl, DPut.t (k := keyOf r) hD10 (by rw [key_row]; exact q10) kl10, _, _, _, rfl, ?_⟩
              exact fin _ ez
        · rintro σ H7 ⟨y5, y7, y8, rfl, sb7, x7, kvs7, hD7, kv7, tk7, kl7⟩
          rw [List.length_map, List.take_length] at tk7
          rw [List.length_map] at kl7
          have e7 := sb7 _ _ ne_ex eR
          refine ⟨e7, y5, _, y7, y8, rfl, ?_, (upd_ne ne_xe).trans x7, kvs7, (upd_ne ne_De2).trans hD7, fun j h1 h2 r hr => ?_, ?_⟩
          · rw [← hR] at sb7
            have := sameBut_unlock sb7 hme
            exact this
          · by_cases ej : s + 1 ≤ j
            · exact kv7 j ej h2 r hr
            · obtain rfl : j = s := by omega
              exact tk7 r hr
          · have := rowsOf_few (k := s) hm (by omega)
            omega
      · rintro σ H6 ⟨y5, y6, y7, y8, rfl, sb6, x6, kvs, hD6, kv6, kl6⟩
        refine q H6 D (fun b o hb h => sb6 _ _ hb (s02 _ _ h)) x6 ⟨kvs, hD6, ?_⟩
        have := kv6 0 (by omega) (by omega) [] (List.mem_singleton.mpr rfl)
        exact this
end
end K87
namespace K87
open PySem PySem.Spec PyProof.Rows L2
section
variable {P : Program} {w : World} {K : PySem.W.Frag} {mg : Str → Option Value} {base : Heap}
abbrev nHopeOf : List Str := ["self", "row"]
theorem scHopeOf : FnScope nHopeOf ["self", "row"] (defScope sHopeOf) := ⟨rfl, rfl, rfl, by decide +kernel, rfl, by decide +kernel, by decide +kernel⟩
def spHopeOf (C : Addr) : Sp := fun vs H Q _ => ∃ (x dx D t : Addr) (L : Lot) (n : Nat), vs = [.ref x, .ref t] ∧ H x = some (.ins C dx (tab D)) ∧ TableAt H D L n ∧ H t = some (.tup []) ∧ Q (vO (hopeAt L (n - 1) [])) H
theorem ok_hopeOf {f C : Addr} {fd : FuncData} {k : Nat} (F : Fun K "hope_of" "Hopes.hope_of" sHopeOf f fd) (T : HC K C) : FnOk P w K mg base CX0 (k + 1) f fd ["self", "row"] (spHopeOf C) := by
  refine F.ok scHopeOf (fun vs H Q E h => ?_) (fun cdv A outer s H vs Q E hr h => ?_)
  · obtain ⟨x, dx, D, t, L, n, rfl, _⟩ := h
    rfl
  · obtain ⟨x, dx, D, t, L, n, rfl, hx, ⟨kvs, hD, hv⟩, ht, q⟩ := h
    have hu := hu_of hr
    refine ⟨_, pss_one (ps_ret (pe_dget hu (pe_fld (pv 0) rfl) (pv 1) (fun _ _ => rfl))), ?_⟩
    exact ⟨_, rfl, x, C, dx, _, _, rfl, hx, T.cl, T.nt, tab_table D, _, rfl, D, _, rfl, hv ▸ DGet.t (k := []) hD ht, q⟩
/-! ### hope -/
abbrev nHope : List Str := ["lot", "n", "row"]
theorem scHope : FnScope nHope ["lot", "n", "row"] (defScope sHope) := ⟨rfl, rfl, rfl, by decide +kernel, rfl, by decide +kernel, by decide +kernel⟩
def spHope : Sp := fun vs H Q _ => ∃ (v : V) (t : Addr) (L : Lot) (m : Nat), vs = [v, .int ((m + 1 : Nat) : Int), .ref t] ∧ LotAt H v L ∧ H t = some (.tup []) ∧ m ≤ 4 ∧ ∀ H', Same H H' → Q (vO (hopeAt L m [])) H'
theorem ok_hope {f C fI fO : Addr} {fd fdI fdO : FuncData} (F : Fun K "hope" "hope" sHope f fd) (T : HC K C) (M : Mk K C fI) (mC : mg "Hopes" = some (.ref C)) (OI : FnOk P w K mg base CX0 3 fI fdI ["self", "lot", "n"] (spInit C)) (bI : Binds K fdI ["self", "lot", "n"] [])
    (mO : Meth K C "hope_of" fO) (OO : FnOk P w K mg base CX0 1 fO fdO ["self", "row"] (spHopeOf C)) (bO : Binds K fdO ["self", "row"] []) : FnOk P w K mg base CX0 5 f fd ["lot", "n", "row"] spHope := by
  refine F.ok scHope (fun vs H Q E h => ?_) (fun cdv A outer s H vs Q E hr h => ?_)
  · obtain ⟨v, t, L, m, rfl, _⟩ := h
    rfl
  · obtain ⟨v, t, L, m, rfl, hL, ht, hm4, q⟩ := h
    have hr1 : Room 1 _ := hr.mono (by decide)
    refine ⟨_, pss_one (ps_ret (pe_meth (pe_make M OI hr (by rfl) mC bI .nil pass0 (pa_cons (pv 0) (pa_cons (pv 1) pa_nil))) T.cl mO OO hr1 bO .nil pass0 (pa_cons (pv 2) pa_nil))), ?_⟩
    refine ⟨_, rfl, _, rfl, fun x dx nx ndx nex => ?_⟩
    have s0 : Same H (upd (upd H dx (.own x)) x (.ins C dx [])) := fun b o e => by
      rw [upd_ne (ne_of_none e nx), upd_ne (ne_of_none e ndx)]
      exact e
    refine ⟨x, dx, v, L, m, rfl, upd_same, hL.same s0, hm4, fun H1 D sb hx hT => ⟨rfl, ?_⟩⟩
    have s1 : Same H H1 := fun b o e => sb b o (ne_of_none e nx) (s0 b o e)
    refine ⟨x, dx, _, rfl, hx, tab_no D (by decide +kernel), _, rfl, x, dx, D, t, L, m + 1, rfl, hx, hT, s1 _ _ ht, ?_⟩
    exact q _ s1
/-! ### lasts -/
abbrev nLasts : List Str := ["lot", "n", "found"]
theorem scLasts : FnScope nLasts ["lot", "n"] (defScope sLasts) := ⟨rfl, rfl, rfl, by decide +kernel, rfl, by decide +kernel, by decide +kernel⟩
def spLasts : Sp := fun vs H Q _ => ∃ (v : V) (L : Lot) (m : Nat), vs = [v, .int ((m + 1 : Nat) : Int)] ∧ LotAt H v L ∧ m ≤ 4 ∧ ∀ H', Same H H' → Q (vO (lastsM L (m + 1))) H'
theorem ok_lasts {f : Addr} {fd : FuncData} (F : Fun K "lasts" "lasts" sLasts f fd) (CH : Cl P w K mg base 5 "hope" ["lot", "n", "row"] spHope) : FnOk P w K mg base CX0 6 f fd ["lot", "n"] spLasts := by
  refine F.ok scLasts (fun vs H Q E h => ?_) (fun cdv A outer s H vs Q E hr h => ?_)
  · obtain ⟨v, L, m, rfl, _⟩ := h
    rfl
  · obtain ⟨v, L, m, rfl, hL, hm4, q⟩ := h
    have nd := scLasts.nd
    refine ⟨_, pss_cons (ps_set (i := 2) nd rfl (.inl rfl) (pc CH hr (by rfl) (pa_cons (pv 0) (pa_cons (pv 1) (pa_cons (pe_tup pa_nil) pa_nil)))))
      (pss_one (ps_ret (pe_ifExp (pt_cmp (pc_isN (pv 2))) pe_non (pe_op op_add (pv 1) (pv 2))))), ?_⟩
    refine ⟨_, rfl, _, rfl, Nat.zero_le _, fun t nt => ?_⟩
    have s0 := same_upd (o := .tup []) nt
    refine ⟨v, t, L, m, rfl, hL.same s0, upd_same, hm4, fun H1 s1 => ?_⟩
    have qq := q H1 (s0.trans s1)
    unfold lastsM at qq
    rw [Nat.add_sub_cancel] at qq
    refine ⟨_, rfl, _, rfl, ?_⟩
    cases e : hopeAt L m [] with
    | none =>
      rw [e] at qq
      exact qq
    | some i =>
      rw [e] at qq
      exact ⟨_, rfl, _, rfl, _, _, rfl, rfl, qq⟩
end
end K87
namespace K87
open PySem PySem.Spec PyProof.Rows L2
section
variable {P : Program} {w : World} {K : PySem.W.Frag} {mg : Str → Option Value} {base : Heap}
/-! ### _law_is_longer -/
instance leO_dec : (a b : Option Int) → Decidable (leO a b)
  | _, none => .isTrue True.intro
  | none, some _ => .isFalse id
  | some a, some b => inferInstanceAs (Decidable (a ≤ b))
abbrev nLonger : List Str := ["_law_one", "_law_other"]
theorem scLonger : FnScope nLonger ["_law_one", "_law_other"] (defScope sLonger) := ⟨rfl, rfl, rfl, by decide +kernel, rfl, by decide +kernel, by decide +kernel⟩
def spLonger : Sp := fun vs H Q _ => ∃ a b : Option Int, vs = [vO a, vO b] ∧ Q (.bl (decide (leO b a))) H
theorem ok_longer {f : Addr} {fd : FuncData} {k : Nat} (F : Fun K "_law_is_longer" "_law_is_longer" sLonger f fd) : FnOk P w K mg base CX0 (k + 1) f fd ["_law_one", "_law_other"] spLonger := by
  refine F.ok scLonger (fun vs H Q E h => ?_) (fun cdv A outer s H vs Q E hr h => ?_)
  · obtain ⟨a, b, rfl, _⟩ := h
    rfl
  · obtain ⟨a, b, rfl, q⟩ := h
    refine ⟨_, pss_one (ps_ret (pe_or (pe_cmp (pc_isN (pv 0))) (pe_one (pe_and (pe_cmp (pc_notN (pv 1))) (pe_one (pe_cmpR op_ge (pv 0) (pv 1) (nomark _))))))), ?_⟩
    refine ⟨_, rfl, _, rfl, ?_⟩
    cases a with
    | none => exact q
    | some a =>
      refine ⟨_, rfl, _, rfl, ?_⟩
      cases b with
      | none => exact q
      | some b => exact ⟨_, rfl, _, rfl, _, _, rfl, rfl, q⟩
/-! ### _law_take -/
abbrev nTake : List Str := ["_law_pot_here", "_law_wide", "_law_digit", "_law_primes", "_law_prime", "_law_drawn"]
theorem scTake : FnScope nTake ["_law_pot_here", "_law_wide"] (defScope sTake) := ⟨rfl, rfl, rfl, by decide +kernel, rfl, by decide +kernel, by decide +kernel⟩
def spTake : Sp := fun vs H Q _ => ∃ (p : Addr) (c : Nat) (m : Int), vs = [.ref p, .int m] ∧ PotAt H p c ∧ c < 2 ^ 40 ∧ 0 < m ∧ m < 1073741824 ∧ ∀ H' d, SameBut p H H' → PotAt H' p (c + 1) → 0 ≤ d → d < m → Q (.int d) H'
theorem drawn_low {z n : Int} (h0 : 0 < n) (h : n < 2 ^ 32) : -(2 ^ 64) < z % n + 1 ∧ z % n + 1 < 2 ^ 64 := by
  have h1 := Int.emod_nonneg z (show n ≠ 0 by omega)
  have h2 := Int.emod_lt_of_pos z h0
  omega
abbrev primes8 : List Int := [2147483647, 2147483629, 2147483587, 2147483579, 2147483563, 2147483549, 2147483543, 2147483497]
theorem prime_at {z : Int} (h : 0 ≤ z) : ∃ (j : Nat) (y : Int), z % 8 = (j : Int) ∧ primes8[j]? = some y ∧ 0 < y ∧ y < 2 ^ 32 := by
  have h1 := Int.emod_nonneg z (show (8 : Int) ≠ 0 by decide)
  have h2 := Int.emod_lt_of_pos z (show (0 : Int) < 8 by decide)
  obtain ⟨j, hj⟩ : ∃ j : Nat, z % 8 = (j : Int) := ⟨(z % 8).toNat, by omega⟩
  have hl : j < primes8.length := by
    show j < 8
    omega
  have all : ∀ y ∈ primes8, 0 < y ∧ y < 2 ^ 32 := by decide
  exact ⟨j, primes8[j], hj, List.getElem?_eq_getElem hl, all _ (List.getElem_mem hl)⟩
theorem ok_take {f : Addr} {fd : FuncData} {k : Nat} (F : Fun K "_law_take" "_law_take" sTake f fd) : FnOk P w K mg base CX0 (k + 1) f fd ["_law_pot_here", "_law_wide"] spTake := by
  refine F.ok scTake (fun vs H Q E h => ?_) (fun cdv A outer s H vs Q E hr h => ?_)
  · obtain ⟨p, c, m, rfl, _⟩ := h
    rfl
  · obtain ⟨p, c, m, rfl, ⟨a, b, n, hp, hn0, hnc⟩, hc, hm0, hm1, q⟩ := h
    have nd := scTake.nd
    have line := line_ge
    refine ⟨_, pss_cons (ps_if (pt_cmpR op_gt (pe_ix ix_list (pv 0) pe_int (fun _ _ => rfl)) pe_int (nomark _))
        (pss_cons (ps_set (i := 2) nd rfl (.inl rfl) (pe_op op_mod (pe_ix ix_list (pv 0) pe_int (fun _ _ => rfl)) (pv 1)))
        (pss_cons (ps_asg (pe_op op_fdiv (pe_ix ix_list (pv 0) pe_int (fun _ _ => rfl)) (pv 1)) (pg_sub (pv 0) pe_int set_list))
        (pss_one (ps_ret (pv 2))))) pss_nil)
      (pss_cons (ps_asg (pe_op op_add (pe_ix ix_list (pv 0) pe_int (fun _ _ => rfl)) pe_int) (pg_sub (pv 0) pe_int set_list))
      (pss_cons (ps_set (i := 3) nd rfl (.inl rfl) (pe_lst (pa_cons pe_int (pa_cons pe_int (pa_cons pe_int (pa_cons pe_int (pa_cons pe_int (pa_cons pe_int (pa_cons pe_int (pa_cons pe_int pa_nil))))))))))
      (pss_cons (ps_set (i := 4) nd rfl (.inl rfl) (pe_ix ix_list (pv 3) (pe_op op_mod (pe_ix ix_list (pv 0) pe_int (fun _ _ => rfl)) pe_int) (fun _ _ => rfl)))
      (pss_cons (ps_set (i := 5) nd rfl (.inl rfl) (pe_op op_add (pe_op op_mod (pe_op op_mod (pe_op op_add (pe_ix ix_list (pv 0) pe_int (fun _ _ => rfl))
          (pe_op op_mul (pe_op op_mul pe_int (pe_ix ix_list (pv 0) pe_int (fun _ _ => rfl))) (pe_ix ix_list (pv 0) pe_int (fun _ _ => rfl)))) (pe_op op_pow (pv 4) pe_int)) (pv 4)) pe_int))
      (pss_one (ps_ret (pe_op op_mod (pe_op op_fdiv (pe_op op_mod (pe_op op_mul (pv 5) (pe_op op_add (pe_op op_mod (pv 5) pe_int) (pe_ix ix_list (pv 0) pe_int (fun _ _ => rfl)))) (pv 4)) pe_int) (pv 1)))))))), ?_⟩
    refine ⟨_, rfl, p, _, 0, _, rfl, rfl, SqL.of hp, atI_nat (j := 0) rfl, _, _, rfl, rfl, _, rfl, ?_⟩
    refine ite2 (fun hc1 => ?_) (fun hc1 => ?_)
    · have ha : 0 < a := of_decide_eq_true hc1
      refine ⟨_, rfl, p, _, 0, _, rfl, rfl, SqL.of hp, atI_nat (j := 0) rfl, _, rfl, _, _, rfl, rfl, hm0, ?_⟩
      refine ⟨_, rfl, p, _, 0, _, rfl, rfl, SqL.of hp, atI_nat (j := 0) rfl, _, rfl, _, _, rfl, rfl, ⟨hm0, hm1⟩, ?_⟩
      refine ⟨_, rfl, p, _, 0, 0, rfl, rfl, hp, rfl, ?_⟩
      refine ⟨_, rfl, ?_⟩
      exact q _ _ ((SameBut.refl p H).put (.inr rfl)) ⟨_, _, _, upd_same, hn0, by omega⟩ (Int.emod_nonneg _ (by omega)) (Int.emod_lt_of_pos _ hm0)
    · refine ⟨_, rfl, p, _, 2, _, rfl, rfl, SqL.of hp, atI_nat (j := 2) rfl, _, _, rfl, rfl, ?_⟩
      refine ⟨_, rfl, p, _, 2, 2, rfl, rfl, hp, rfl, ?_⟩
      have sb := (SameBut.refl p H).put (o := .lst (([.int a, .int b, .int n] : List V).set 2 (.int (n + 1)))) (.inr rfl)
      have hp1 : upd H p (.lst (([.int a, .int b, .int n] : List V).set 2 (.int (n + 1)))) p = some (.lst [.int a, .int b, .int (n + 1)]) := upd_same
      generalize upd H p (.lst (([.int a, .int b, .int n] : List V).set 2 (.int (n + 1)))) = H1 at sb hp1
      refine ⟨by show 8 ≤ sizeLine; omega, fun l nl => ?_⟩
      have s2 := same_upd (o := .lst (primes8.map V.int)) nl
      have hp2 := s2 _ _ hp1
      have hl2 : upd H1 l (.lst (primes8.map V.int)) l = _ := upd_same
      have sb2 := sb.trans (.of s2)
      rw [show ([.int 2147483647, .int 2147483629, .int 2147483587, .int 2147483579, .int 2147483563, .int 2147483549, .int 2147483543, .int 2147483497] : List V) = primes8.map V.int from rfl]
      generalize upd H1 l (.lst (primes8.map V.int)) = H2 at s2 hp2 hl2 sb2 ⊢
      obtain ⟨j, y, hj, hy, hy0, hy1⟩ := prime_at (z := n + 1) (by omega)
      refine ⟨_, rfl, _, rfl, p, _, 2, _, rfl, rfl, SqL.of hp2, atI_nat (j := 2) rfl, _, _, rfl, rfl, (by show (0 : Int) < 8; decide), l, _, _, .int y, rfl, rfl, SqL.of hl2, at_of (j := j) hj (by rw [List.getElem?_map, hy]; rfl), ?_⟩
      have hy2 : 0 < y ^ (2 : Int).toNat := by
        show 0 < y ^ 2
        rw [show y ^ 2 = y * y by rw [Int.pow_succ, Int.pow_succ, Int.pow_zero, Int.one_mul]]
        exact Int.mul_pos hy0 hy0
      have hn64 : -(2 ^ 64) < n + 1 ∧ n + 1 < 2 ^ 64 := by omega
      have hd := drawn_low (z := (b + 69621 * (n + 1) * (n + 1)) % y ^ (2 : Int).toNat) hy0 hy1
      refine ⟨_, rfl, p, _, 1, _, rfl, rfl, SqL.of hp2, atI_nat (j := 1) rfl, _, rfl, p, _, 2, _, rfl, rfl, SqL.of hp2, atI_nat (j := 2) rfl, _, _, rfl, rfl, .inr hn64,
        _, rfl, p, _, 2, _, rfl, rfl, SqL.of hp2, atI_nat (j := 2) rfl, _, _, rfl, rfl, .inr hn64, _, _, rfl, rfl, _, rfl, _, _, rfl, rfl, ⟨by decide, by decide, by omega⟩, _, _, rfl, rfl, hy2, _, rfl, _, _, rfl, rfl, hy0, _, _, rfl, rfl, ?_⟩
      refine ⟨_, rfl, _, rfl, _, _, rfl, rfl, (by show (0 : Int) < 1009; decide), _, rfl, p, _, 2, _, rfl, rfl, SqL.of hp2, atI_nat (j := 2) rfl, _, _, rfl, rfl, _, _, rfl, rfl, .inl hd, _, rfl, _, _, rfl, rfl, hy0,
        _, _, rfl, rfl, ⟨by decide, by decide⟩, _, rfl, _, _, rfl, rfl, hm0, ?_⟩
      exact q _ _ sb2 ⟨_, _, _, hp2, by omega, by omega⟩ (Int.emod_nonneg _ (by omega)) (Int.emod_lt_of_pos _ hm0)
/-! ### _law_of -/
abbrev nOf : List Str := ["_law_pot_here", "_law_some"]
theorem scOf : FnScope nOf ["_law_pot_here", "_law_some"] (defScope sOf) := ⟨rfl, rfl, rfl, by decide +kernel, rfl, by decide +kernel, by decide +kernel⟩
def spOf : Sp := fun vs H Q _ => ∃ (p a : Addr) (c : Nat) (xs : List V), vs = [.ref p, .ref a] ∧ PotAt H p c ∧ c < 2 ^ 40 ∧ H a = some (.lst xs) ∧ a ≠ p ∧ xs ≠ [] ∧ xs.length < 1073741824 ∧ ∀ H' x, SameBut p H H' → PotAt H' p (c + 1) → x ∈ xs → Q x H'
theorem ok_of {f : Addr} {fd : FuncData} (F : Fun K "_law_of" "_law_of" sOf f fd) (B : Blt mg) (CT : Cl P w K mg base 1 "_law_take" ["_law_pot_here", "_law_wide"] spTake) : FnOk P w K mg base CX0 2 f fd ["_law_pot_here", "_law_some"] spOf := by
  refine F.ok scOf (fun vs H Q E h => ?_) (fun cdv A outer s H vs Q E hr h => ?_)
  · obtain ⟨p, a, c, xs, rfl, _⟩ := h
    rfl
  · obtain ⟨p, a, c, xs, rfl, hp, hc, ha, hap, hx, hl, q⟩ := h
    refine ⟨_, pss_one (ps_ret (pe_ix ix_list (pv 1) (pc CT hr (by rfl) (pa_cons (pv 0) (pa_cons (pe_callB call_len_seq (by rfl) B.len (by decide +kernel) (pa_cons (pv 1) pa_nil)) pa_nil))) (fun _ _ => rfl))), ?_⟩
    have h0 : 0 < xs.length := List.length_pos_iff.mpr hx
    refine ⟨_, rfl, _, rfl, _, rfl, a, xs, rfl, .inl (SqL.of ha), p, c, _, rfl, hp, hc, by omega, by omega, fun H' d sb hp' hd0 hd1 => ?_⟩
    have hd : d.toNat < xs.length := by omega
    refine ⟨a, xs, d, xs[d.toNat], rfl, rfl, SqL.of (sb _ _ hap ha), at_of (j := d.toNat) (by omega) (List.getElem?_eq_getElem hd), ?_⟩
    exact q _ _ sb hp' (List.getElem_mem hd)
/-! ### _law_pot -/
theorem bit_low (b : Bool) : -(2 ^ 64) < (if b = true then 1 else 0 : Int) ∧ (if b = true then 1 else 0 : Int) < 2 ^ 64 := by cases b <;> decide
abbrev nPot : List Str := ["_law_script", "_law_k", "_law_cell", "_law_far"]
theorem scPot : FnScope nPot ["_law_script", "_law_k"] (defScope sPot) := ⟨rfl, rfl, rfl, by decide +kernel, rfl, by decide +kernel, by decide +kernel⟩
def spPot (K : PySem.W.Frag) : Sp := fun vs H Q _ => ∃ (a : Addr) (ns : List Int) (k : Nat), vs = [.ref a, .int (k : Int)] ∧ SqL K H a (ns.map V.int) ∧ ∀ H' p, Same H H' → H p = none → PotAt H' p 0 → Q (.ref p) H'
theorem ok_pot {f : Addr} {fd : FuncData} {k : Nat} (F : Fun K "_law_pot" "_law_pot" sPot f fd) (B : Blt mg) : FnOk P w K mg base CX0 (k + 1) f fd ["_law_script", "_law_k"] (spPot K) := by
  refine F.ok scPot (fun vs H Q E h => ?_) (fun cdv A outer s H vs Q E hr h => ?_)
  · obtain ⟨a, ns, k, rfl, _⟩ := h
    rfl
  · obtain ⟨a, ns, k, rfl, ha, q⟩ := h
    have nd := scPot.nd
    have line := line_ge
    refine ⟨_, pss_cons (ps_set (i := 2) nd rfl (.inl rfl) (pe_ifExp (pt_cmpR op_lt (pv 1) (pe_callB call_len_seq (by rfl) B.len (by decide +kernel) (pa_cons (pv 0) pa_nil)) (nomark _)) (pe_ix ix_list (pv 0) (pv 1) (fun _ _ => rfl)) pe_int))
      (pss_cons (ps_set (i := 3) nd rfl (.inl rfl) (pe_op op_mulW (pe_op op_mulW (pe_op op_mulW (pe_op op_mulW (pe_op op_pow pe_int pe_int) (pe_op op_pow pe_int pe_int)) (pe_op op_pow pe_int pe_int)) (pe_op op_pow pe_int pe_int)) (pe_op op_pow pe_int pe_int)))
      (pss_one (ps_ret (pe_lst (pa_cons (pe_op op_mul (pe_op op_mod (pe_callB call_abs (by rfl) B.abs (by decide +kernel) (pa_cons (pv 2) pa_nil)) (pv 3))
          (pe_callTy call_int1 (by rfl) B.int (by decide +kernel) (pa_cons (pe_cmpR op_ge (pe_callB call_abs (by rfl) B.abs (by decide +kernel) (pa_cons (pv 2) pa_nil)) (pe_op op_pow pe_int pe_int) (nomark _)) pa_nil)))
        (pa_cons (pe_op op_add (pe_op op_add (pe_op op_mod (pv 2) pe_int) (pe_op op_mul pe_int (pv 1))) pe_int) (pa_cons pe_int pa_nil))))))), ?_⟩
    have cp : ∀ j : Int, 0 ≤ j → j ≤ 1000 → CPow 10 j := fun j h1 h2 => ⟨h1, by omega, by decide⟩
    have w1 : CMulW ((10 : Int) ^ (60 : Int).toNat) ((10 : Int) ^ (60 : Int).toNat) := by
      unfold CMulW
      decide +kernel
    have w2 : CMulW ((10 : Int) ^ (60 : Int).toNat * (10 : Int) ^ (60 : Int).toNat) ((10 : Int) ^ (60 : Int).toNat) := by
      unfold CMulW
      decide +kernel
    have w3 : CMulW ((10 : Int) ^ (60 : Int).toNat * (10 : Int) ^ (60 : Int).toNat * (10 : Int) ^ (60 : Int).toNat) ((10 : Int) ^ (60 : Int).toNat) := by
      unfold CMulW
      decide +kernel
    have w4 : CMulW ((10 : Int) ^ (60 : Int).toNat * (10 : Int) ^ (60 : Int).toNat * (10 : Int) ^ (60 : Int).toNat * (10 : Int) ^ (60 : Int).toNat) ((10 : Int) ^ (60 : Int).toNat) := by
      unfold CMulW
      decide +kernel
    have wp : 0 < (10 : Int) ^ (60 : Int).toNat * (10 : Int) ^ (60 : Int).toNat * (10 : Int) ^ (60 : Int).toNat * (10 : Int) ^ (60 : Int).toNat * (10 : Int) ^ (60 : Int).toNat := by
      decide +kernel
    refine ⟨_, rfl, _, rfl, a, _, rfl, .inl ha, _, _, rfl, rfl, _, rfl, ?_⟩
    refine ite2 (fun hc => ?_) (fun hc => ?_)
    · have hk := of_decide_eq_true hc
      rw [List.length_map] at hk
      have hk2 : k < ns.length := by omega
      refine ⟨_, rfl, _, rfl, a, _, _, .int ns[k], rfl, rfl, ha, atI_nat (j := k) (by rw [List.getElem?_map, List.getElem?_eq_getElem hk2]; rfl), ?_⟩
      refine ⟨_, _, rfl, rfl, cp 60 (by decide) (by decide), _, _, rfl, rfl, cp 60 (by decide) (by decide), _, _, rfl, rfl, w1, _, _, rfl, rfl, cp 60 (by decide) (by decide), _, _, rfl, rfl, w2, _, _, rfl, rfl, cp 60 (by decide) (by decide), _, _, rfl, rfl, w3,
        _, _, rfl, rfl, cp 60 (by decide) (by decide), _, _, rfl, rfl, w4, ?_⟩
      refine ⟨_, rfl, _, rfl, _, rfl, _, _, rfl, rfl, wp, _, rfl, _, rfl, _, _, rfl, rfl, cp 18 (by decide) (by decide), _, _, rfl, rfl, .inr ⟨_, rfl, _, _, rfl, rfl, .inr (bit_low _), ?_⟩⟩
      refine ⟨_, rfl, _, _, rfl, rfl, (by show (0 : Int) < 2305843009213693951; decide), _, rfl, _, _, rfl, rfl, .inl (by decide), _, _, rfl, rfl, _, _, rfl, rfl, by show 3 ≤ sizeLine; omega, fun p np => ?_⟩
      exact q _ _ (same_upd np) np ⟨_, _, _, upd_same, Int.le_refl _, Int.le_refl _⟩
    · refine ⟨_, _, rfl, rfl, cp 60 (by decide) (by decide), _, _, rfl, rfl, cp 60 (by decide) (by decide), _, _, rfl, rfl, w1, _, _, rfl, rfl, cp 60 (by decide) (by decide), _, _, rfl, rfl, w2, _, _, rfl, rfl, cp 60 (by decide) (by decide), _, _, rfl, rfl, w3,
        _, _, rfl, rfl, cp 60 (by decide) (by decide), _, _, rfl, rfl, w4, ?_⟩
      refine ⟨_, rfl, _, rfl, _, rfl, _, _, rfl, rfl, wp, _, rfl, _, rfl, _, _, rfl, rfl, cp 18 (by decide) (by decide), _, _, rfl, rfl, .inr ⟨_, rfl, _, _, rfl, rfl, .inr (bit_low _), ?_⟩⟩
      refine ⟨_, rfl, _, _, rfl, rfl, (by show (0 : Int) < 2305843009213693951; decide), _, rfl, _, _, rfl, rfl, .inl (by decide), _, _, rfl, rfl, _, _, rfl, rfl, by show 3 ≤ sizeLine; omega, fun p np => ?_⟩
      exact q _ _ (same_upd np) np ⟨_, _, _, upd_same, Int.le_refl _, Int.le_refl _⟩
end
end K87
namespace K87
open PySem PySem.Spec PyProof.Rows L2
theorem PotAt.more {H : Hp} {p : Addr} {c d : Nat} (h : PotAt H p c) (e : c ≤ d) : PotAt H p d := by
  obtain ⟨a, b, n, h1, h2, h3⟩ := h
  exact ⟨a, b, n, h1, h2, by omega⟩
theorem PotAt.same {H H' : Hp} {p : Addr} {c : Nat} (h : PotAt H p c) (s : Same H H') : PotAt H' p c := by
  obtain ⟨a, b, n, h1, h2, h3⟩ := h
  exact ⟨a, b, n, s _ _ h1, h2, h3⟩
theorem PotAt.noTup {H : Hp} {p : Addr} {c : Nat} (h : PotAt H p c) : K87.noTup H p := by
  obtain ⟨a, b, n, h1, h2, h3⟩ := h
  exact noTup_of h1 fun _ z => nomatch z
theorem PotAt.some {H : Hp} {p : Addr} {c : Nat} (h : PotAt H p c) : ∃ o, H p = some o := by
  obtain ⟨a, b, n, h1, h2, h3⟩ := h
  exact ⟨_, h1⟩
theorem PotAt.ne {H : Hp} {p q : Addr} {c : Nat} (h : PotAt H p c) (hq : H q = none) : q ≠ p := by
  obtain ⟨a, b, n, h1, h2, h3⟩ := h
  exact (ne_of_none h1 hq).symm
theorem PotAt.keep {H H' : Hp} {p q : Addr} {c : Nat} (h : PotAt H p c) (s : SameBut q H H') (n : p ≠ q) : PotAt H' p c := by
  obtain ⟨a, b, n, h1, h2, h3⟩ := h
  exact ⟨a, b, n, s _ _ ‹_› h1, h2, h3⟩
theorem PairAt.but {H H' : Hp} {b t : Addr} {q : Int × Int} (h : PairAt H t q) (s : SameBut b H H') (n : noTup H b) : PairAt H' t q := s _ _ (fun e => n _ (e ▸ h)) h
theorem LotAt.but {H H' : Hp} {b : Addr} {v : V} {L : Lot} (h : LotAt H v L) (s : SameBut b H H') (n : noTup H b) : LotAt H' v L := by
  obtain ⟨h0, a, p, ts, h1, h2, h3, h4⟩ := h
  exact ⟨h0, a, p, ts, h1, s _ _ (fun e => n _ (e ▸ h2)) h2, s _ _ (fun e => n _ (e ▸ h3)) h3, paired_same h4 fun _ _ e => e.but s n⟩
theorem SameBut.put_new {p : Addr} {H H' : Hp} {q : Addr} {o : HO} (s : SameBut p H H') (c : ∃ u, H' p = some u) (h : H' q = none) : SameBut p H (upd H' q o) := by
  obtain ⟨u, hu⟩ := c
  exact s.put (.inl (SameBut.free s hu h))
/-! ### pairs as rows -/
abbrev rowP (q : Int × Int) : Row := [q.1, q.2]
theorem sortR_pairs (qs : List (Int × Int)) : ∃ ps : List (Int × Int), ps.Perm qs ∧ sortR (qs.map rowP) = ps.map rowP := by
  refine ⟨(sortR (qs.map rowP)).map fun r => (r.getD 0 0, r.getD 1 0), ?_, ?_⟩
  · refine ((sortR_perm (qs.map rowP)).map _).trans (List.Perm.of_eq ?_)
    rw [List.map_map]
    conv => rhs; rw [← List.map_id qs]
    exact List.map_congr_left fun q _ => rfl
  · rw [List.map_map]
    conv => lhs; rw [← List.map_id (sortR (qs.map rowP))]
    refine List.map_congr_left fun r hr => ?_
    obtain ⟨q, _, rfl⟩ := List.mem_map.mp (sortR_mem.mp hr)
    rfl
theorem paired_rowP {H : Hp} : ∀ {us : List Addr} {qs : List (Int × Int)}, Paired (PairAt H) us qs → Paired (RowAt H) us (qs.map rowP)
  | _, _, .nil => .nil
  | _, _, .cons h t => .cons h (paired_rowP t)
theorem paired_rowP_back {H : Hp} : ∀ {us : List Addr} {qs : List (Int × Int)}, Paired (RowAt H) us (qs.map rowP) → Paired (PairAt H) us qs
  | _, [], h => by
    cases h
    exact .nil
  | _, q :: qs, h => by
    cases h with
    | cons a t => exact .cons a (paired_rowP_back t)
theorem rowP_sortable (qs : List (Int × Int)) : (∀ r ∈ qs.map rowP, r ≠ []) ∨ (qs.map rowP).length ≤ 1 := .inl fun r hr => by
  obtain ⟨q, _, rfl⟩ := List.mem_map.mp hr
  exact fun z => nomatch z
/-- (n, tuple(sorted(pairs))), laid -/
theorem lot_made {H : Hp} {p l t : Addr} {us : List Addr} {n : Nat} {qs : List (Int × Int)} (np : H p = none) (nl : upd H p (.lst (us.map V.ref)) l = none) (nt : upd (upd H p (.lst (us.map V.ref))) l (.tup (us.map V.ref)) t = none)
    (pu : Paired (RowAt H) us (sortR (qs.map rowP))) (hok : ∀ q ∈ qs, (0 ≤ q.1 ∧ q.1 < (n : Int)) ∧ 0 ≤ q.2 ∧ q.2 < (n : Int)) (hn : n ≤ 6) (hl : qs.length ≤ 100) :
    ∃ L : Lot, L.many = n ∧ L.pairs.Perm qs ∧ Same H (upd (upd (upd H p (.lst (us.map V.ref))) l (.tup (us.map V.ref))) t (.tup [.int (n : Int), .ref l])) ∧ LotAt (upd (upd (upd H p (.lst (us.map V.ref))) l (.tup (us.map V.ref))) t (.tup [.int (n : Int), .ref l])) (.ref t) L := by
  obtain ⟨ps, hp, he⟩ := sortR_pairs qs
  rw [he] at pu
  have s : Same H (upd (upd (upd H p (.lst (us.map V.ref))) l (.tup (us.map V.ref))) t (.tup [.int (n : Int), .ref l])) := (same_upd np).trans ((same_upd nl).trans (same_upd nt))
  refine ⟨⟨n, ps⟩, rfl, hp, s, ⟨fun x y h => hok (x, y) (hp.mem_iff.mp h), hn, by rw [hp.length_eq]; exact hl⟩, t, l, us, rfl, upd_same, ?_, paired_same (paired_rowP_back pu) fun _ _ h => s _ _ h⟩
  rw [upd_ne (ne_of_none (o := .tup (us.map V.ref)) upd_same nt), upd_same]
section
variable {P : Program} {w : World} {K : PySem.W.Frag} {mg : Str → Option Value} {base : Heap}
/-! ### _law_web -/
abbrev nWeb : List Str := ["_law_pot_here", "_law_most", "_law_sort", "_law_count", "_law_pairs", "_law_x", "_law_y", "_law_way"]
theorem scWeb : FnScope nWeb ["_law_pot_here", "_law_most"] (defScope sWeb) := ⟨rfl, rfl, rfl, by decide +kernel, rfl, by decide +kernel, by decide +kernel⟩
def spWeb : Sp := fun vs H Q _ => ∃ (p : Addr), vs = [.ref p, .int 6] ∧ PotAt H p 0 ∧ ∀ H' v L, SameBut p H H' → PotAt H' p 100 → LotAt H' v L → L.pairs.length ≤ 50 → Q v H'
/-- one of the six: what is appended -/
theorem six {H : Hp} {l1 l2 l3 l4 l5 l6 t1 t2 : Addr} {q1 q2 : Int × Int} (h1 : H l1 = some (.lst [.ref t1])) (h2 : H l2 = some (.lst [.ref t2])) (h3 : H l3 = some (.lst [])) (h4 : H l4 = some (.lst [])) (h5 : H l5 = some (.lst []))
    (h6 : H l6 = some (.lst [])) (g1 : PairAt H t1 q1) (g2 : PairAt H t2 q2) {d : Int} (hd0 : 0 ≤ d) (hd : d < 6) :
    ∃ (b : Addr) (us : List Addr) (ps : List (Int × Int)), ([.ref l1, .ref l2, .ref l3, .ref l4, .ref l5, .ref l6] : List V)[d.toNat]? = some (.ref b) ∧ H b = some (.lst (us.map V.ref)) ∧ Paired (PairAt H) us ps ∧ ps.length ≤ 1 ∧ ∀ q ∈ ps, q = q1 ∨ q = q2 := by
  obtain ⟨j, hj⟩ : ∃ j : Nat, d = (j : Int) := ⟨d.toNat, by omega⟩
  subst hj
  have hj6 : j < 6 := by omega
  rw [Int.toNat_natCast]
  match j, hj6 with
  | 0, _ => exact ⟨l1, [t1], [q1], rfl, h1, .cons g1 .nil, Nat.le_refl _, fun q hq => .inl (List.mem_singleton.mp hq)⟩
  | 1, _ => exact ⟨l2, [t2], [q2], rfl, h2, .cons g2 .nil, Nat.le_refl _, fun q hq => .inr (List.mem_singleton.mp hq)⟩
  | 2, _ => exact ⟨l3, [], [], rfl, h3, .nil, Nat.zero_le _, fun q hq => (nomatch hq)⟩
  | 3, _ => exact ⟨l4, [], [], rfl, h4, .nil, Nat.zero_le _, fun q hq => (nomatch hq)⟩
  | 4, _ => exact ⟨l5, [], [], rfl, h5, .nil, Nat.zero_le _, fun q hq => (nomatch hq)⟩
  | 5, _ => exact ⟨l6, [], [], rfl, h6, .nil, Nat.zero_le _, fun q hq => (nomatch hq)⟩
theorem wide_at {d : Int} (hd0 : 0 ≤ d) (hd : d < 6) : ∃ m : Int, ([.int 3, .int 2, .int 2, .int 6, .int 3, .int 2] : List V)[d.toNat]? = some (.int m) ∧ 0 < m ∧ m ≤ 6 := by
  obtain ⟨j, hj⟩ : ∃ j : Nat, d = (j : Int) := ⟨d.toNat, by omega⟩
  subst hj
  have hj6 : j < 6 := by omega
  rw [Int.toNat_natCast]
  match j, hj6 with
  | 0, _ => exact ⟨3, rfl, by decide, by decide⟩
  | 1, _ => exact ⟨2, rfl, by decide, by decide⟩
  | 2, _ => exact ⟨2, rfl, by decide, by decide⟩
  | 3, _ => exact ⟨6, rfl, by decide, by decide⟩
  | 4, _ => exact ⟨3, rfl, by decide, by decide⟩
  | 5, _ => exact ⟨2, rfl, by decide, by decide⟩
theorem bit_few (b : Bool) : 0 ≤ (if b = true then 1 else 0 : Int) ∧ (if b = true then 1 else 0 : Int) < 6 := by cases b <;> decide
theorem paired_app {α β : Type} {F : α → β → Prop} : ∀ {l l' : List α} {m m' : List β}, Paired F l m → Paired F l' m' → Paired F (l ++ l') (m ++ m')
  | _, _, _, _, .nil, h => h
  | _, _, _, _, .cons g t, h => .cons g (paired_app t h)
set_option maxHeartbeats 1000000 in
theorem ok_web {f : Addr} {fd : FuncData} (F : Fun K "_law_web" "_law_web" sWeb f fd) (B : Blt mg) (CT : Cl P w K mg base 1 "_law_take" ["_law_pot_here", "_law_wide"] spTake) : FnOk P w K mg base CX0 2 f fd ["_law_pot_here", "_law_most"] spWeb := by
  refine F.ok scWeb (fun vs H Q E h => ?_) (fun cdv A outer s H vs Q E hr h => ?_)
  · obtain ⟨p, rfl, _⟩ := h
    rfl
  · obtain ⟨p, rfl, hp, q⟩ := h
    have nd := scWeb.nd
    have line := line_ge
    refine ⟨_, pss_cons (ps_par (i := 2) (j := 3) rfl nd rfl rfl (by decide) rfl rfl (pa_cons (pc CT hr (by rfl) (pa_cons (pv 0) (pa_cons pe_int pa_nil))) (pa_cons (pc CT hr (by rfl) (pa_cons (pv 0) (pa_cons (pe_op op_add (pv 1) pe_int) pa_nil))) pa_nil)) (by rfl))
      (pss_cons (ps_set (i := 4) nd rfl (.inl rfl) (pe_lst pa_nil))
      (pss_cons (ps_for PassesOwn.never rfl (pi_range1 (by rfl) B.range (pa_cons (pv 3) pa_nil)) (pg_name (i := 5) nd rfl (.inl rfl))
        (pss_one (ps_for PassesOwn.never rfl (pi_range1 (by rfl) B.range (pa_cons (pv 5) pa_nil)) (pg_name (i := 6) nd rfl (.inl rfl))
          (pss_cons (ps_set (i := 7) nd rfl (.inl rfl) (pc CT hr (by rfl) (pa_cons (pv 0) (pa_cons (pe_ix ix_list (pe_lst (pa_cons pe_int (pa_cons pe_int (pa_cons pe_int (pa_cons pe_int (pa_cons pe_int (pa_cons pe_int pa_nil))))))) (pv 2) (fun _ _ => rfl)) pa_nil))))
          (C8.pss_cut (ps_if (pt_cmpR op_eq (pv 2) pe_int (nomark _)) (pss_one (ps_set (i := 7) nd rfl (.inl rfl) (pe_callTy call_int1 (by rfl) B.int (by decide +kernel) (pa_cons (pe_cmpR op_lt (pe_op op_mul pe_int (pe_op op_sub (pv 5) (pv 6))) (pv 3) (nomark _)) pa_nil)))) pss_nil)
          (C8.pss_cut (ps_if (PW.pt (pw_and (pt_cmpR op_eq (pv 2) pe_int (nomark _)) (pw_and (pt_cmpR op_eq (pe_op op_fdiv (pv 5) pe_int) (pe_op op_fdiv (pv 6) pe_int) (nomark _)) (pw_and1 (pt_cmpR op_lt (pv 5) (pe_op op_mul (pe_op op_fdiv (pv 3) pe_int) pe_int) (nomark _))))))
            (pss_one (ps_set (i := 7) nd rfl (.inl rfl) (pe_callTy call_int1 (by rfl) B.int (by decide +kernel) (pa_cons (pe_cmpR op_eq (pe_op op_sub (pv 5) (pv 6)) pe_int (nomark _)) pa_nil)))) pss_nil)
          (C8.pss_cut (ps_if (pt_cmpR op_eq (pv 2) pe_int (nomark _)) (pss_one (ps_set (i := 7) nd rfl (.inl rfl) pe_int)) pss_nil)
          (pss_one (ps_expr (pe_bm PySem.F.plainAttrs_list PySem.F.slot_list_extend PySem.F.type_list_extend mt_extend (pv 4) (pa_cons (pe_ix ix_list
            (pe_lst (pa_cons (pe_lst (pa_cons (pe_tup (pa_cons (pv 6) (pa_cons (pv 5) pa_nil))) pa_nil)) (pa_cons (pe_lst (pa_cons (pe_tup (pa_cons (pv 5) (pa_cons (pv 6) pa_nil))) pa_nil)) (pa_cons (pe_lst pa_nil) (pa_cons (pe_lst pa_nil) (pa_cons (pe_lst pa_nil) (pa_cons (pe_lst pa_nil) pa_nil)))))))
            (pv 7) (fun _ _ => rfl)) pa_nil)))))))))))
      (pss_one (ps_ret (pe_tup (pa_cons (pv 3) (pa_cons (pe_callTy call_tuple_of (by rfl) B.tuple (by decide +kernel) (pa_cons (pe_callB (cr_sortT hr.units) (by rfl) B.sorted (by decide +kernel) (pa_cons (pv 4) pa_nil)) pa_nil)) pa_nil))))))), ?_⟩
    -- _law_sort, _law_count
    refine ⟨_, rfl, p, 0, 6, rfl, hp, by decide, by decide, by decide, fun H1 so sb1 hp1 hs0 hs6 => ?_⟩
    refine ⟨_, rfl, _, rfl, _, _, rfl, rfl, p, 1, 7, rfl, hp1, by decide, by decide, by decide, fun H2 co sb2 hp2 hc0 hc7 => ?_⟩
    have sb := sb1.trans sb2
    clear sb1 sb2 hp1
    obtain ⟨n, rfl⟩ : ∃ n : Nat, co = (n : Int) := ⟨co.toNat, by omega⟩
    refine ⟨_, _, rfl, Nat.zero_le _, fun a na => ?_⟩
    obtain ⟨o2, ho2⟩ := hp2.some
    have fa : H a = none := SameBut.free sb ho2 na
    have ne_ap : a ≠ p := hp2.ne na
    have s3 := same_upd (o := .lst []) na
    -- for _law_x in range(_law_count)
    refine ⟨_, rfl, (n : Int), rfl, by omega, by omega, ?_⟩
    refine for_range (lo := 0) (n := (n : Int).toNat) (fun i σ H3 => ∃ x5 x6 x7, σ = [some (.ref p), some (.int 6), some (.int so), some (.int (n : Int)), some (.ref a), x5, x6, x7] ∧ SameBut p H H3 ∧ PotAt H3 p (2 + 6 * i) ∧
        ∃ (ts : List Addr) (qs : List (Int × Int)), H3 a = some (.lst (ts.map V.ref)) ∧ Paired (PairAt H3) ts qs ∧ (∀ q ∈ qs, (0 ≤ q.1 ∧ q.1 < (n : Int)) ∧ 0 ≤ q.2 ∧ q.2 < (n : Int)) ∧ qs.length ≤ 6 * i)
      ⟨none, none, none, rfl, sb.trans (.of s3), hp2.same s3, [], [], upd_same, .nil, (fun q hq => (nomatch hq)), Nat.le_refl _⟩ ?_ ?_
    · rintro i σ H3 hi ⟨x5, x6, x7, rfl, sb3, hp3, ts3, qs3, ha3, pr3, ok3, ql3⟩
      have hin : i < n := by omega
      -- for _law_y in range(_law_x)
      refine ⟨_, rfl, (0 + (i : Int)), rfl, by omega, by omega, ?_⟩
      refine for_range (lo := 0) (n := (0 + (i : Int)).toNat) (fun j σ H4 => ∃ x6 x7, σ = [some (.ref p), some (.int 6), some (.int so), some (.int (n : Int)), some (.ref a), some (.int (0 + (i : Int))), x6, x7] ∧ SameBut p H H4 ∧ PotAt H4 p (2 + 6 * i + j) ∧
          ∃ (ts : List Addr) (qs : List (Int × Int)), H4 a = some (.lst (ts.map V.ref)) ∧ Paired (PairAt H4) ts qs ∧ (∀ q ∈ qs, (0 ≤ q.1 ∧ q.1 < (n : Int)) ∧ 0 ≤ q.2 ∧ q.2 < (n : Int)) ∧ qs.length ≤ 6 * i + j)
        ⟨x6, x7, rfl, sb3, hp3, ts3, qs3, ha3, pr3, ok3, ql3⟩ ?_ ?_
      · rintro j σ H4 hj ⟨x6, x7, rfl, sb4, hp4, ts4, qs4, ha4, pr4, ok4, ql4⟩
        have hji : j < i := by omega
        -- _law_way
        obtain ⟨m, hm, hm0, hm6⟩ := wide_at hs0 hs6
        refine ⟨_, rfl, by show 6 ≤ sizeLine; omega, fun l nl => ?_⟩
        have s5 := same_upd (o := .lst [.int 3, .int 2, .int 2, .int 6, .int 3, .int 2]) nl
        refine ⟨_, rfl, l, _, so, .int m, rfl, rfl, SqL.of upd_same, at_of (j := so.toNat) (by omega) hm, p, 2 + 6 * i + j, m, rfl, hp4.same s5, by omega, hm0, by omega, fun H5 d sb5 hp5 hd0 hdm => ?_⟩
        have np4 : noTup _ p := hp4.noTup
        have sb45 : SameBut p H4 H5 := (SameBut.of s5).trans sb5
        have ha5 := sb45 _ _ ne_ap ha4
        have pr5 := paired_same pr4 fun _ _ h => PairAt.but h sb45 np4
        have sb05 := sb4.trans sb45
        clear sb45 sb5 s5 ha4 pr4 sb4 hp4 nl
        -- the three tests
        refine ⟨fun σ' H' => H5 = H' ∧ ∃ d, 0 ≤ d ∧ d < 6 ∧ σ' = [some (.ref p), some (.int 6), some (.int so), some (.int (n : Int)), some (.ref a), some (.int (0 + (i : Int))), some (.int (0 + (j : Int))), some (.int d)], ?_, ?_⟩
        · refine ⟨_, rfl, rfl, _, rfl, ?_⟩
          refine ite2 (fun hc => ?_) (fun hc => ?_)
          · exact ⟨_, rfl, _, rfl, _, _, rfl, rfl, _, _, rfl, rfl, .inl ⟨by decide, by decide⟩, _, rfl, _, _, rfl, rfl, .inr ⟨_, rfl, rfl, _, (bit_few _).1, (bit_few _).2, rfl⟩⟩
          · exact ⟨rfl, d, hd0, by omega, rfl⟩
        rintro σ' H' ⟨rfl, d1, h10, h16, rfl⟩
        refine ⟨fun σ' H' => H5 = H' ∧ ∃ d, 0 ≤ d ∧ d < 6 ∧ σ' = [some (.ref p), some (.int 6), some (.int so), some (.int (n : Int)), some (.ref a), some (.int (0 + (i : Int))), some (.int (0 + (j : Int))), some (.int d)], ?_, ?_⟩
        · refine ⟨_, rfl, rfl, _, rfl, ?_⟩
          refine ite2 (fun hc => ?_) (fun hc => ?_)
          · refine ⟨_, rfl, _, _, rfl, rfl, (by show (0 : Int) < 3 ∧ (3 : Int) < 1073741824; decide), _, rfl, _, _, rfl, rfl, (by show (0 : Int) < 3 ∧ (3 : Int) < 1073741824; decide), rfl, _, rfl, ?_⟩
            refine ite2 (fun hc => ?_) (fun hc => ?_)
            · refine ⟨_, rfl, _, rfl, _, _, rfl, rfl, (by show (0 : Int) < 3 ∧ (3 : Int) < 1073741824; decide), _, _, rfl, rfl, .inr (by decide), _, _, rfl, rfl, _, rfl, ?_⟩
              refine ite2 (fun hc => ?_) (fun hc => ?_)
              · exact ⟨_, rfl, _, rfl, _, _, rfl, rfl, rfl, .inr ⟨_, rfl, rfl, _, (bit_few _).1, (bit_few _).2, rfl⟩⟩
              · exact ⟨rfl, d1, h10, h16, rfl⟩
            · refine iteF ?_
              exact ⟨rfl, d1, h10, h16, rfl⟩
          · refine iteF ?_
            exact ⟨rfl, d1, h10, h16, rfl⟩
        rintro σ' H' ⟨rfl, d2, h20, h26, rfl⟩
        refine ⟨fun σ' H' => H5 = H' ∧ ∃ d, 0 ≤ d ∧ d < 6 ∧ σ' = [some (.ref p), some (.int 6), some (.int so), some (.int (n : Int)), some (.ref a), some (.int (0 + (i : Int))), some (.int (0 + (j : Int))), some (.int d)], ?_, ?_⟩
        · refine ⟨_, rfl, rfl, _, rfl, ?_⟩
          refine ite2 (fun hc => ?_) (fun hc => ?_)
          · exact ⟨rfl, 1, by decide, by decide, rfl⟩
          · exact ⟨rfl, d2, h20, h26, rfl⟩
        rintro σ' H' ⟨rfl, d3, h30, h36, rfl⟩
        clear d1 d2 h10 h16 h20 h26
        -- _law_pairs.extend
        refine ⟨_, rfl, .inl ⟨rfl, _, SqL.of ha5⟩, ?_⟩
        have hc6 : PotAt H5 p (2 + 6 * i + j + 1) := hp5
        refine ⟨_, rfl, _, rfl, by show 2 ≤ sizeLine; omega, fun t1 n1 => ?_⟩
        have s1 := same_upd (o := .tup [.int (0 + (j : Int)), .int (0 + (i : Int))]) n1
        have g1 : PairAt (upd H5 t1 (.tup [.int (0 + (j : Int)), .int (0 + (i : Int))])) t1 (0 + (j : Int), 0 + (i : Int)) := upd_same
        generalize upd H5 t1 (.tup [.int (0 + (j : Int)), .int (0 + (i : Int))]) = G1 at s1 g1
        refine ⟨by show 1 ≤ sizeLine; omega, fun l1 m1 => ?_⟩
        have s2 := same_upd (o := .lst [.ref t1]) m1
        have k1 : upd G1 l1 (.lst [.ref t1]) l1 = some (.lst [.ref t1]) := upd_same
        generalize upd G1 l1 (.lst [.ref t1]) = G2 at s2 k1
        refine ⟨_, rfl, _, rfl, by show 2 ≤ sizeLine; omega, fun t2 n2 => ?_⟩
        have s3 := same_upd (o := .tup [.int (0 + (i : Int)), .int (0 + (j : Int))]) n2
        have g2 : PairAt (upd G2 t2 (.tup [.int (0 + (i : Int)), .int (0 + (j : Int))])) t2 (0 + (i : Int), 0 + (j : Int)) := upd_same
        generalize upd G2 t2 (.tup [.int (0 + (i : Int)), .int (0 + (j : Int))]) = G3 at s3 g2
        refine ⟨by show 1 ≤ sizeLine; omega, fun l2 m2 => ?_⟩
        have s4 := same_upd (o := .lst [.ref t2]) m2
        have k2 : upd G3 l2 (.lst [.ref t2]) l2 = some (.lst [.ref t2]) := upd_same
        generalize upd G3 l2 (.lst [.ref t2]) = G4 at s4 k2
        refine ⟨Nat.zero_le _, fun l3 m3 => ?_⟩
        have s5 := same_upd (o := .lst []) m3
        have k3 : upd G4 l3 (.lst []) l3 = some (.lst []) := upd_same
        generalize upd G4 l3 (.lst []) = G5 at s5 k3
        refine ⟨Nat.zero_le _, fun l4 m4 => ?_⟩
        have s6 := same_upd (o := .lst []) m4
        have k4 : upd G5 l4 (.lst []) l4 = some (.lst []) := upd_same
        generalize upd G5 l4 (.lst []) = G6 at s6 k4
        refine ⟨Nat.zero_le _, fun l5 m5 => ?_⟩
        have s7 := same_upd (o := .lst []) m5
        have k5 : upd G6 l5 (.lst []) l5 = some (.lst []) := upd_same
        generalize upd G6 l5 (.lst []) = G7 at s7 k5
        refine ⟨Nat.zero_le _, fun l6 m6 => ?_⟩
        have s8 := same_upd (o := .lst []) m6
        have k6 : upd G7 l6 (.lst []) l6 = some (.lst []) := upd_same
        generalize upd G7 l6 (.lst []) = G8 at s8 k6
        refine ⟨by show 6 ≤ sizeLine; omega, fun lo mo => ?_⟩
        have s9 := same_upd (o := .lst [.ref l1, .ref l2, .ref l3, .ref l4, .ref l5, .ref l6]) mo
        have ko : upd G8 lo (.lst [.ref l1, .ref l2, .ref l3, .ref l4, .ref l5, .ref l6]) lo = some (.lst [.ref l1, .ref l2, .ref l3, .ref l4, .ref l5, .ref l6]) := upd_same
        generalize upd G8 lo (.lst [.ref l1, .ref l2, .ref l3, .ref l4, .ref l5, .ref l6]) = G9 at s9 ko
        have s89 := s8.trans s9
        have s79 := s7.trans s89
        have s69 := s6.trans s79
        have s59 := s5.trans s69
        have s49 := s4.trans s59
        have s39 := s3.trans s49
        have s29 := s2.trans s39
        have s19 := s1.trans s29
        obtain ⟨b, us, ps, hb, hbl, prb, pl, pq⟩ := six (s39 _ _ k1) (s59 _ _ k2) (s69 _ _ k3) (s79 _ _ k4) (s89 _ _ k5) (s9 _ _ k6) (s29 _ _ g1) (s49 _ _ g2) h30 h36
        have tl : ts4.length = qs4.length := Paired.length pr5
        have ul : us.length = ps.length := Paired.length prb
        refine ⟨_, rfl, lo, _, d3, .ref b, rfl, rfl, SqL.of ko, at_of (j := d3.toNat) (by omega) hb, a, b, _, _, rfl, rfl, s19 _ _ ha5, hbl, by rw [List.length_map, List.length_map]; omega, ?_⟩
        have na9 := noTup_of (s19 _ _ ha5) (fun _ z => nomatch z)
        refine ⟨_, _, rfl, SameBut.put (sb05.trans (.of s19)) (.inl fa), (hc6.same s19).keep upd_but (Ne.symm ne_ap), ts4 ++ us, qs4 ++ ps, by rw [upd_same, List.map_append], ?_, fun q hq => ?_, ?_⟩
        · exact paired_app (paired_same pr5 fun _ _ h => PairAt.but (s19 _ _ h) upd_but na9) (paired_same prb fun _ _ h => PairAt.but h upd_but na9)
        · rcases List.mem_append.mp hq with hq | hq
          · exact ok4 q hq
          · rcases pq q hq with rfl | rfl
            · exact ⟨⟨by omega, by omega⟩, by omega, by omega⟩
            · exact ⟨⟨by omega, by omega⟩, by omega, by omega⟩
        · rw [List.length_append]
          omega
      · rintro σ H4 ⟨x6, x7, rfl, sb4, hp4, ts4, qs4, ha4, pr4, ok4, ql4⟩
        exact ⟨_, _, _, rfl, sb4, hp4.more (by omega), ts4, qs4, ha4, pr4, ok4, by omega⟩
    · rintro σ H3 ⟨x5, x6, x7, rfl, sb3, hp3, ts3, qs3, ha3, pr3, ok3, ql3⟩
      -- return
      refine ⟨_, rfl, _, rfl, a, ts3, qs3.map rowP, RowAt H3, rfl, SqL.of ha3, paired_rowP pr3, fun t r h => SqT.of h, rowP_sortable qs3, fun us l pu nl => ?_⟩
      refine ⟨l, _, rfl, .inl ⟨SqL.of upd_same, fun t nt => ⟨by show 2 ≤ sizeLine; omega, fun w nw => ?_⟩⟩⟩
      obtain ⟨L, hm, hpm, s4, hL⟩ := lot_made (n := n) nl nt nw pu ok3 (by omega) (by omega)
      exact q _ _ L (sb3.trans (.of s4)) ((hp3.same s4).more (by omega)) hL (by rw [hpm.length_eq]; omega)
end
end K87
namespace K87
open PySem PySem.Spec PyProof.Rows L2
/-- the mark that a mark is called by -/
def nmF (names : List Int) (m : Int) : Int := names.getD m.toNat 0
theorem nm_at {names : List Int} {m : Int} (h0 : 0 ≤ m) (h : m < (names.length : Int)) : (names.map V.int)[m.toNat]? = some (.int (nmF names m)) := by
  have hl : m.toNat < names.length := by omega
  unfold nmF
  rw [List.getElem?_map, List.getD_eq_getElem?_getD, List.getElem?_eq_getElem hl]
  rfl
theorem nm_mem {names : List Int} {m : Int} (h0 : 0 ≤ m) (h : m < (names.length : Int)) : nmF names m ∈ names := by
  have hl : m.toNat < names.length := by omega
  unfold nmF
  rw [List.getD_eq_getElem?_getD, List.getElem?_eq_getElem hl]
  exact List.getElem_mem hl
abbrev g2 (K : PySem.W.Frag) (i j : Nat) : TG := gTup K 2 (gCons (gName i) (gCons (gName j) gNil))
/-- the scope of the outer comprehension of _law_led -/
abbrev ledScope : Scope := { kind := .function, names := [(".0", .local), ("_law_chain", .local), ("tuple", .globalImplicit), ("_law_names", .cell)], isGenerator := false, isCoroutine := false }
section
variable {P : Program} {w : World} {K : PySem.W.Frag} {mg : Str → Option Value} {base : Heap}
/-! ### _law_called -/
abbrev nCalled : List Str := ["_law_web_here", "_law_names", "_law_x", "_law_y"]
theorem scCalled : FnScope nCalled ["_law_web_here", "_law_names"] (defScope sCalled) := ⟨rfl, rfl, rfl, by decide +kernel, rfl, by decide +kernel, by decide +kernel⟩
def spCalled : Sp := fun vs H Q _ => ∃ (v : V) (L : Lot) (nm : Addr) (names : List Int), vs = [v, .ref nm] ∧ LotAt H v L ∧ H nm = some (.lst (names.map V.int)) ∧ names.length = L.many ∧ (∀ m ∈ names, 0 ≤ m ∧ m < (L.many : Int)) ∧
  ∀ H' v' L', Same H H' → LotAt H' v' L' → L'.many = L.many → L'.pairs.Perm (L.pairs.map fun q => (nmF names q.1, nmF names q.2)) → Q v' H'
theorem ok_called {f : Addr} {fd : FuncData} {k : Nat} (F : Fun K "_law_called" "_law_called" sCalled f fd) (B : Blt mg) : FnOk P w K mg base CX0 (k + 1) f fd ["_law_web_here", "_law_names"] spCalled := by
  refine F.ok scCalled (fun vs H Q E h => ?_) (fun cdv A outer s H vs Q E hr h => ?_)
  · obtain ⟨v, L, nm, names, rfl, _⟩ := h
    rfl
  · obtain ⟨v, L, nm, names, rfl, ⟨⟨hok, hm6, hpl⟩, a, p, ts, rfl, ha, hp, hts⟩, hnm, hnl, hnr, q⟩ := h
    have nd := scCalled.nd
    have line := line_ge
    refine ⟨_, pss_one (ps_ret (pe_tup (pa_cons (pe_ix ix_tup (pv 0) pe_int (fun _ _ => rfl)) (pa_cons (pe_callTy call_tuple_of (by rfl) B.tuple (by decide +kernel) (pa_cons (pe_callB (cr_sortT hr.units) (by rfl) B.sorted (by decide +kernel) (pa_cons
        (pe_lc (own := [("_law_x", 2), ("_law_y", 3)]) (g := g2 K 2 3) (tt := tYes) rfl nd (pi_tup (pe_ix ix_tup (pv 0) pe_int (fun _ _ => rfl))) (blkOk_by (N := nCalled) (sc := defScope sCalled) (by decide +kernel))
          (fun _ _ _ _ _ => pg_tup rfl (pgs_cons (pg_name (i := 2) nd rfl (.inl rfl)) (pgs_cons (pg_name (i := 3) nd rfl (.inl rfl)) pgs_nil))) (fun _ _ _ _ _ => pts_nil)
          (fun _ _ _ _ _ => pe_tup (pa_cons (pe_ix (r := rIxL K) ix_list (pv 1) (pv 2) (fun _ _ => rfl)) (pa_cons (pe_ix (r := rIxL K) ix_list (pv 1) (pv 3) (fun _ _ => rfl)) pa_nil)))) pa_nil)) pa_nil)) pa_nil)))), ?_⟩
    refine ⟨_, rfl, a, _, 0, _, rfl, rfl, SqT.of ha, atI_nat (j := 0) rfl, _, rfl, a, _, 1, _, rfl, rfl, SqT.of ha, atI_nat (j := 1) rfl, p, rfl, ⟨_, SqT.of hp⟩, fun D nD => ?_⟩
    refine lc_tup (K := K) (a := p) (xs := ts.map V.ref) (fun i H1 => Same H H1 ∧ ∃ us : List Addr, H1 D = some (.lst (us.map V.ref)) ∧ Paired (PairAt H1) us ((L.pairs.take i).map fun q => (nmF names q.1, nmF names q.2)))
      ⟨same_upd nD, [], upd_same, .nil⟩ (fun i H1 _ ⟨s1, _⟩ => SqT.of (s1 _ _ hp)) ?_ ?_
    · rintro i z H1 hi ⟨s1, us, hD, pu⟩
      obtain ⟨t, ht, rfl⟩ := map_get hi
      obtain ⟨⟨x, y⟩, hxy, hpair⟩ := paired_at hts ht
      obtain ⟨⟨hx0, hx1⟩, hy0, hy1⟩ := hok x y (List.mem_of_getElem? hxy)
      refine ⟨t, _, rfl, SqT.of (s1 _ _ hpair), rfl, _, _, rfl, _, _, rfl, rfl, rfl, ?_⟩
      refine ⟨_, rfl, _, rfl, nm, _, x, _, rfl, rfl, SqL.of (s1 _ _ hnm), at_of (j := x.toNat) (by omega) (nm_at hx0 (by omega)), _, rfl, _, rfl, nm, _, y, _, rfl, rfl, SqL.of (s1 _ _ hnm), at_of (j := y.toNat) (by omega) (nm_at hy0 (by omega)), by show 2 ≤ sizeLine; omega, fun t2 n2 => ?_⟩
      have s2 := same_upd (o := .tup [.int (nmF names x), .int (nmF names y)]) n2
      have hD2 := s2 _ _ hD
      have noD := noTup_of hD2 (fun _ z => nomatch z)
      have ul := Paired.length pu
      rw [List.length_map, List.length_take] at ul
      refine ⟨_, hD2, by rw [List.length_map]; omega, Same.put (s1.trans s2) nD, us ++ [t2], by rw [upd_same, List.map_append]; rfl, ?_⟩
      rw [map_next hxy]
      exact paired_snoc (paired_same pu fun _ _ h => PairAt.but (s2 _ _ h) upd_but noD) (PairAt.but (q := (nmF names x, nmF names y)) upd_same upd_but noD)
    · rintro H1 ⟨s1, us, hD, pu⟩
      rw [List.length_map, Paired.length hts, List.take_length] at pu
      refine ⟨D, us, _, RowAt H1, rfl, SqL.of hD, paired_rowP pu, fun t r h => SqT.of h, rowP_sortable _, fun us2 l pu2 nl => ?_⟩
      refine ⟨l, _, rfl, .inl ⟨SqL.of upd_same, fun t nt => ⟨by show 2 ≤ sizeLine; omega, fun w nw => ?_⟩⟩⟩
      obtain ⟨L2, hm, hpm, s4, hL⟩ := lot_made (n := L.many) nl nt nw pu2 (fun q hq => by
        obtain ⟨⟨x, y⟩, hxy, rfl⟩ := List.mem_map.mp hq
        obtain ⟨⟨hx0, hx1⟩, hy0, hy1⟩ := hok x y hxy
        exact ⟨hnr _ (nm_mem hx0 (by omega)), hnr _ (nm_mem hy0 (by omega))⟩) hm6 (by rw [List.length_map]; exact hpl)
      exact q _ _ L2 (s1.trans s4) hL hm hpm
/-! ### _law_led -/
abbrev nLed : List Str := ["_law_some", "_law_names", "_law_chain", "_law_mark"]
theorem scLed : FnScope nLed ["_law_some", "_law_names"] (defScope sLed) := ⟨rfl, rfl, rfl, by decide +kernel, rfl, by decide +kernel, by decide +kernel⟩
def spLed : Sp := fun vs H Q _ => ∃ (v : V) (rs : List Row) (nm : Addr) (names : List Int), vs = [v, .ref nm] ∧ BookAt H v rs ∧ H nm = some (.lst (names.map V.int)) ∧ (∀ r ∈ rs, r.length ≤ 5 ∧ ∀ m ∈ r, 0 ≤ m ∧ m < (names.length : Int)) ∧ rs.length ≤ 1296 ∧
  ((∀ r ∈ rs, r ≠ []) ∨ rs.length ≤ 1) ∧ ∀ H' v', Same H H' → BookAt H' v' (sortR (rs.map (List.map (nmF names)))) → Q v' H'
theorem ok_led {f : Addr} {fd : FuncData} {k : Nat} (F : Fun K "_law_led" "_law_led" sLed f fd) (B : Blt mg) : FnOk P w K mg base CX0 (k + 1) f fd ["_law_some", "_law_names"] spLed := by
  refine F.ok scLed (fun vs H Q E h => ?_) (fun cdv A outer s H vs Q E hr h => ?_)
  · obtain ⟨v, rs, nm, names, rfl, _⟩ := h
    rfl
  · obtain ⟨v, rs, nm, names, rfl, ⟨a, ts, rfl, ha, hts⟩, hnm, hrr, hrl, hso, q⟩ := h
    have nd := scLed.nd
    have line := line_ge
    refine ⟨_, pss_one (ps_ret (pe_callTy call_tuple_of (by rfl) B.tuple (by decide +kernel) (pa_cons (pe_callB (cr_sortT hr.units) (by rfl) B.sorted (by decide +kernel) (pa_cons
        (pe_lc (own := [("_law_chain", 2)]) (g := gName 2) (tt := tYes) rfl nd (pi_tup (pv 0)) (blkOk_by (N := nLed) (sc := defScope sLed) (by decide +kernel))
          (fun _ _ _ _ _ => pg_name (i := 2) nd rfl (.inl rfl)) (fun _ _ _ _ _ => pts_nil)
          (fun _ _ _ _ _ => pe_callTy (T := "tuple") (r := rTup K) cr_tup (by rfl) B.tuple (by decide +kernel) (pa_cons
            (pe_lc (own := [("_law_mark", 3)]) (g := gName 3) (tt := tYes) (wi := iTup K (tVar 2)) rfl nd (pi_tup (pv 2)) (blkOk_by (N := nLed) (sc := ledScope) (by decide +kernel))
              (fun _ _ _ _ _ => pg_name (i := 3) nd rfl (.inl rfl)) (fun _ _ _ _ _ => pts_nil) (fun _ _ _ _ _ => pe_ix (r := rIxL K) ix_list (pv 1) (pv 3) (fun _ _ => rfl))) pa_nil))) pa_nil)) pa_nil))), ?_⟩
    refine ⟨_, rfl, a, rfl, ⟨_, SqT.of ha⟩, fun D nD => ?_⟩
    refine lc_tup (K := K) (a := a) (xs := ts.map V.ref) (fun i H1 => Same H H1 ∧ ∃ us : List Addr, H1 D = some (.lst (us.map V.ref)) ∧ Paired (RowAt H1) us ((rs.take i).map (List.map (nmF names))))
      ⟨same_upd nD, [], upd_same, .nil⟩ (fun i H1 _ ⟨s1, _⟩ => SqT.of (s1 _ _ ha)) ?_ ?_
    · rintro i z H1 hi ⟨s1, us, hD, pu⟩
      obtain ⟨t, ht, rfl⟩ := map_get hi
      obtain ⟨r, hri, hrow⟩ := paired_at hts ht
      obtain ⟨hr5, hrm⟩ := hrr r (List.mem_of_getElem? hri)
      have ul := Paired.length pu
      rw [List.length_map, List.length_take] at ul
      refine ⟨rfl, _, rfl, t, rfl, ⟨_, SqT.of (s1 _ _ hrow)⟩, fun D2 nD2 => ?_⟩
      have ne_D : D ≠ D2 := ne_of_none hD nD2
      refine lc_tup (K := K) (a := t) (xs := r.map V.int) (fun j H2 => Same H1 H2 ∧ H2 D2 = some (.lst (((r.take j).map (nmF names)).map V.int)))
        ⟨same_upd nD2, upd_same⟩ (fun j H2 _ ⟨s2, _⟩ => SqT.of (s2 _ _ (s1 _ _ hrow))) ?_ ?_
      · rintro j z H2 hj ⟨s2, hD2⟩
        obtain ⟨m, hm, rfl⟩ := map_get hj
        obtain ⟨hm0, hm1⟩ := hrm m (List.mem_of_getElem? hm)
        have hj5 : j < r.length := (List.getElem?_eq_some_iff.mp hm).1
        refine ⟨rfl, _, rfl, _, rfl, nm, _, m, _, rfl, rfl, SqL.of (s2 _ _ (s1 _ _ hnm)), at_of (j := m.toNat) (by omega) (nm_at hm0 hm1), _, hD2, ?_, Same.put s2 nD2, ?_⟩
        · rw [List.length_map, List.length_map, List.length_take]
          omega
        · rw [upd_same, map_next hm, List.map_append]
          rfl
      · rintro H2 ⟨s2, hD2⟩
        rw [List.length_map, List.take_length] at hD2
        refine ⟨D2, _, rfl, .inl ⟨SqL.of hD2, fun l nl => ?_⟩⟩
        have s3 := same_upd (o := .tup ((r.map (nmF names)).map V.int)) nl
        have hD3 := s3 _ _ (s2 _ _ hD)
        have noD := noTup_of hD3 (fun _ z => nomatch z)
        refine ⟨_, hD3, by rw [List.length_map]; omega, Same.put ((s1.trans s2).trans s3) nD, us ++ [l], by rw [upd_same, List.map_append]; rfl, ?_⟩
        rw [map_next hri]
        exact paired_snoc (paired_same pu fun _ _ h => RowAt.but (s3 _ _ (s2 _ _ h)) upd_but noD) (RowAt.but (r := r.map (nmF names)) upd_same upd_but noD)
    · rintro H1 ⟨s1, us, hD, pu⟩
      rw [List.length_map, Paired.length hts, List.take_length] at pu
      have hso2 : (∀ r ∈ rs.map (List.map (nmF names)), r ≠ []) ∨ (rs.map (List.map (nmF names))).length ≤ 1 := by
        rcases hso with h | h
        · left
          intro r hr e
          obtain ⟨x, hx, rfl⟩ := List.mem_map.mp hr
          exact h x hx (List.map_eq_nil_iff.mp e)
        · right
          rw [List.length_map]
          exact h
      refine ⟨D, us, _, RowAt H1, rfl, SqL.of hD, pu, fun t r h => SqT.of h, hso2, fun us2 l pu2 nl => ?_⟩
      refine ⟨l, _, rfl, .inl ⟨SqL.of upd_same, fun t nt => ?_⟩⟩
      have s2 := same_upd (o := .lst (us2.map V.ref)) nl
      have s3 := same_upd (o := .tup (us2.map V.ref)) nt
      exact q _ _ (s1.trans (s2.trans s3)) ⟨t, us2, rfl, upd_same, paired_same pu2 fun _ _ h => s3 _ _ (s2 _ _ h)⟩
end
end K87
namespace K87
open PySem PySem.Spec PyProof.Rows L2
/-- x not in a tuple of data -/
def rNotInDT (K : PySem.W.Frag) : R2 := fun x y H Q => ∃ d ds, Dp K H x d ∧ Dp K H y (.tuple ds) ∧ SeqAt.shaped d = true ∧ SeqAt.shaped (.tuple ds) = true ∧ Q (.bl (!ds.any fun z => PyData.eqv z d)) H
theorem op_notInDT {X : Cx} (hu : X.A.units + 65 < cLine) : OpR X (compareOp .NotIn) (rNotInDT X.K) := by
  intro pins s σ H x y v u Q I rx ry h
  obtain ⟨d, ds, hd, he, sd, se, q⟩ := h
  obtain ⟨as, r1⟩ := Dp.reads I d x v hd rx
  obtain ⟨bs, r2⟩ := Dp.reads I (.tuple ds) y u he ry
  exact SeqAt.notIn_tuple_reads r2 r1 (SeqAt.canLay_of_shaped se) (SeqAt.canLay_of_shaped sd) (room_in_shaped sd hu) ⟨.bl _, H, I, rfl, q⟩
def rInt1 : List V → Hp → VK → Prop := fun xs H Q => (∃ i, xs = [.int i] ∧ Q (.int i) H) ∨ ∃ k, xs = [.bl k] ∧ Q (.int (if k then 1 else 0)) H
theorem cr_int1 {X : Cx} : CallR X (.type "int") rInt1 := call_int1
abbrev rSubI : R2 := rI0 fun i j => .int (i - j)
abbrev rGtI : R2 := rI0 fun i j => .bl (decide (j < i))
theorem Hom.refl (L : Lot) : Hom L L fun x => x := ⟨fun _ h => h, fun _ _ h => h⟩
section
variable {P : Program} {w : World} {K : PySem.W.Frag} {mg : Str → Option Value} {base : Heap}
/-! ### _law_paired -/
abbrev nPaired : List Str := ["_law_pot_here", "_law_web_here", "_law_some", "_law_x", "_law_y"]
theorem scPaired : FnScope nPaired ["_law_pot_here", "_law_web_here"] (defScope sPaired) := ⟨rfl, rfl, rfl, by decide +kernel, rfl, by decide +kernel, by decide +kernel⟩
def spPaired : Sp := fun vs H Q _ => ∃ (p : Addr) (v : V) (c : Nat) (L : Lot), vs = [.ref p, v] ∧ PotAt H p c ∧ c < 2 ^ 39 ∧ LotAt H v L ∧ L.pairs.length ≤ 90 ∧
  ∀ H' v' L', SameBut p H H' → PotAt H' p (c + 1) → LotAt H' v' L' → Hom L L' (fun x => x) → Q v' H'
set_option maxHeartbeats 1000000 in
theorem ok_paired {f : Addr} {fd : FuncData} (F : Fun K "_law_paired" "_law_paired" sPaired f fd) (B : Blt mg) (CO : Cl P w K mg base 2 "_law_of" ["_law_pot_here", "_law_some"] spOf) : FnOk P w K mg base CX0 3 f fd ["_law_pot_here", "_law_web_here"] spPaired := by
  refine F.ok scPaired (fun vs H Q E h => ?_) (fun cdv A outer s H vs Q E hr h => ?_)
  · obtain ⟨p, v, c, L, rfl, _⟩ := h
    rfl
  · obtain ⟨p, v, c, L, rfl, hp, hc, hL, hl90, q⟩ := h
    have hu65 : (A.deeper (envOfC "_law_paired" (defScope sPaired) s.heap.objs.size f cdv)).units + 65 < cLine := by
      have := hr.un
      omega
    have nd := scPaired.nd
    have line := line_ge
    obtain ⟨⟨hok, hm6, hpl⟩, a, w1, ts, rfl, ha, hw, hts⟩ := id hL
    refine ⟨_, pss_cons (ps_set (i := 2) nd rfl (.inl rfl) (pe_lst pa_nil))
      (pss_cons (ps_for PassesOwn.never rfl (pi_range1 (by rfl) B.range (pa_cons (pe_ix ix_tup (pv 1) pe_int (fun _ _ => rfl)) pa_nil)) (pg_name (i := 3) nd rfl (.inr rfl))
        (pss_one (ps_expr (pe_bm PySem.F.plainAttrs_list PySem.F.slot_list_extend PySem.F.type_list_extend mt_extend (pv 2) (pa_cons
          (pe_lc (own := [("_law_y", 4)]) (g := gName 4) rfl nd (pi_range1 (by rfl) B.range (pa_cons (pe_ix ix_tup (pv 1) pe_int (fun _ _ => rfl)) pa_nil)) (blkOk_by (N := nPaired) (sc := defScope sPaired) (by decide +kernel))
            (fun _ _ _ _ _ => pg_name (i := 4) nd rfl (.inl rfl))
            (fun _ _ _ _ _ => pts_one (PW.pt (pw_and (pt_cmpR (r := rNe) op_ne (pv 3) (pv 4) (nomark _)) (pw_and (pt_cmpR (r := rNotInDT K) (op_notInDT hu65) (pe_tup (pa_cons (pv 3) (pa_cons (pv 4) pa_nil))) (pe_ix (r := rIxT K) ix_tup (pv 1) pe_int (fun _ _ => rfl)) rfl)
              (pw_and1 (pt_cmpR (r := rNotInDT K) (op_notInDT hu65) (pe_tup (pa_cons (pv 4) (pa_cons (pv 3) pa_nil))) (pe_ix (r := rIxT K) ix_tup (pv 1) pe_int (fun _ _ => rfl)) rfl))))))
            (fun _ _ _ _ _ => pe_tup (pa_cons (pv 3) (pa_cons (pv 4) pa_nil)))) pa_nil)))))
      (pss_cons (ps_if (pt_cmpR (op_eqD hr.units) (pv 2) (pe_lst pa_nil) (nomark _)) (pss_one (ps_ret (pv 1))) pss_nil)
      (pss_one (ps_ret (pe_tup (pa_cons (pe_ix ix_tup (pv 1) pe_int (fun _ _ => rfl)) (pa_cons (pe_callTy call_tuple_of (by rfl) B.tuple (by decide +kernel) (pa_cons (pe_callB (cr_sortT hr.units) (by rfl) B.sorted (by decide +kernel) (pa_cons
        (pe_op op_cat (pe_callTy call_list_of (by rfl) B.list (by decide +kernel) (pa_cons (pe_ix ix_tup (pv 1) pe_int (fun _ _ => rfl)) pa_nil)) (pe_lst (pa_cons (pc CO hr (by rfl) (pa_cons (pv 0) (pa_cons (pv 2) pa_nil))) pa_nil))) pa_nil)) pa_nil)) pa_nil))))))), ?_⟩
    refine ⟨Nat.zero_le _, fun b nb => ?_⟩
    have s0 := same_upd (o := .lst []) nb
    have dpw : ∀ H', Same H H' → Dp K H' (.ref w1) (.tuple ((L.pairs.map rowP).map encR)) := fun H' s => .tup (SqT.of (s _ _ hw)) (dp_rows (paired_rowP (paired_same hts fun _ _ h => s _ _ h)))
    -- for _law_x in range(_law_web_here[0])
    refine ⟨_, rfl, a, _, 0, _, rfl, rfl, SqT.of (s0 _ _ ha), atI_nat (j := 0) rfl, (L.many : Int), rfl, by omega, by omega, ?_⟩
    refine for_range (lo := 0) (n := (L.many : Int).toNat) (fun i σ H3 => ∃ x3, σ = [some (.ref p), some (.ref a), some (.ref b), x3, none] ∧ Same H H3 ∧
        ∃ (us : List Addr) (qs : List (Int × Int)), H3 b = some (.lst (us.map V.ref)) ∧ Paired (PairAt H3) us qs ∧ (∀ q ∈ qs, (0 ≤ q.1 ∧ q.1 < (L.many : Int)) ∧ 0 ≤ q.2 ∧ q.2 < (L.many : Int)) ∧ qs.length ≤ 6 * i)
      ⟨none, rfl, s0, [], [], upd_same, .nil, (fun q hq => (nomatch hq)), Nat.le_refl _⟩ ?_ ?_
    · rintro i σ H3 hi ⟨x3, rfl, s3, us, qs, hb3, pr3, ok3, ql3⟩
      have hin : i < L.many := by omega
      refine ⟨_, rfl, .inl ⟨rfl, _, SqL.of hb3⟩, ?_⟩
      refine ⟨_, rfl, a, _, 0, _, rfl, rfl, SqT.of (s3 _ _ ha), atI_nat (j := 0) rfl, (L.many : Int), rfl, by omega, by omega, fun D nD => ?_⟩
      have ne_bD : b ≠ D := ne_of_none hb3 nD
      refine lc_range (lo := 0) (n := (L.many : Int).toNat) (fun j H4 => Same H3 H4 ∧ ∃ (vs : List Addr) (ps : List (Int × Int)), H4 D = some (.lst (vs.map V.ref)) ∧ Paired (PairAt H4) vs ps ∧ (∀ q ∈ ps, (0 ≤ q.1 ∧ q.1 < (L.many : Int)) ∧ 0 ≤ q.2 ∧ q.2 < (L.many : Int)) ∧ ps.length ≤ j)
        ⟨same_upd nD, [], [], upd_same, .nil, (fun q hq => (nomatch hq)), Nat.le_refl _⟩ ?_ ?_
      · rintro j H4 hj ⟨s4, vs, ps, hD4, pr4, ok4, pl4⟩
        have skip : ∀ H5, Same H4 H5 → Same H3 H5 ∧ ∃ (vs : List Addr) (ps : List (Int × Int)), H5 D = some (.lst (vs.map V.ref)) ∧ Paired (PairAt H5) vs ps ∧ (∀ q ∈ ps, (0 ≤ q.1 ∧ q.1 < (L.many : Int)) ∧ 0 ≤ q.2 ∧ q.2 < (L.many : Int)) ∧ ps.length ≤ j + 1 := fun H5 s5 =>
          ⟨s4.trans s5, vs, ps, s5 _ _ hD4, paired_same pr4 fun _ _ h => s5 _ _ h, ok4, by omega⟩
        refine ⟨rfl, _, rfl, _, rfl, rfl, _, rfl, ?_⟩
        refine ite2 (fun hc => ?_) (fun hc => ?_)
        · refine ⟨_, rfl, _, rfl, by show 2 ≤ sizeLine; omega, fun t1 n1 => ?_⟩
          have s5 := same_upd (o := .tup [.int (0 + (i : Int)), .int (0 + (j : Int))]) n1
          have s35 := s3.trans (s4.trans s5)
          refine ⟨_, rfl, a, _, 1, _, rfl, rfl, SqT.of (s35 _ _ ha), atI_nat (j := 1) rfl, encR [0 + (i : Int), 0 + (j : Int)], _, dp_row (r := [0 + (i : Int), 0 + (j : Int)]) upd_same, dpw _ s35, shaped_row _, shaped_book _, _, rfl, ?_⟩
          refine ite2 (fun hc => ?_) (fun hc => ?_)
          · refine ⟨_, rfl, _, rfl, by show 2 ≤ sizeLine; omega, fun t2 n2 => ?_⟩
            have s6 := same_upd (o := .tup [.int (0 + (j : Int)), .int (0 + (i : Int))]) n2
            have s36 := s35.trans s6
            refine ⟨_, rfl, a, _, 1, _, rfl, rfl, SqT.of (s36 _ _ ha), atI_nat (j := 1) rfl, encR [0 + (j : Int), 0 + (i : Int)], _, dp_row (r := [0 + (j : Int), 0 + (i : Int)]) upd_same, dpw _ s36, shaped_row _, shaped_book _, _, rfl, ?_⟩
            refine ite2 (fun hc => ?_) (fun hc => ?_)
            · refine ⟨_, rfl, _, rfl, by show 2 ≤ sizeLine; omega, fun t3 n3 => ?_⟩
              have s7 := same_upd (o := .tup [.int (0 + (i : Int)), .int (0 + (j : Int))]) n3
              have s47 := s5.trans (s6.trans s7)
              have hD7 := s47 _ _ hD4
              have noD := noTup_of hD7 (fun _ z => nomatch z)
              have vl := Paired.length pr4
              refine ⟨_, hD7, by rw [List.length_map]; omega, Same.put (s4.trans s47) nD, vs ++ [t3], ps ++ [(0 + (i : Int), 0 + (j : Int))], by rw [upd_same, List.map_append]; rfl,
                paired_snoc (paired_same pr4 fun _ _ h => PairAt.but (s47 _ _ h) upd_but noD) (PairAt.but (q := (0 + (i : Int), 0 + (j : Int))) upd_same upd_but noD), fun q hq => ?_, by rw [List.length_append]; show ps.length + 1 ≤ _; omega⟩
              rcases List.mem_append.mp hq with hq | hq
              · exact ok4 q hq
              · obtain rfl := List.mem_singleton.mp hq
                exact ⟨⟨by omega, by omega⟩, by omega, by omega⟩
            · exact skip _ (s5.trans s6)
          · refine iteF ?_
            exact skip _ s5
        · refine iteF ?_
          exact skip _ (Same.refl _)
      · rintro H4 ⟨s4, vs, ps, hD4, pr4, ok4, pl4⟩
        have hb4 := s4 _ _ hb3
        have nob := noTup_of hb4 (fun _ z => nomatch z)
        have ul := Paired.length pr3
        have vl := Paired.length pr4
        refine ⟨b, D, _, _, rfl, rfl, hb4, hD4, by rw [List.length_map, List.length_map]; omega, ?_⟩
        refine ⟨_, rfl, Same.put (s3.trans s4) nb, us ++ vs, qs ++ ps, by rw [upd_same, List.map_append],
          paired_app (paired_same pr3 fun _ _ h => PairAt.but (s4 _ _ h) upd_but nob) (paired_same pr4 fun _ _ h => PairAt.but h upd_but nob), fun q hq => ?_, by rw [List.length_append]; omega⟩
        rcases List.mem_append.mp hq with hq | hq
        · exact ok3 q hq
        · exact ok4 q hq
    · rintro σ H3 ⟨x3, rfl, s3, us, qs, hb3, pr3, ok3, ql3⟩
      -- if _law_some == []
      refine ⟨_, rfl, Nat.zero_le _, fun e ne => ?_⟩
      have s4 := same_upd (o := .lst []) ne
      refine ⟨.list ((qs.map rowP).map encR), .list ([] : List PyData), .lst (SqL.of (s4 _ _ hb3)) (dp_rows (paired_rowP (paired_same pr3 fun _ _ h => s4 _ _ h))), .lst (SqL.of upd_same) .nil, shaped_list _, shaped_ints [], _, rfl, ?_⟩
      rw [eqv_nil]
      have s34 := s3.trans s4
      have hb4 := s4 _ _ hb3
      have pr4 := paired_same pr3 fun _ _ h => s4 _ _ h
      generalize upd H3 e (.lst []) = H4 at s34 hb4 pr4
      clear s4 s3 hb3 pr3 ne
      refine ite2 (fun hc => ?_) (fun hc => ?_)
      · refine ⟨_, rfl, ?_⟩
        exact q _ _ L (.of s34) ((hp.same s34).more (by omega)) (hL.same s34) (Hom.refl L)
      · have hq : qs ≠ [] := fun z => hc (by rw [z]; rfl)
        have qpos := List.length_pos_iff.mpr hq
        have ul := Paired.length pr4
        have hp4 := hp.same s34
        obtain ⟨o4, ho4⟩ := hp.some
        have ne_bp : b ≠ p := (ne_of_none ho4 nb).symm
        -- return
        refine ⟨_, rfl, a, _, 0, _, rfl, rfl, SqT.of (s34 _ _ ha), atI_nat (j := 0) rfl, ?_⟩
        refine ⟨_, rfl, a, _, 1, _, rfl, rfl, SqT.of (s34 _ _ ha), atI_nat (j := 1) rfl, w1, _, rfl, .inr (SqT.of (s34 _ _ hw)), fun l nl => ?_⟩
        have s5 := same_upd (o := .lst (ts.map V.ref)) nl
        have hl5 : upd H4 l (.lst (ts.map V.ref)) l = some (.lst (ts.map V.ref)) := upd_same
        have hp5 := hp4.same s5
        have ne_lp : l ≠ p := hp4.ne nl
        have pw5 := paired_same hts fun _ _ h => s5 _ _ (s34 _ _ h)
        have pr5 := paired_same pr4 fun _ _ h => s5 _ _ h
        refine ⟨_, rfl, _, rfl, p, b, c, _, rfl, hp5, by omega, s5 _ _ hb4, ne_bp, ?_, ?_, fun H6 z sb6 hp6 hz => ?_⟩
        · intro z
          have := congrArg List.length z
          rw [List.length_map] at this
          rw [ul] at this
          exact hq (List.length_eq_zero_iff.mp this)
        · rw [List.length_map]
          omega
        obtain ⟨t, ht, rfl⟩ := List.mem_map.mp hz
        obtain ⟨k, hk⟩ := List.getElem?_of_mem ht
        obtain ⟨y, hy, hty⟩ := paired_at pr5 hk
        have np5 := hp5.noTup
        have pw6 := paired_same pw5 fun _ _ h => PairAt.but h sb6 np5
        have t6 := PairAt.but hty sb6 np5
        have hl6 := sb6 _ _ ne_lp hl5
        refine ⟨by show 1 ≤ sizeLine; omega, fun l2 nl2 => ?_⟩
        have s7 := same_upd (o := .lst [.ref t]) nl2
        have tl := Paired.length hts
        refine ⟨l, l2, _, _, rfl, rfl, s7 _ _ hl6, upd_same, by rw [List.length_map, tl]; show L.pairs.length + 1 ≤ _; omega, fun l3 nl3 => ?_⟩
        have s8 := same_upd (o := .lst (ts.map V.ref ++ [.ref t])) nl3
        have pr8 := paired_same (paired_snoc pw6 t6) fun _ _ h => s8 _ _ (s7 _ _ h)
        have hl8 : upd (upd H6 l2 (.lst [.ref t])) l3 (.lst (ts.map V.ref ++ [.ref t])) l3 = some (.lst ((ts ++ [t]).map V.ref)) := by
          rw [upd_same, List.map_append]
          rfl
        have s68 := s7.trans s8
        generalize upd (upd H6 l2 (.lst [.ref t])) l3 (.lst (ts.map V.ref ++ [.ref t])) = H8 at s8 pr8 hl8 s68
        refine ⟨l3, ts ++ [t], _, RowAt H8, rfl, SqL.of hl8, paired_rowP pr8, fun t r h => SqT.of h, rowP_sortable _, fun us2 l4 pu2 nl4 => ?_⟩
        refine ⟨l4, _, rfl, .inl ⟨SqL.of upd_same, fun t nt => ⟨by show 2 ≤ sizeLine; omega, fun w nw => ?_⟩⟩⟩
        obtain ⟨L2, hm, hpm, s9, hL2⟩ := lot_made (n := L.many) nl4 nt nw pu2 (fun q hq => by
          rcases List.mem_append.mp hq with hq | hq
          · exact hok q.1 q.2 hq
          · obtain rfl := List.mem_singleton.mp hq
            exact ok3 _ (List.mem_of_getElem? hy)) hm6 (by rw [List.length_append]; show L.pairs.length + 1 ≤ _; omega)
        refine q _ _ L2 (((SameBut.of (s34.trans s5)).trans sb6).trans (.of (s68.trans s9))) (hp6.same (s68.trans s9)) hL2 ⟨fun m h => ?_, fun x y h => ?_⟩
        · rw [Lot.mem_marks] at h ⊢
          rw [hm]
          exact h
        · exact hpm.mem_iff.mpr (List.mem_append_left _ h)
/-! ### _law_without -/
abbrev nWithout : List Str := ["_law_pot_here", "_law_web_here", "_law_gone", "_law_left", "_law_x", "_law_y"]
theorem scWithout : FnScope nWithout ["_law_pot_here", "_law_web_here"] (defScope sWithout) := ⟨rfl, rfl, rfl, by decide +kernel, rfl, by decide +kernel, by decide +kernel⟩
def dn (g x : Int) : Int := x - (if decide (g < x) = true then 1 else 0)
theorem dn_lt {g x n : Int} (h : x ≠ g) (hg0 : 0 ≤ g) (hgn : g < n) (h0 : 0 ≤ x) (hn : x < n) : 0 ≤ dn g x ∧ dn g x < n - 1 ∧ (if g ≤ dn g x then dn g x + 1 else dn g x) = x := by
  unfold dn
  by_cases e : g < x
  · rw [if_pos (decide_eq_true e)]
    refine ⟨by omega, by omega, ?_⟩
    rw [if_pos (by omega)]
    omega
  · rw [if_neg (by rw [decide_eq_true_iff]; exact e)]
    refine ⟨by omega, by omega, ?_⟩
    rw [if_neg (by omega)]
    omega
def spWithout : Sp := fun vs H Q _ => ∃ (p : Addr) (v : V) (c : Nat) (L : Lot), vs = [.ref p, v] ∧ PotAt H p c ∧ c < 2 ^ 39 ∧ LotAt H v L ∧ 0 < L.many ∧
  ∀ H' v' L' f, SameBut p H H' → PotAt H' p (c + 1) → LotAt H' v' L' → Hom L' L f → Q v' H'
theorem ok_without {f : Addr} {fd : FuncData} (F : Fun K "_law_without" "_law_without" sWithout f fd) (B : Blt mg) (CT : Cl P w K mg base 1 "_law_take" ["_law_pot_here", "_law_wide"] spTake) : FnOk P w K mg base CX0 2 f fd ["_law_pot_here", "_law_web_here"] spWithout := by
  refine F.ok scWithout (fun vs H Q E h => ?_) (fun cdv A outer s H vs Q E hr h => ?_)
  · obtain ⟨p, v, c, L, rfl, _⟩ := h
    rfl
  · obtain ⟨p, v, c, L, rfl, hp, hc, hL, hmp, q⟩ := h
    have nd := scWithout.nd
    have line := line_ge
    obtain ⟨⟨hok, hm6, hpl⟩, a, w1, ts, rfl, ha, hw, hts⟩ := id hL
    refine ⟨_, pss_cons (ps_set (i := 2) nd rfl (.inr rfl) (pc CT hr (by rfl) (pa_cons (pv 0) (pa_cons (pe_ix ix_tup (pv 1) pe_int (fun _ _ => rfl)) pa_nil))))
      (pss_cons (ps_setLc (i := 3) (own := [("_law_x", 4), ("_law_y", 5)]) (g := g2 K 4 5) rfl nd rfl rfl (sw_true rfl rfl rfl (by decide +kernel)) (pi_tup (pe_ix ix_tup (pv 1) pe_int (fun _ _ => rfl))) (blkOk_by (N := nWithout) (sc := defScope sWithout) (by decide +kernel))
        (fun _ _ _ _ _ => pg_tup rfl (pgs_cons (pg_name (i := 4) nd rfl (.inl rfl)) (pgs_cons (pg_name (i := 5) nd rfl (.inl rfl)) pgs_nil)))
        (fun _ _ _ _ _ => pts_one (PW.pt (pw_and (pt_cmpR (r := rNe) op_ne (pv 4) (pv 2) (nomark _)) (pw_and1 (pt_cmpR (r := rNe) op_ne (pv 5) (pv 2) (nomark _))))))
        (fun _ _ _ _ _ => pe_tup (pa_cons (pe_op (r := rSubI) op_sub (pv 4) (pe_callTy (T := "int") (r := rInt1) cr_int1 (by rfl) B.int (by decide +kernel) (pa_cons (pe_cmpR (r := rGtI) op_gt (pv 4) (pv 2) (nomark _)) pa_nil)))
          (pa_cons (pe_op (r := rSubI) op_sub (pv 5) (pe_callTy (T := "int") (r := rInt1) cr_int1 (by rfl) B.int (by decide +kernel) (pa_cons (pe_cmpR (r := rGtI) op_gt (pv 5) (pv 2) (nomark _)) pa_nil))) pa_nil))))
      (pss_one (ps_ret (pe_tup (pa_cons (pe_op op_sub (pe_ix ix_tup (pv 1) pe_int (fun _ _ => rfl)) pe_int) (pa_cons (pe_callTy call_tuple_of (by rfl) B.tuple (by decide +kernel) (pa_cons (pe_callB (cr_sortT hr.units) (by rfl) B.sorted (by decide +kernel) (pa_cons (pv 3) pa_nil)) pa_nil)) pa_nil)))))), ?_⟩
    refine ⟨_, rfl, _, rfl, a, _, 0, _, rfl, rfl, SqT.of ha, atI_nat (j := 0) rfl, p, c, (L.many : Int), rfl, hp, by omega, by omega, by omega, fun H1 g sb1 hp1 hg0 hg1 => ?_⟩
    have np := hp.noTup
    have ne_ap : a ≠ p := fun e => np _ (e ▸ ha)
    have ne_wp : w1 ≠ p := fun e => np _ (e ▸ hw)
    have ha1 := sb1 _ _ ne_ap ha
    have hw1 := sb1 _ _ ne_wp hw
    have pr1 := paired_same hts fun _ _ h => PairAt.but h sb1 np
    refine ⟨_, rfl, a, _, 1, _, rfl, rfl, SqT.of ha1, atI_nat (j := 1) rfl, w1, rfl, ⟨_, SqT.of hw1⟩, fun D nD => ?_⟩
    refine lc_tup (K := K) (a := w1) (xs := ts.map V.ref) (fun i H2 => Same H1 H2 ∧ ∃ (us : List Addr) (qs : List (Int × Int)), H2 D = some (.lst (us.map V.ref)) ∧ Paired (PairAt H2) us qs ∧ (∀ q ∈ qs, ∃ x y, (x, y) ∈ L.pairs ∧ x ≠ g ∧ y ≠ g ∧ q = (dn g x, dn g y)) ∧ qs.length ≤ i)
      ⟨same_upd nD, [], [], upd_same, .nil, (fun q hq => (nomatch hq)), Nat.le_refl _⟩ (fun i H2 _ ⟨s2, _⟩ => SqT.of (s2 _ _ hw1)) ?_ ?_
    · rintro i z H2 hi ⟨s2, us, qs, hD, pu, okq, ql⟩
      obtain ⟨t, ht, rfl⟩ := map_get hi
      obtain ⟨⟨x, y⟩, hxy, hpair⟩ := paired_at pr1 ht
      have hil : i < L.pairs.length := (List.getElem?_eq_some_iff.mp hxy).1
      refine ⟨t, _, rfl, SqT.of (s2 _ _ hpair), rfl, _, _, rfl, _, _, rfl, rfl, rfl, ?_⟩
      refine ⟨_, rfl, _, rfl, rfl, _, rfl, ?_⟩
      refine ite2 (fun hc => ?_) (fun hc => ?_)
      · refine ⟨_, rfl, _, rfl, rfl, _, rfl, ?_⟩
        refine ite2 (fun hc2 => ?_) (fun hc2 => ?_)
        · have hxg : x ≠ g := fun e => by
            rw [e] at hc
            simp at hc
          have hyg : y ≠ g := fun e => by
            rw [e] at hc2
            simp at hc2
          refine ⟨_, rfl, _, rfl, _, rfl, _, _, rfl, rfl, .inr ⟨_, rfl, _, _, rfl, rfl, _, rfl, _, rfl, _, rfl, _, _, rfl, rfl, .inr ⟨_, rfl, _, _, rfl, rfl, by show 2 ≤ sizeLine; omega, fun t2 n2 => ?_⟩⟩⟩
          have s3 := same_upd (o := .tup [.int (dn g x), .int (dn g y)]) n2
          have hD2 := s3 _ _ hD
          have noD := noTup_of hD2 (fun _ z => nomatch z)
          have ul := Paired.length pu
          refine ⟨_, hD2, by rw [List.length_map]; omega, Same.put (s2.trans s3) nD, us ++ [t2], qs ++ [(dn g x, dn g y)], by rw [upd_same, List.map_append]; rfl,
            paired_snoc (paired_same pu fun _ _ h => PairAt.but (s3 _ _ h) upd_but noD) (PairAt.but (q := (dn g x, dn g y)) upd_same upd_but noD), fun q hq => ?_, by rw [List.length_append]; show qs.length + 1 ≤ _; omega⟩
          rcases List.mem_append.mp hq with hq | hq
          · exact okq q hq
          · exact ⟨x, y, List.mem_of_getElem? hxy, hxg, hyg, List.mem_singleton.mp hq⟩
        · exact ⟨s2, us, qs, hD, pu, okq, by omega⟩
      · refine iteF ?_
        exact ⟨s2, us, qs, hD, pu, okq, by omega⟩
    · rintro H2 ⟨s2, us, qs, hD, pu, okq, ql⟩
      rw [List.length_map, Paired.length hts] at ql
      refine ⟨_, rfl, a, _, 0, _, rfl, rfl, SqT.of (s2 _ _ ha1), atI_nat (j := 0) rfl, _, _, rfl, rfl, ?_⟩
      refine ⟨_, rfl, D, us, _, RowAt H2, rfl, SqL.of hD, paired_rowP pu, fun t r h => SqT.of h, rowP_sortable _, fun us2 l pu2 nl => ?_⟩
      refine ⟨l, _, rfl, .inl ⟨SqL.of upd_same, fun t nt => ⟨by show 2 ≤ sizeLine; omega, fun w nw => ?_⟩⟩⟩
      have en : (L.many : Int) - 1 = ((L.many - 1 : Nat) : Int) := by omega
      rw [show (fun i j : Int => V.int (i - j)) (L.many : Int) 1 = V.int ((L.many - 1 : Nat) : Int) from congrArg V.int en]
      obtain ⟨L2, hm, hpm, s9, hL2⟩ := lot_made (n := L.many - 1) nl nt nw pu2 (fun q hq => by
        obtain ⟨x, y, hxy, hxg, hyg, rfl⟩ := okq q hq
        obtain ⟨⟨hx0, hx1⟩, hy0, hy1⟩ := hok x y hxy
        have h1 := dn_lt hxg hg0 hg1 hx0 hx1
        have h2 := dn_lt hyg hg0 hg1 hy0 hy1
        exact ⟨⟨h1.1, by omega⟩, h2.1, by omega⟩) (by omega) (by omega)
      refine q _ _ L2 (fun x => if g ≤ x then x + 1 else x) (sb1.trans (.of (s2.trans s9))) (hp1.same (s2.trans s9)) hL2 ⟨fun m h => ?_, fun x y h => ?_⟩
      · rw [Lot.mem_marks] at h ⊢
        rw [hm] at h
        split <;> omega
      · obtain ⟨x', y', hxy, hxg, hyg, e⟩ := okq _ (hpm.mem_iff.mp h)
        obtain ⟨⟨hx0, hx1⟩, hy0, hy1⟩ := hok x' y' hxy
        obtain ⟨rfl, rfl⟩ := Prod.mk.inj e
        rw [(dn_lt hxg hg0 hg1 hx0 hx1).2.2, (dn_lt hyg hg0 hg1 hy0 hy1).2.2]
        exact hxy
end
end K87
namespace K87
open PySem PySem.Spec PyProof.Rows L2
/-! ### names that are the marks, mixed -/
theorem perm_erase {α : Type} : ∀ {l : List α} {k : Nat} {x : α}, l[k]? = some x → l.Perm (x :: l.eraseIdx k)
  | [], _, _, h => by cases h
  | a :: l, 0, x, h => by
    obtain rfl : a = x := Option.some.inj h
    exact List.Perm.refl _
  | a :: l, k + 1, x, h => ((perm_erase (l := l) (k := k) h).cons a).trans (List.Perm.swap x a _)
theorem map_erase {α β : Type} (f : α → β) : ∀ (l : List α) (k : Nat), (l.map f).eraseIdx k = (l.eraseIdx k).map f
  | [], _ => rfl
  | a :: l, 0 => rfl
  | a :: l, k + 1 => congrArg (f a :: ·) (map_erase f l k)
theorem iso_names {L L' : Lot} {names : List Int} (hp : names.Perm L.marks) (hok : L.Ok) (hm : L'.many = L.many) (hpr : L'.pairs.Perm (L.pairs.map fun q => (nmF names q.1, nmF names q.2))) :
    Iso L L' (nmF names) (fun m => (names.idxOf m : Int)) := by
  have nd : names.Nodup := hp.symm.nodup L.marks_nodup
  have len : names.length = L.many := by rw [hp.length_eq, L.marks_length]
  have mm : ∀ m, m ∈ L'.marks ↔ m ∈ L.marks := fun m => by rw [Lot.mem_marks, Lot.mem_marks, hm]
  have gf : ∀ m, m ∈ L.marks → ((names.idxOf (nmF names m) : Nat) : Int) = m := fun m h => by
    obtain ⟨h0, h1⟩ := Lot.mem_marks.mp h
    have hl : m.toNat < names.length := by omega
    have e : nmF names m = names[m.toNat] := by
      unfold nmF
      rw [List.getD_eq_getElem?_getD, List.getElem?_eq_getElem hl]
      rfl
    have hj : names.idxOf (nmF names m) < names.length := List.idxOf_lt_length_of_mem (e ▸ List.getElem_mem hl)
    have e2 : names[names.idxOf (nmF names m)] = nmF names m := List.getElem_idxOf hj
    have := nd_ix nd (i := names.idxOf (nmF names m)) (j := m.toNat) (List.getElem?_eq_getElem hj) (by rw [List.getElem?_eq_getElem hl, e2, e])
    omega
  have fg : ∀ m, m ∈ L'.marks → nmF names ((names.idxOf m : Nat) : Int) = m := fun m h => by
    have hmem : m ∈ names := hp.mem_iff.mpr ((mm m).mp h)
    have hj : names.idxOf m < names.length := List.idxOf_lt_length_of_mem hmem
    unfold nmF
    rw [Int.toNat_natCast, List.getD_eq_getElem?_getD, List.getElem?_eq_getElem hj]
    exact List.getElem_idxOf hj
  refine ⟨⟨fun m h => ?_, fun x y h => ?_⟩, ⟨fun m h => ?_, fun x y h => ?_⟩, gf, fg⟩
  · obtain ⟨h0, h1⟩ := Lot.mem_marks.mp h
    exact (mm _).mpr (hp.mem_iff.mp (nm_mem h0 (by omega)))
  · exact hpr.mem_iff.mpr (List.mem_map.mpr ⟨(x, y), h, rfl⟩)
  · have hmem : m ∈ names := hp.mem_iff.mpr ((mm m).mp h)
    have hj : names.idxOf m < names.length := List.idxOf_lt_length_of_mem hmem
    exact Lot.mem_marks.mpr ⟨by omega, by omega⟩
  · obtain ⟨⟨x', y'⟩, hxy, e⟩ := List.mem_map.mp (hpr.mem_iff.mp h)
    obtain ⟨rfl, rfl⟩ := Prod.mk.inj e
    obtain ⟨hx, hy⟩ := hok x' y' hxy
    have h1 := gf x' (Lot.mem_marks.mpr hx)
    have h2 := gf y' (Lot.mem_marks.mpr hy)
    show (((names.idxOf (nmF names x') : Nat) : Int), ((names.idxOf (nmF names y') : Nat) : Int)) ∈ L.pairs
    rw [h1, h2]
    exact hxy
/-! ### rows of the book and of the rounds -/
theorem book_rows {L : Lot} {m : Nat} {r : Row} (h : r ∈ bookM L (m + 1)) : r ∈ rowsOf L m := (List.mem_filter.mp (sortR_mem.mp h)).1
theorem round_rows {L : Lot} {m k : Nat} {r : Row} (h : r ∈ roundM L (m + 1) k) : r ∈ rowsOf L m := (List.mem_filter.mp (sortR_mem.mp h)).1
theorem book_nodup (L : Lot) (m : Nat) : (bookM L (m + 1)).Nodup := (sortR_perm _).symm.nodup ((rowsOf_nodup L m).sublist List.filter_sublist)
theorem round_nodup (L : Lot) (m k : Nat) : (roundM L (m + 1) k).Nodup := (sortR_perm _).symm.nodup ((rowsOf_nodup L m).sublist List.filter_sublist)
theorem rows_marks {L : Lot} {m : Nat} {r : Row} (h : r ∈ rowsOf L m) (hm : m ≤ 4) {n : Nat} (hn : n = L.many) : r.length ≤ 5 ∧ ∀ x ∈ r, 0 ≤ x ∧ x < (n : Int) := by
  obtain ⟨h1, h2⟩ := mem_rowsOf.mp h
  exact ⟨by omega, fun x hx => hn ▸ Lot.mem_marks.mp (h1.1 x hx)⟩
theorem rows_few {L : Lot} {m : Nat} (hm6 : L.many ≤ 6) (hm : m ≤ 4) {rs : List Row} (nd : rs.Nodup) (h : ∀ r ∈ rs, r ∈ rowsOf L m) : rs.length ≤ 1296 := Nat.le_trans (nodup_le nd (rowsOf_nodup L m) h) (rowsOf_few hm6 hm)
theorem Hom.longer {L L' : Lot} {f : Int → Int} (h : Hom L L' f) (n : Nat) : decide (leO (lastsM L n) (lastsM L' n)) = true := decide_eq_true (h.lasts n)
theorem scal_vO (a b : Option Int) : scal (vO a) (vO b) = true := by
  cases a <;> cases b <;> rfl
section
variable {P : Program} {w : World} {K : PySem.W.Frag} {mg : Str → Option Value} {base : Heap}
abbrev nRight : List Str := ["_law_pot_here", "_law_web_here", "_law_names", "_law_left", "_law_called_here", "_law_more", "_law_few", "_law_seats", "_law_far", "_law_line_of", "_law_some"]
theorem scRight : FnScope nRight ["_law_pot_here"] (defScope sRight) := ⟨rfl, rfl, rfl, by decide +kernel, rfl, by decide +kernel, by decide +kernel⟩
def spRight : Sp := fun vs H Q _ => ∃ (p : Addr), vs = [.ref p] ∧ PotAt H p 0 ∧ ∀ H', SameBut p H H' → Q (.bl true) H'
/-- the defs that _law_right calls -/
structure Calls (P : Program) (w : World) (K : PySem.W.Frag) (mg : Str → Option Value) (base : Heap) : Prop where
  take : Cl P w K mg base 1 "_law_take" ["_law_pot_here", "_law_wide"] spTake
  web : Cl P w K mg base 2 "_law_web" ["_law_pot_here", "_law_most"] spWeb
  called : Cl P w K mg base 1 "_law_called" ["_law_web_here", "_law_names"] spCalled
  led : Cl P w K mg base 1 "_law_led" ["_law_some", "_law_names"] spLed
  paired : Cl P w K mg base 3 "_law_paired" ["_law_pot_here", "_law_web_here"] spPaired
  without : Cl P w K mg base 2 "_law_without" ["_law_pot_here", "_law_web_here"] spWithout
  longer : Cl P w K mg base 1 "_law_is_longer" ["_law_one", "_law_other"] spLonger
  reach : Cl P w K mg base 5 "reach" ["lot"] spReach
  book : Cl P w K mg base 3 "book" ["lot", "n"] spBook
  rounds : Cl P w K mg base 3 "rounds" ["lot", "n"] spRounds
  lasts : Cl P w K mg base 6 "lasts" ["lot", "n"] spLasts
set_option maxHeartbeats 2000000 in
theorem ok_right {f : Addr} {fd : FuncData} (F : Fun K "_law_right" "_law_right" sRight f fd) (B : Blt mg) (C : Calls P w K mg base) : FnOk P w K mg base CX0 7 f fd ["_law_pot_here"] spRight := by
  refine F.ok scRight (fun vs H Q E h => ?_) (fun cdv A outer s H vs Q E hr h => ?_)
  · obtain ⟨p, rfl, _⟩ := h
    rfl
  · obtain ⟨p, rfl, hp, q⟩ := h
    have nd := scRight.nd
    have line := line_ge
    refine ⟨_, pss_cons (ps_asg (pe_tup (pa_cons (pc C.web hr (by rfl) (pa_cons (pv 0) (pa_cons pe_int pa_nil))) (pa_cons (pe_lst pa_nil) (pa_cons (pe_lst pa_nil) pa_nil))))
        (pg_tup rfl (pgs_cons (pg_name (i := 1) nd rfl (.inl rfl)) (pgs_cons (pg_name (i := 2) nd rfl (.inr rfl)) (pgs_cons (pg_name (i := 3) nd rfl (.inl rfl)) pgs_nil)))))
      (pss_cons (ps_set (i := 3) nd rfl (.inl rfl) (pe_listRg rfl (by rfl) B.list (prg_1 (by rfl) B.range (pe_ix ix_tup (pv 1) pe_int (fun _ _ => rfl)))))
      (pss_cons (ps_while PassesOwn.never (pt_cmpR (op_neD hr.units) (pv 3) (pe_lst pa_nil) (nomark _))
        (pss_one (ps_expr (pe_bm PySem.F.plainAttrs_list PySem.F.slot_list_append PySem.F.type_list_append mt_append (pv 2) (pa_cons
          (pe_bm PySem.F.plainAttrs_list PySem.F.slot_list_pop PySem.F.type_list_pop mt_popAt (pv 3) (pa_cons (pc C.take hr (by rfl) (pa_cons (pv 0) (pa_cons (pe_callB call_len_seq (by rfl) B.len (by decide +kernel) (pa_cons (pv 3) pa_nil)) pa_nil))) pa_nil)) pa_nil)))))
      (pss_cons (ps_par (i := 4) (j := 5) rfl nd rfl rfl (by decide) rfl rfl (pa_cons (pc C.called hr (by rfl) (pa_cons (pv 1) (pa_cons (pv 2) pa_nil))) (pa_cons (pc C.paired hr (by rfl) (pa_cons (pv 0) (pa_cons (pv 1) pa_nil))) pa_nil)) (by rfl))
      (C8.pss_cut (ps_set (i := 6) nd rfl (.inl rfl) (pe_ifExp (pt_cmpR op_gt (pe_ix ix_tup (pv 1) pe_int (fun _ _ => rfl)) pe_int (nomark _)) (pc C.without hr (by rfl) (pa_cons (pv 0) (pa_cons (pv 1) pa_nil))) (pv 1)))
      (pss_cons (ps_if (PW.pt (pw_or (pt_cmpR op_ne (pc C.reach hr (by rfl) (pa_cons (pv 4) pa_nil)) (pc C.reach hr (by rfl) (pa_cons (pv 1) pa_nil)) (nomark _))
          (pw_or (pt_cmpR op_lt (pc C.reach hr (by rfl) (pa_cons (pv 5) pa_nil)) (pc C.reach hr (by rfl) (pa_cons (pv 1) pa_nil)) (nomark _))
          (pw_or1 (pt_cmpR op_gt (pc C.reach hr (by rfl) (pa_cons (pv 6) pa_nil)) (pc C.reach hr (by rfl) (pa_cons (pv 1) pa_nil)) (nomark _))))))
        (pss_one (ps_ret pe_bl)) pss_nil)
      (pss_cons (ps_for PassesOwn.never rfl (pi_range2 (by rfl) B.range (pa_cons pe_int (pa_cons pe_int pa_nil))) (pg_name (i := 7) nd rfl (.inr rfl))
        (pss_cons (ps_if (pt_cmpR (op_neD hr.units) (pc C.book hr (by rfl) (pa_cons (pv 4) (pa_cons (pv 7) pa_nil))) (pc C.led hr (by rfl) (pa_cons (pc C.book hr (by rfl) (pa_cons (pv 1) (pa_cons (pv 7) pa_nil))) (pa_cons (pv 2) pa_nil))) (nomark _)) (pss_one (ps_ret pe_bl)) pss_nil)
        (pss_cons (ps_if (pt_cmpR (op_neD hr.units) (pc C.rounds hr (by rfl) (pa_cons (pv 4) (pa_cons (pv 7) pa_nil)))
            (pe_callTy call_tuple_of (by rfl) B.tuple (by decide +kernel) (pa_cons (pe_lc (own := [("_law_line_of", 9)]) (g := gName 9) (tt := tYes) rfl nd (pi_tup (pc C.rounds hr (by rfl) (pa_cons (pv 1) (pa_cons (pv 7) pa_nil)))) (blkOk_by (N := nRight) (sc := defScope sRight) (by decide +kernel))
              (fun _ _ _ _ _ => pg_name (i := 9) nd rfl (.inl rfl)) (fun _ _ _ _ _ => pts_nil) (fun _ _ _ _ _ => pc C.led hr (by rfl) (pa_cons (pv 9) (pa_cons (pv 2) pa_nil)))) pa_nil)) (nomark _)) (pss_one (ps_ret pe_bl)) pss_nil)
        (pss_cons (ps_setLc (i := 8) (own := [("_law_some", 10)]) (g := gName 10) (tt := tYes) rfl nd rfl rfl (sw_true rfl rfl rfl (by decide +kernel)) (pi_tup (pe_tup (pa_cons (pv 1) (pa_cons (pv 4) (pa_cons (pv 5) (pa_cons (pv 6) pa_nil))))))
            (blkOk_by (N := nRight) (sc := defScope sRight) (by decide +kernel)) (fun _ _ _ _ _ => pg_name (i := 10) nd rfl (.inl rfl)) (fun _ _ _ _ _ => pts_nil) (fun _ _ _ _ _ => pc C.lasts hr (by rfl) (pa_cons (pv 10) (pa_cons (pv 7) pa_nil))))
        (pss_one (ps_if (PW.pt (pw_or (pt_cmpR op_ne (pe_ix ix_list (pv 8) pe_int (fun _ _ => rfl)) (pe_ix ix_list (pv 8) pe_int (fun _ _ => rfl)) (nomark _))
            (pw_or (pt_not (pt_val (pc C.longer hr (by rfl) (pa_cons (pe_ix ix_list (pv 8) pe_int (fun _ _ => rfl)) (pa_cons (pe_ix ix_list (pv 8) pe_int (fun _ _ => rfl)) pa_nil)))))
            (pw_or1 (pt_not (pt_val (pc C.longer hr (by rfl) (pa_cons (pe_ix ix_list (pv 8) pe_int (fun _ _ => rfl)) (pa_cons (pe_ix ix_list (pv 8) pe_int (fun _ _ => rfl)) pa_nil)))))))))
          (pss_one (ps_ret pe_bl)) pss_nil))))))
      (pss_one (ps_ret pe_bl)))))))), ?_⟩
    -- _law_web_here, _law_names, _law_left
    refine ⟨_, rfl, p, rfl, hp, fun H1 v L sb1 hp1 hL hpl => ?_⟩
    obtain ⟨⟨hok, hm6, _⟩, a, w1, ts, rfl, ha, hw, hts⟩ := id hL
    refine ⟨Nat.zero_le _, fun nm nnm => ⟨Nat.zero_le _, fun l0 nl0 => ⟨by show 3 ≤ sizeLine; omega, fun t nt => ?_⟩⟩⟩
    refine ⟨t, _, rfl, SqT.of upd_same, rfl, _, _, rfl, _, _, rfl, _, _, rfl, rfl, ?_⟩
    have s13 := (same_upd (o := .lst []) nnm).trans ((same_upd (o := .lst []) nl0).trans (same_upd (o := .tup [.ref a, .ref nm, .ref l0]) nt))
    have hnm3 := ((same_upd (o := .lst []) nl0).trans (same_upd (o := .tup [.ref a, .ref nm, .ref l0]) nt)) nm (.lst []) upd_same
    generalize upd (upd (upd H1 nm (.lst [])) l0 (.lst [])) t (.tup [.ref a, .ref nm, .ref l0]) = H3 at s13 hnm3
    refine ⟨_, rfl, a, _, 0, _, rfl, rfl, SqT.of (s13 _ _ ha), atI_nat (j := 0) rfl, (L.many : Int), rfl, .of_le (by omega) (by omega) (by omega) (by omega), fun lf nlf => ?_⟩
    have flf : H1 lf = none := s13.free nlf
    have ne_nl : nm ≠ lf := ne_of_none hnm3 nlf
    have ne_np : nm ≠ p := hp1.ne nnm
    have ne_lp : lf ≠ p := hp1.ne flf
    have s4 := same_upd (o := .lst (rgV 0 (L.many : Int))) nlf
    have hlf4 : upd H3 lf (.lst (rgV 0 (L.many : Int))) lf = some (.lst (L.marks.map V.int)) := by
      rw [upd_same]
      unfold rgV Lot.marks
      rw [List.map_map, show ((L.many : Int) - 0).toNat = L.many by omega]
      refine congrArg (fun z => some (HO.lst z)) (List.map_congr_left fun i _ => ?_)
      show V.int (0 + (i : Int)) = V.int (i : Int)
      rw [Int.zero_add]
    have s14 := s13.trans s4
    have hnm4 := s4 _ _ hnm3
    generalize upd H3 lf (.lst (rgV 0 (L.many : Int))) = H4 at s4 hlf4 s14 hnm4
    -- while _law_left != []
    refine ⟨fun m σ G => ∃ (ns ls : List Int), m = ls.length ∧ σ = [some (.ref p), some (.ref a), some (.ref nm), some (.ref lf), none, none, none, none, none, none, none] ∧ SameBut p H1 G ∧ PotAt G p (100 + ns.length) ∧ G nm = some (.lst (ns.map V.int)) ∧
        G lf = some (.lst (ls.map V.int)) ∧ (ns ++ ls).Perm L.marks, ⟨_, [], L.marks, rfl, rfl, .of s14, hp1.same s14, hnm4, hlf4, List.Perm.refl _⟩, ?_⟩
    clear hlf4 hnm4 s14 s4 s13 hnm3 nlf nt nl0
    rintro m σ G ⟨ns, ls, rfl, rfl, sbG, hpG, hnmG, hlfG, pm⟩
    refine ⟨_, rfl, Nat.zero_le _, fun e ne => ?_⟩
    have s5 := same_upd (o := .lst []) ne
    refine ⟨.list (ls.map .int), .list ([] : List PyData), .lst (SqL.of (s5 _ _ hlfG)) (dp_ints _), .lst (SqL.of upd_same) .nil, shaped_ints _, shaped_ints [], _, rfl, ?_⟩
    rw [eqv_nil]
    have sb5 := sbG.trans (.of s5)
    have hp5 := hpG.same s5
    have hnm5 := s5 _ _ hnmG
    have hlf5 := s5 _ _ hlfG
    generalize upd G e (.lst []) = H5 at sb5 hp5 hnm5 hlf5
    clear s5 sbG hpG hnmG hlfG ne
    have plen := pm.length_eq
    rw [List.length_append, L.marks_length] at plen
    refine ite2 (fun hc => ?_) (fun hc => ?_)
    · have lpos : 0 < ls.length := by
        cases ls with
        | nil => simp at hc
        | cons x r => exact Nat.succ_pos _
      refine ⟨_, fun _ _ h => h, _, rfl, .inl ⟨rfl, _, SqL.of hnm5⟩, _, rfl, .inl ⟨rfl, _, SqL.of hlf5⟩, _, rfl, _, rfl, lf, _, rfl, .inl (SqL.of hlf5), p, 100 + ns.length, _, rfl, hp5, by omega, by rw [List.length_map]; omega, by rw [List.length_map]; omega, fun H6 d sb6 hp6 hd0 hd1 => ?_⟩
      rw [List.length_map] at hd1
      have hdl : d.toNat < ls.length := by omega
      have hget : (ls.map V.int)[d.toNat]? = some (.int ls[d.toNat]) := by rw [List.getElem?_map, List.getElem?_eq_getElem hdl]; rfl
      obtain ⟨j, hj1, hj2, hj3, _⟩ := atI_get (at_of (z := d) (j := d.toNat) (by omega) hget)
      obtain ⟨x, hx, hxv⟩ := map_get hj2
      have hlf6 := sb6 _ _ ne_lp hlf5
      have hnm6 := sb6 _ _ ne_np hnm5
      refine ⟨lf, _, d, j, _, rfl, rfl, hlf6, by omega, by omega, hj1, hj2, ?_⟩
      have hnm7 : upd H6 lf (.lst ((ls.map V.int).eraseIdx j)) nm = some (.lst (ns.map V.int)) := (upd_ne ne_nl).trans hnm6
      refine ⟨nm, _, _, rfl, rfl, hnm7, by rw [List.length_map]; omega, ?_⟩
      have pe := perm_erase hx
      refine ⟨(ls.eraseIdx j).length, ?_, ns ++ [x], ls.eraseIdx j, rfl, rfl, SameBut.put (SameBut.put (sb5.trans sb6) (.inl flf)) (.inl nnm), ?_, ?_, ?_, ?_⟩
      · have := pe.length_eq
        rw [List.length_cons] at this
        omega
      · rw [List.length_append]
        exact ((hp6.keep upd_but (Ne.symm ne_lp)).keep upd_but (Ne.symm ne_np)).more (by show 100 + ns.length + 1 ≤ 100 + (ns.length + 1); omega)
      · rw [upd_same, List.map_append, ← hxv]
        rfl
      · rw [upd_ne (Ne.symm ne_nl), upd_same, map_erase]
      · refine List.Perm.trans ?_ pm
        rw [List.append_assoc]
        exact pe.symm.append_left ns
    · obtain rfl : ls = [] := by
        cases ls with
        | nil => rfl
        | cons x r => exact absurd rfl hc
      rw [List.append_nil] at pm
      have nlen : ns.length = L.many := by
        rw [pm.length_eq, L.marks_length]
      have nr : ∀ m ∈ ns, 0 ≤ m ∧ m < (L.many : Int) := fun m hm => Lot.mem_marks.mp (pm.mem_iff.mp hm)
      have np1 := hp1.noTup
      have hL5 : LotAt H5 (.ref a) L := hL.but sb5 np1
      have ne_ap : a ≠ p := fun e => np1 _ (e ▸ ha)
      have ha5 := sb5 _ _ ne_ap ha
      have sb05 := sb1.trans sb5
      have hp5' := hp5.more (show 100 + ns.length ≤ 200 by omega)
      clear hp5 hlf5 sb5 hts hw ha hL hc plen
      -- _law_called_here, _law_more
      refine ⟨_, rfl, _, rfl, .ref a, L, nm, ns, rfl, hL5, hnm5, nlen, nr, fun H6 v6 L6 s6 hL6 hm6' hp6 => ?_⟩
      have iso := iso_names pm hok hm6' hp6
      have hpp6 := hp5'.same s6
      refine ⟨_, rfl, _, rfl, p, .ref a, 200, L, rfl, hpp6, by decide, hL5.same s6, by omega, fun H7 v7 L7 sb7 hp7 hL7 hom7 => ?_⟩
      refine ⟨_, _, rfl, ?_⟩
      have np6 := hpp6.noTup
      have hLa7 : LotAt H7 (.ref a) L := (hL5.same s6).but sb7 np6
      have hLc7 : LotAt H7 v6 L6 := hL6.but sb7 np6
      have hnm7 := sb7 _ _ ne_np (s6 _ _ hnm5)
      have ha7 := sb7 _ _ ne_ap (s6 _ _ ha5)
      have sb07 := (sb05.trans (.of s6)).trans sb7
      clear hpp6 np6 sb7 hL6 hL5 hnm5 ha5 s6
      -- _law_few
      refine ⟨fun σ' H' => ∃ (v8 : V) (L8 : Lot) (f8 : Int → Int), σ' = [some (.ref p), some (.ref a), some (.ref nm), some (.ref lf), some v6, some v7, some v8, none, none, none, none] ∧ SameBut p H7 H' ∧ LotAt H' v8 L8 ∧ Hom L8 L f8, ?_, ?_⟩
      · refine ⟨_, rfl, a, _, 0, _, rfl, rfl, SqT.of ha7, atI_nat (j := 0) rfl, _, _, rfl, rfl, _, rfl, ?_⟩
        refine ite2 (fun hc => ?_) (fun hc => ?_)
        · have h0 : (0 : Int) < (L.many : Int) := of_decide_eq_true hc
          exact ⟨_, rfl, _, rfl, p, .ref a, 201, L, rfl, hp7, by decide, hLa7, by omega, fun H8 v8 L8 f8 sb8 hp8 hL8 hom8 => ⟨v8, L8, f8, rfl, sb8, hL8, hom8⟩⟩
        · exact ⟨_, rfl, .ref a, L, fun x => x, rfl, .refl p H7, hLa7, Hom.refl L⟩
      rintro σ' H8 ⟨v8, L8, f8, rfl, sb8, hL8, hom8⟩
      have np7 := hp7.noTup
      have hLa : LotAt H8 (.ref a) L := hLa7.but sb8 np7
      have hLc : LotAt H8 v6 L6 := hLc7.but sb8 np7
      have hLm : LotAt H8 v7 L7 := hL7.but sb8 np7
      have hnm := sb8 _ _ ne_np hnm7
      have sb := sb07.trans sb8
      clear hLa7 hLc7 hL7 hnm7 sb07 sb8 np7 hp7 ha7 hp5' sb05
      -- reach
      refine ⟨_, rfl, v6, L6, rfl, hLc, fun G1 s1 => ⟨_, rfl, .ref a, L, rfl, hLa.same s1, fun G2 s2 => ⟨rfl, _, rfl, ?_⟩⟩⟩
      rw [iso.reach, decide_eq_true rfl]
      refine iteF ?_
      have s12 := s1.trans s2
      refine ⟨_, rfl, v7, L7, rfl, hLm.same s12, fun G3 s3 => ⟨_, rfl, .ref a, L, rfl, hLa.same (s12.trans s3), fun G4 s4 => ⟨_, _, rfl, rfl, _, rfl, ?_⟩⟩⟩
      rw [decide_eq_false (show ¬ ((reachM L7 : Nat) : Int) < ((reachM L : Nat) : Int) by have := hom7.reach; omega)]
      refine iteF ?_
      have s14 := s12.trans (s3.trans s4)
      refine ⟨_, rfl, v8, L8, rfl, hL8.same s14, fun G5 s5 => ⟨_, rfl, .ref a, L, rfl, hLa.same (s14.trans s5), fun G6 s6 => ⟨_, _, rfl, rfl, _, rfl, ?_⟩⟩⟩
      rw [decide_eq_false (show ¬ ((reachM L : Nat) : Int) < ((reachM L8 : Nat) : Int) by have := hom8.reach; omega)]
      refine iteF ?_
      have s16 := s14.trans (s5.trans s6)
      -- for _law_seats in range(1, 5)
      refine ⟨1, 5, rfl, ⟨by decide, by decide, by decide, by decide⟩, ?_⟩
      refine for_range (lo := 1) (n := ((5 : Int) - 1).toNat) (fun i σ G => ∃ x7 x8, σ = [some (.ref p), some (.ref a), some (.ref nm), some (.ref lf), some v6, some v7, some v8, x7, x8, none, none] ∧ Same H8 G) ⟨none, none, rfl, s16⟩ ?_ ?_
      · rintro i σ G hi ⟨x7, x8, rfl, sG⟩
        have hi4 : i < 4 := hi
        have esz : (1 : Int) + (i : Int) = ((i + 1 : Nat) : Int) := by omega
        rw [esz]
        have hi4' : i ≤ 4 := by omega
        -- the book
        refine ⟨_, rfl, _, rfl, v6, L6, i, rfl, hLc.same sG, hi4', fun G1 b1 s1 hb1 => ?_⟩
        refine ⟨_, rfl, _, rfl, .ref a, L, i, rfl, hLa.same (sG.trans s1), hi4', fun G2 b2 s2 hb2 => ?_⟩
        have sG2 := sG.trans (s1.trans s2)
        refine ⟨_, rfl, b2, bookM L (i + 1), nm, ns, rfl, hb2, sG2 _ _ hnm, fun r hr => rows_marks (book_rows hr) hi4' nlen, rows_few hm6 hi4' (book_nodup L i) fun r hr => book_rows hr, rows_sortable L i _ (fun r hr => book_rows hr) (book_nodup L i), fun G3 b3 s3 hb3 => ?_⟩
        rw [← iso.book (i + 1)] at hb3
        refine ⟨encB (bookM L6 (i + 1)), encB (bookM L6 (i + 1)), dp_book (hb1.same (s2.trans s3)), dp_book hb3, shaped_book _, shaped_book _, _, rfl, ?_⟩
        rw [eqv_self (shaped_book _)]
        refine iteF ?_
        have sG3 := sG2.trans s3
        clear hb1 hb2 hb3 s1 s2 s3 sG2
        -- the rounds
        refine ⟨_, rfl, _, rfl, v6, L6, i, rfl, hLc.same sG3, hi4', fun G4 r1 s4 hr1 => ?_⟩
        refine ⟨_, rfl, _, rfl, .ref a, L, i, rfl, hLa.same (sG3.trans s4), hi4', fun G5 r2 s5 hr2 => ?_⟩
        obtain ⟨q2, vs, rfl, hq2, hvs⟩ := hr2
        have sG5 := sG3.trans (s4.trans s5)
        refine ⟨q2, rfl, ⟨_, SqT.of hq2⟩, fun D nD => ?_⟩
        refine lc_tup (K := K) (a := q2) (xs := vs) (fun j G6 => Same G5 G6 ∧ ∃ us : List V, G6 D = some (.lst us) ∧ Paired (BookAt G6) us (((roundsM L (i + 1)).take j).map fun line => sortR (line.map (List.map (nmF ns)))))
          ⟨same_upd nD, [], upd_same, .nil⟩ (fun j G6 _ ⟨s6, _⟩ => SqT.of (s6 _ _ hq2)) ?_ ?_
        · rintro j z G6 hj ⟨s6, us, hD, pu⟩
          obtain ⟨ln, hln, hbk⟩ := paired_at hvs hj
          have hmem := List.mem_of_getElem? hln
          obtain ⟨kk, hkk, rfl⟩ := List.mem_map.mp hmem
          have hkl : j < (roundsM L (i + 1)).length := (List.getElem?_eq_some_iff.mp hln).1
          have hmr := manyR_few (L := L) hm6 hi4'
          have hrl : (roundsM L (i + 1)).length = manyR L (i + 1) := by
            unfold roundsM
            rw [List.length_map, List.length_range]
          refine ⟨rfl, _, rfl, _, rfl, z, roundM L (i + 1) kk, nm, ns, rfl, hbk.same s6, s6 _ _ (sG5 _ _ hnm), fun r hr => rows_marks (round_rows hr) hi4' nlen, rows_few hm6 hi4' (round_nodup L i kk) fun r hr => round_rows hr, rows_sortable L i _ (fun r hr => round_rows hr) (round_nodup L i kk), fun G7 b7 s7 hb7 => ?_⟩
          have hD7 := s7 _ _ hD
          have noD := noTup_of hD7 (fun _ z => nomatch z)
          have ul := Paired.length pu
          rw [List.length_map, List.length_take] at ul
          refine ⟨_, hD7, by omega, Same.put (s6.trans s7) nD, us ++ [b7], upd_same, ?_⟩
          rw [map_next hln]
          exact paired_snoc (paired_same pu fun _ _ h => BookAt.but (h.same s7) upd_but noD) (BookAt.but hb7 upd_but noD)
        · rintro G6 ⟨s6, us, hD, pu⟩
          rw [Paired.length hvs, List.take_length, ← iso.rounds (i + 1)] at pu
          refine ⟨D, _, rfl, .inl ⟨SqL.of hD, fun l nl => ?_⟩⟩
          have s7 := same_upd (o := .tup us) nl
          obtain ⟨q1, vs1, rfl, hq1, hvs1⟩ := hr1.same (s5.trans (s6.trans s7))
          refine ⟨.tuple ((roundsM L6 (i + 1)).map encB), .tuple ((roundsM L6 (i + 1)).map encB), .tup (SqT.of hq1) (dp_books hvs1), .tup (SqT.of upd_same) (dp_books (paired_same pu fun _ _ h => h.same s7)), shaped_books _, shaped_books _, _, rfl, ?_⟩
          rw [eqv_self (shaped_books _)]
          refine iteF ?_
          have sG7 := sG5.trans (s6.trans s7)
          generalize upd G6 l (.tup us) = G7 at sG7
          clear hvs1 hq1 pu hD hr1 hvs hq2 s4 s5 s6 s7 sG5 sG3
          -- how long it holds out
          refine ⟨_, rfl, _, rfl, _, rfl, _, rfl, by show 4 ≤ sizeLine; omega, fun t4 n4 => ?_⟩
          have s8 := same_upd (o := .tup [.ref a, v6, v7, v8]) n4
          have ht4 : upd G7 t4 (.tup [.ref a, v6, v7, v8]) t4 = some (.tup [.ref a, v6, v7, v8]) := upd_same
          have sG8 := sG7.trans s8
          generalize upd G7 t4 (.tup [.ref a, v6, v7, v8]) = G8 at s8 ht4 sG8
          refine ⟨t4, rfl, ⟨_, SqT.of ht4⟩, fun D4 nD4 => ?_⟩
          refine lc_tup (K := K) (a := t4) (xs := [.ref a, v6, v7, v8]) (fun j G9 => Same G8 G9 ∧ G9 D4 = some (.lst (([lastsM L (i + 1), lastsM L6 (i + 1), lastsM L7 (i + 1), lastsM L8 (i + 1)].take j).map vO)))
            ⟨same_upd nD4, upd_same⟩ (fun j G9 _ ⟨s9, _⟩ => SqT.of (s9 _ _ ht4)) ?_ ?_
          · rintro j z G9 hj ⟨s9, hD9⟩
            have hj4 : j < 4 := (List.getElem?_eq_some_iff.mp hj).1
            have sG9 := sG8.trans s9
            obtain ⟨Lz, hLz, ez⟩ : ∃ Lz, LotAt G9 z Lz ∧ [lastsM L (i + 1), lastsM L6 (i + 1), lastsM L7 (i + 1), lastsM L8 (i + 1)][j]? = some (lastsM Lz (i + 1)) := by
              match j, hj4, hj with
              | 0, _, hj =>
                obtain rfl := Option.some.inj hj
                exact ⟨L, hLa.same sG9, rfl⟩
              | 1, _, hj =>
                obtain rfl := Option.some.inj hj
                exact ⟨L6, hLc.same sG9, rfl⟩
              | 2, _, hj =>
                obtain rfl := Option.some.inj hj
                exact ⟨L7, hLm.same sG9, rfl⟩
              | 3, _, hj =>
                obtain rfl := Option.some.inj hj
                exact ⟨L8, hL8.same sG9, rfl⟩
            refine ⟨rfl, _, rfl, _, rfl, z, Lz, i, rfl, hLz, hi4', fun G10 s10 => ?_⟩
            refine ⟨_, s10 _ _ hD9, ?_, Same.put (s9.trans s10) nD4, ?_⟩
            · rw [List.length_map, List.length_take]
              omega
            · rw [upd_same, map_next ez]
          · rintro G9 ⟨s9, hD9⟩
            have hD9' : G9 D4 = some (.lst [vO (lastsM L (i + 1)), vO (lastsM L6 (i + 1)), vO (lastsM L7 (i + 1)), vO (lastsM L8 (i + 1))]) := hD9
            clear hD9
            refine ⟨_, rfl, D4, _, 1, _, rfl, rfl, SqL.of hD9', atI_nat (j := 1) rfl, _, rfl, D4, _, 0, _, rfl, rfl, SqL.of hD9', atI_nat (j := 0) rfl, scal_vO _ _, _, rfl, ?_⟩
            rw [iso.lasts (i + 1), decide_eq_true rfl]
            refine iteF ?_
            refine ⟨_, rfl, D4, _, 2, _, rfl, rfl, SqL.of hD9', atI_nat (j := 2) rfl, _, rfl, D4, _, 0, _, rfl, rfl, SqL.of hD9', atI_nat (j := 0) rfl, lastsM L7 (i + 1), lastsM L (i + 1), rfl, _, rfl, ?_⟩
            rw [hom7.longer (i + 1)]
            refine iteF ?_
            refine ⟨_, rfl, D4, _, 0, _, rfl, rfl, SqL.of hD9', atI_nat (j := 0) rfl, _, rfl, D4, _, 3, _, rfl, rfl, SqL.of hD9', atI_nat (j := 3) rfl, lastsM L (i + 1), lastsM L8 (i + 1), rfl, _, rfl, ?_⟩
            rw [hom8.longer (i + 1)]
            refine iteF ?_
            exact ⟨_, _, rfl, sG8.trans s9⟩
      · rintro σ G ⟨x7, x8, rfl, sG⟩
        exact q _ (sb.trans (.of sG))
end
end K87
namespace K87
open PySem PySem.Spec PyProof.Rows L2
section
variable {P : Program} {w : World} {K : PySem.W.Frag} {mg : Str → Option Value} {base : Heap}
abbrev nLaw : List Str := ["_law_script", "_law_k"]
theorem scLaw : FnScope nLaw ["_law_script"] (defScope sLaw) := ⟨rfl, rfl, rfl, by decide +kernel, rfl, by decide +kernel, by decide +kernel⟩
def spLaw (K : PySem.W.Frag) : Sp := fun vs H Q _ => ∃ (a : Addr) (ns : List Int), vs = [.ref a] ∧ SqL K H a (ns.map V.int) ∧ ns.length ≤ 63 ∧ ∀ H', Q (.bl true) H'
theorem all_true : ∀ n : Nat, (List.replicate n true).all id = true
  | 0 => rfl
  | n + 1 => by
    rw [List.replicate_succ, List.all_cons, all_true n]
    rfl
theorem ok_law {f : Addr} {fd : FuncData} (F : Fun K "law" "law" sLaw f fd) (B : Blt mg) (CR : Cl P w K mg base 7 "_law_right" ["_law_pot_here"] spRight) (CP : Cl P w K mg base 1 "_law_pot" ["_law_script", "_law_k"] (spPot K)) : FnOk P w K mg base CX0 8 f fd ["_law_script"] (spLaw K) := by
  refine F.ok scLaw (fun vs H Q E h => ?_) (fun cdv A outer s H vs Q E hr h => ?_)
  · obtain ⟨a, ns, rfl, _⟩ := h
    rfl
  · obtain ⟨a, ns, rfl, ha, hl, q⟩ := h
    have nd := scLaw.nd
    have line := line_ge
    refine ⟨_, pss_one (ps_ret (pe_callB (cr_all rfl) (by rfl) B.all (by decide +kernel) (pa_cons (pe_lc (own := [("_law_k", 1)]) (g := gName 1) (tt := tYes) rfl nd
        (pi_range1 (by rfl) B.range (pa_cons (pe_op op_add pe_int (pe_callB (call_min2 rfl) (by rfl) B.min (by decide +kernel) (pa_cons pe_int (pa_cons (pe_callB call_len_seq (by rfl) B.len (by decide +kernel) (pa_cons (pv 0) pa_nil)) pa_nil)))) pa_nil))
        (blkOk_by (N := nLaw) (sc := defScope sLaw) (by decide +kernel)) (fun _ _ _ _ _ => pg_name (i := 1) nd rfl (.inl rfl)) (fun _ _ _ _ _ => pts_nil)
        (fun _ _ _ _ _ => pc CR hr (by rfl) (pa_cons (pc CP hr (by rfl) (pa_cons (pv 0) (pa_cons (pv 1) pa_nil))) pa_nil))) pa_nil))), ?_⟩
    refine ⟨_, rfl, a, _, rfl, .inl ha, _, _, rfl, _, _, rfl, rfl, ?_⟩
    rw [List.length_map]
    obtain ⟨n, hn, hn4⟩ : ∃ n : Nat, (1 : Int) + (if (ns.length : Int) < 3 then (ns.length : Int) else 3) = (n : Int) ∧ n ≤ 4 := by
      by_cases h : (ns.length : Int) < 3
      · rw [if_pos h]
        exact ⟨1 + ns.length, by omega, by omega⟩
      · rw [if_neg h]
        exact ⟨4, rfl, Nat.le_refl _⟩
    refine ⟨(n : Int), congrArg (fun z => [V.int z]) hn, by omega, by omega, fun D nD => ?_⟩
    refine lc_range (lo := 0) (n := (n : Int).toNat) (fun i H1 => Same H H1 ∧ H1 D = some (.lst ((List.replicate i true).map V.bl))) ⟨same_upd nD, upd_same⟩ ?_ ?_
    · rintro i H1 hi ⟨s1, hD⟩
      rw [show (0 : Int) + (i : Int) = ((i : Nat) : Int) by omega]
      refine ⟨rfl, _, rfl, _, rfl, a, ns, i, rfl, s1.seq ha, fun H2 p s2 np hp => ?_⟩
      refine ⟨p, rfl, hp, fun H3 sb3 => ?_⟩
      have s12 := s1
      have hD2 := s2 _ _ hD
      have ne_Dp : D ≠ p := ne_of_none hD np
      have hD3 := sb3 _ _ ne_Dp hD2
      have fp : H p = none := s1.free np
      refine ⟨_, hD3, by rw [List.length_map, List.length_replicate]; omega, Same.put (SameBut.same sb3 (s1.trans s2) fp) nD, ?_⟩
      rw [upd_same, List.replicate_succ', List.map_append]
      rfl
    · rintro H1 ⟨s1, hD⟩
      refine ⟨D, _, rfl, SqL.of hD, ?_⟩
      rw [all_true]
      exact q _
end
end K87
namespace K87
open PySem PySem.Spec PyProof.Rows L2

theorem all_mk {l : PySem.W.OpenLaw} {w : World} {K : PySem.W.Frag} {h : Heap} {mg : Str → Option Value} {fa C : Addr} {mst : Tok} {f0 f1 f2 f3 f4 f5 f6 f7 f8 f9 f10 f11 f12 f13 f14 f15 f16 f17 f18 f19 f20 f21 f22 fI fO : Addr} (X : K.In h) (G : h.Ns mainGlobals mg) (hfa : mg "law" = some (.ref fa))
    {od0 an0 od1 an1 od2 an2 od3 an3 od4 an4 od5 an5 od6 an6 od7 an7 od8 an8 od9 an9 od10 an10 od11 an11 od12 an12 od13 an13 od14 an14 od15 an15 od16 an16 od17 an17 od18 an18 od19 an19 od20 an20 od21 an21 od22 an22 odI anI odO anO : Option Addr} {sl0 sl1 sl2 sl3 sl4 sl5 sl6 sl7 sl8 sl9 sl10 sl11 sl12 sl13 sl14 sl15 sl16 sl17 sl18 sl19 sl20 sl21 sl22 slI slO : Array (Option Value)} {oc0 kV0 dc0 pm0 cd0 ct0 oc1 kV1 dc1 pm1 cd1 ct1 oc2 kV2 dc2 pm2 cd2 ct2 oc3 kV3 dc3 pm3 cd3 ct3 oc4 kV4 dc4 pm4 cd4 ct4 oc5 kV5 dc5 pm5 cd5 ct5 oc6 kV6 dc6 pm6 cd6 ct6 oc7 kV7 dc7 pm7 cd7 ct7 oc8 kV8 dc8 pm8 cd8 ct8 oc9 kV9 dc9 pm9 cd9 ct9 oc10 kV10 dc10 pm10 cd10 ct10 oc11 kV11 dc11 pm11 cd11 ct11 oc12 kV12 dc12 pm12 cd12 ct12 oc13 kV13 dc13 pm13 cd13 ct13 oc14 kV14 dc14 pm14 cd14 ct14 oc15 kV15 dc15 pm15 cd15 ct15 oc16 kV16 dc16 pm16 cd16 ct16 oc17 kV17 dc17 pm17 cd17 ct17 oc18 kV18 dc18 pm18 cd18 ct18 oc19 kV19 dc19 pm19 cd19 ct19 oc20 kV20 dc20 pm20 cd20 ct20 oc21 kV21 dc21 pm21 cd21 ct21 oc22 kV22 dc22 pm22 cd22 ct22 ocI kVI dcI pmI cdI ctI ocO kVO dcO pmO cdO ctO : Value}
    (a0 : PySem.W.nsIn K mainGlobals "later_than" = some (some (.ref f0)))
    (l0 : K.lookup f0 = some ⟨oc0, od0, .func (PySem.W.fnOf "later_than" "later_than" (defArgs sLater) (defBody sLater) (defScope sLater) .none kV0 dc0 pm0 an0 cd0 ct0), sl0⟩)
    (c0 : PySem.W.codeIn K cd0 "later_than" = true)
    (k0 : PySem.W.keepIn K (.ref f0) = true)
    (a1 : PySem.W.nsIn K mainGlobals "levels" = some (some (.ref f1)))
    (l1 : K.lookup f1 = some ⟨oc1, od1, .func (PySem.W.fnOf "levels" "levels" (defArgs sLevels) (defBody sLevels) (defScope sLevels) .none kV1 dc1 pm1 an1 cd1 ct1), sl1⟩)
    (c1 : PySem.W.codeIn K cd1 "levels" = true)
    (k1 : PySem.W.keepIn K (.ref f1) = true)
    (a2 : PySem.W.nsIn K mainGlobals "parts_with" = some (some (.ref f2)))
    (l2 : K.lookup f2 = some ⟨oc2, od2, .func (PySem.W.fnOf "parts_with" "parts_with" (defArgs sParts) (defBody sParts) (defScope sParts) .none kV2 dc2 pm2 an2 cd2 ct2), sl2⟩)
    (c2 : PySem.W.codeIn K cd2 "parts_with" = true)
    (k2 : PySem.W.keepIn K (.ref f2) = true)
    (a3 : PySem.W.nsIn K mainGlobals "peeled" = some (some (.ref f3)))
    (l3 : K.lookup f3 = some ⟨oc3, od3, .func (PySem.W.fnOf "peeled" "peeled" (defArgs sPeeled) (defBody sPeeled) (defScope sPeeled) .none kV3 dc3 pm3 an3 cd3 ct3), sl3⟩)
    (c3 : PySem.W.codeIn K cd3 "peeled" = true)
    (k3 : PySem.W.keepIn K (.ref f3) = true)
    (a4 : PySem.W.nsIn K mainGlobals "rounds" = some (some (.ref f4)))
    (l4 : K.lookup f4 = some ⟨oc4, od4, .func (PySem.W.fnOf "rounds" "rounds" (defArgs sRounds) (defBody sRounds) (defScope sRounds) .none kV4 dc4 pm4 an4 cd4 ct4), sl4⟩)
    (c4 : PySem.W.codeIn K cd4 "rounds" = true)
    (k4 : PySem.W.keepIn K (.ref f4) = true)
    (a5 : PySem.W.nsIn K mainGlobals "book" = some (some (.ref f5)))
    (l5 : K.lookup f5 = some ⟨oc5, od5, .func (PySem.W.fnOf "book" "book" (defArgs sBook) (defBody sBook) (defScope sBook) .none kV5 dc5 pm5 an5 cd5 ct5), sl5⟩)
    (c5 : PySem.W.codeIn K cd5 "book" = true)
    (k5 : PySem.W.keepIn K (.ref f5) = true)
    (a6 : PySem.W.nsIn K mainGlobals "serves" = some (some (.ref f6)))
    (l6 : K.lookup f6 = some ⟨oc6, od6, .func (PySem.W.fnOf "serves" "serves" (defArgs sServes) (defBody sServes) (defScope sServes) .none kV6 dc6 pm6 an6 cd6 ct6), sl6⟩)
    (c6 : PySem.W.codeIn K cd6 "serves" = true)
    (k6 : PySem.W.keepIn K (.ref f6) = true)
    (a7 : PySem.W.nsIn K mainGlobals "reach" = some (some (.ref f7)))
    (l7 : K.lookup f7 = some ⟨oc7, od7, .func (PySem.W.fnOf "reach" "reach" (defArgs sReach) (defBody sReach) (defScope sReach) .none kV7 dc7 pm7 an7 cd7 ct7), sl7⟩)
    (c7 : PySem.W.codeIn K cd7 "reach" = true)
    (k7 : PySem.W.keepIn K (.ref f7) = true)
    (a8 : PySem.W.nsIn K mainGlobals "is_more" = some (some (.ref f8)))
    (l8 : K.lookup f8 = some ⟨oc8, od8, .func (PySem.W.fnOf "is_more" "is_more" (defArgs sMore) (defBody sMore) (defScope sMore) .none kV8 dc8 pm8 an8 cd8 ct8), sl8⟩)
    (c8 : PySem.W.codeIn K cd8 "is_more" = true)
    (k8 : PySem.W.keepIn K (.ref f8) = true)
    (a9 : PySem.W.nsIn K mainGlobals "greatest" = some (some (.ref f9)))
    (l9 : K.lookup f9 = some ⟨oc9, od9, .func (PySem.W.fnOf "greatest" "greatest" (defArgs sGreat) (defBody sGreat) (defScope sGreat) .none kV9 dc9 pm9 an9 cd9 ct9), sl9⟩)
    (c9 : PySem.W.codeIn K cd9 "greatest" = true)
    (k9 : PySem.W.keepIn K (.ref f9) = true)
    (a10 : PySem.W.nsIn K mainGlobals "hope" = some (some (.ref f10)))
    (l10 : K.lookup f10 = some ⟨oc10, od10, .func (PySem.W.fnOf "hope" "hope" (defArgs sHope) (defBody sHope) (defScope sHope) .none kV10 dc10 pm10 an10 cd10 ct10), sl10⟩)
    (c10 : PySem.W.codeIn K cd10 "hope" = true)
    (k10 : PySem.W.keepIn K (.ref f10) = true)
    (a11 : PySem.W.nsIn K mainGlobals "lasts" = some (some (.ref f11)))
    (l11 : K.lookup f11 = some ⟨oc11, od11, .func (PySem.W.fnOf "lasts" "lasts" (defArgs sLasts) (defBody sLasts) (defScope sLasts) .none kV11 dc11 pm11 an11 cd11 ct11), sl11⟩)
    (c11 : PySem.W.codeIn K cd11 "lasts" = true)
    (k11 : PySem.W.keepIn K (.ref f11) = true)
    (a12 : PySem.W.nsIn K mainGlobals "_law_pot" = some (some (.ref f12)))
    (l12 : K.lookup f12 = some ⟨oc12, od12, .func (PySem.W.fnOf "_law_pot" "_law_pot" (defArgs sPot) (defBody sPot) (defScope sPot) .none kV12 dc12 pm12 an12 cd12 ct12), sl12⟩)
    (c12 : PySem.W.codeIn K cd12 "_law_pot" = true)
    (k12 : PySem.W.keepIn K (.ref f12) = true)
    (a13 : PySem.W.nsIn K mainGlobals "_law_take" = some (some (.ref f13)))
    (l13 : K.lookup f13 = some ⟨oc13, od13, .func (PySem.W.fnOf "_law_take" "_law_take" (defArgs sTake) (defBody sTake) (defScope sTake) .none kV13 dc13 pm13 an13 cd13 ct13), sl13⟩)
    (c13 : PySem.W.codeIn K cd13 "_law_take" = true)
    (k13 : PySem.W.keepIn K (.ref f13) = true)
    (a14 : PySem.W.nsIn K mainGlobals "_law_of" = some (some (.ref f14)))
    (l14 : K.lookup f14 = some ⟨oc14, od14, .func (PySem.W.fnOf "_law_of" "_law_of" (defArgs sOf) (defBody sOf) (defScope sOf) .none kV14 dc14 pm14 an14 cd14 ct14), sl14⟩)
    (c14 : PySem.W.codeIn K cd14 "_law_of" = true)
    (k14 : PySem.W.keepIn K (.ref f14) = true)
    (a15 : PySem.W.nsIn K mainGlobals "_law_web" = some (some (.ref f15)))
    (l15 : K.lookup f15 = some ⟨oc15, od15, .func (PySem.W.fnOf "_law_web" "_law_web" (defArgs sWeb) (defBody sWeb) (defScope sWeb) .none kV15 dc15 pm15 an15 cd15 ct15), sl15⟩)
    (c15 : PySem.W.codeIn K cd15 "_law_web" = true)
    (k15 : PySem.W.keepIn K (.ref f15) = true)
    (a16 : PySem.W.nsIn K mainGlobals "_law_called" = some (some (.ref f16)))
    (l16 : K.lookup f16 = some ⟨oc16, od16, .func (PySem.W.fnOf "_law_called" "_law_called" (defArgs sCalled) (defBody sCalled) (defScope sCalled) .none kV16 dc16 pm16 an16 cd16 ct16), sl16⟩)
    (c16 : PySem.W.codeIn K cd16 "_law_called" = true)
    (k16 : PySem.W.keepIn K (.ref f16) = true)
    (a17 : PySem.W.nsIn K mainGlobals "_law_led" = some (some (.ref f17)))
    (l17 : K.lookup f17 = some ⟨oc17, od17, .func (PySem.W.fnOf "_law_led" "_law_led" (defArgs sLed) (defBody sLed) (defScope sLed) .none kV17 dc17 pm17 an17 cd17 ct17), sl17⟩)
    (c17 : PySem.W.codeIn K cd17 "_law_led" = true)
    (k17 : PySem.W.keepIn K (.ref f17) = true)
    (a18 : PySem.W.nsIn K mainGlobals "_law_paired" = some (some (.ref f18)))
    (l18 : K.lookup f18 = some ⟨oc18, od18, .func (PySem.W.fnOf "_law_paired" "_law_paired" (defArgs sPaired) (defBody sPaired) (defScope sPaired) .none kV18 dc18 pm18 an18 cd18 ct18), sl18⟩)
    (c18 : PySem.W.codeIn K cd18 "_law_paired" = true)
    (k18 : PySem.W.keepIn K (.ref f18) = true)
    (a19 : PySem.W.nsIn K mainGlobals "_law_without" = some (some (.ref f19)))
    (l19 : K.lookup f19 = some ⟨oc19, od19, .func (PySem.W.fnOf "_law_without" "_law_without" (defArgs sWithout) (defBody sWithout) (defScope sWithout) .none kV19 dc19 pm19 an19 cd19 ct19), sl19⟩)
    (c19 : PySem.W.codeIn K cd19 "_law_without" = true)
    (k19 : PySem.W.keepIn K (.ref f19) = true)
    (a20 : PySem.W.nsIn K mainGlobals "_law_is_longer" = some (some (.ref f20)))
    (l20 : K.lookup f20 = some ⟨oc20, od20, .func (PySem.W.fnOf "_law_is_longer" "_law_is_longer" (defArgs sLonger) (defBody sLonger) (defScope sLonger) .none kV20 dc20 pm20 an20 cd20 ct20), sl20⟩)
    (c20 : PySem.W.codeIn K cd20 "_law_is_longer" = true)
    (k20 : PySem.W.keepIn K (.ref f20) = true)
    (a21 : PySem.W.nsIn K mainGlobals "_law_right" = some (some (.ref f21)))
    (l21 : K.lookup f21 = some ⟨oc21, od21, .func (PySem.W.fnOf "_law_right" "_law_right" (defArgs sRight) (defBody sRight) (defScope sRight) .none kV21 dc21 pm21 an21 cd21 ct21), sl21⟩)
    (c21 : PySem.W.codeIn K cd21 "_law_right" = true)
    (k21 : PySem.W.keepIn K (.ref f21) = true)
    (a22 : PySem.W.nsIn K mainGlobals "law" = some (some (.ref f22)))
    (l22 : K.lookup f22 = some ⟨oc22, od22, .func (PySem.W.fnOf "law" "law" (defArgs sLaw) (defBody sLaw) (defScope sLaw) .none kV22 dc22 pm22 an22 cd22 ct22), sl22⟩)
    (c22 : PySem.W.codeIn K cd22 "law" = true)
    (k22 : PySem.W.keepIn K (.ref f22) = true)
    (aI : PySem.W.findIn K (.ref C) "__init__" = some (some (.ref fI)))
    (iI : PySem.W.isFn K (.ref fI) = true)
    (lI : K.lookup fI = some ⟨ocI, odI, .func (PySem.W.fnOf "__init__" "Hopes.__init__" (defArgs sInit) (defBody sInit) (defScope sInit) .none kVI dcI pmI anI cdI ctI), slI⟩)
    (cI : PySem.W.codeIn K cdI "Hopes.__init__" = true)
    (kI : PySem.W.keepIn K (.ref fI) = true)
    (aO : PySem.W.findIn K (.ref C) "hope_of" = some (some (.ref fO)))
    (iO : PySem.W.isFn K (.ref fO) = true)
    (lO : K.lookup fO = some ⟨ocO, odO, .func (PySem.W.fnOf "hope_of" "Hopes.hope_of" (defArgs sHopeOf) (defBody sHopeOf) (defScope sHopeOf) .none kVO dcO pmO anO cdO ctO), slO⟩)
    (cO : PySem.W.codeIn K cdO "Hopes.hope_of" = true)
    (kO : PySem.W.keepIn K (.ref fO) = true)
    (aC : PySem.W.nsIn K mainGlobals "Hopes" = some (some (.ref C)))
    (pg : PySem.W.plainGet K C Str.empty = true)
    (hd : PySem.W.hasDictIn K C = true)
    (po : PySem.W.plainOver K C = true)
    (sa : PySem.W.findIn K (.ref C) "__setattr__" = some (some (.builtin "object.__setattr__")))
    (mk : PySem.W.makesIn K C = true)
    (kc : PySem.W.keepIn K (.ref C) = true)
    (nT : PySem.W.findIn K (.ref C) "table" = some none)
    (mS : PySem.W.nsIn K mainGlobals "MOST_SLOTS" = some (some (.int 5 mst)))
    (z_range : PySem.W.nsIn K mainGlobals "range" = some none)
    (z_list : PySem.W.nsIn K mainGlobals "list" = some none)
    (z_len : PySem.W.nsIn K mainGlobals "len" = some none)
    (z_max : PySem.W.nsIn K mainGlobals "max" = some none)
    (z_min : PySem.W.nsIn K mainGlobals "min" = some none)
    (z_sorted : PySem.W.nsIn K mainGlobals "sorted" = some none)
    (z_tuple : PySem.W.nsIn K mainGlobals "tuple" = some none)
    (z_abs : PySem.W.nsIn K mainGlobals "abs" = some none)
    (z_int : PySem.W.nsIn K mainGlobals "int" = some none)
    (z_all : PySem.W.nsIn K mainGlobals "all" = some none)
    : ∃ fd : FuncData, (∀ (s : Shared) (v : Value), BindsTo s fd ⟨[v], []⟩ [("_law_script", v)]) ∧ ∀ base : Heap, K.In base → base.Ns mainGlobals mg → FnOk l.prog w K mg base CX0 8 fa fd ["_law_script"] (spLaw K) := by
  have e := hfa.symm.trans (PySem.W.mg_of X G a22)
  cases e
  have B : Blt mg := ⟨PySem.W.mg_none_of X G z_range, PySem.W.mg_none_of X G z_list, PySem.W.mg_none_of X G z_len, PySem.W.mg_none_of X G z_max, PySem.W.mg_none_of X G z_min, PySem.W.mg_none_of X G z_sorted, PySem.W.mg_none_of X G z_tuple, PySem.W.mg_none_of X G z_abs, PySem.W.mg_none_of X G z_int, PySem.W.mg_none_of X G z_all⟩
  have T : HC K C := ⟨⟨pg, hd, po, sa⟩, nT⟩
  have F0 := fun_mk (st := sLater) l0 c0 k0
  have b0 := F0.binds (ps := ["lot"]) fun _ _ _ _ _ _ us hl => match us, hl with | [_], _ => rfl
  have m0 := PySem.W.mg_of X G a0
  have F1 := fun_mk (st := sLevels) l1 c1 k1
  have b1 := F1.binds (ps := ["lot", "most"]) fun _ _ _ _ _ _ us hl => match us, hl with | [_, _], _ => rfl
  have m1 := PySem.W.mg_of X G a1
  have F2 := fun_mk (st := sParts) l2 c2 k2
  have b2 := F2.binds (ps := ["row", "mark"]) fun _ _ _ _ _ _ us hl => match us, hl with | [_, _], _ => rfl
  have m2 := PySem.W.mg_of X G a2
  have F3 := fun_mk (st := sPeeled) l3 c3 k3
  have b3 := F3.binds (ps := ["above"]) fun _ _ _ _ _ _ us hl => match us, hl with | [_], _ => rfl
  have m3 := PySem.W.mg_of X G a3
  have F4 := fun_mk (st := sRounds) l4 c4 k4
  have b4 := F4.binds (ps := ["lot", "n"]) fun _ _ _ _ _ _ us hl => match us, hl with | [_, _], _ => rfl
  have m4 := PySem.W.mg_of X G a4
  have F5 := fun_mk (st := sBook) l5 c5 k5
  have b5 := F5.binds (ps := ["lot", "n"]) fun _ _ _ _ _ _ us hl => match us, hl with | [_, _], _ => rfl
  have m5 := PySem.W.mg_of X G a5
  have F6 := fun_mk (st := sServes) l6 c6 k6
  have b6 := F6.binds (ps := ["lot", "n"]) fun _ _ _ _ _ _ us hl => match us, hl with | [_, _], _ => rfl
  have m6 := PySem.W.mg_of X G a6
  have F7 := fun_mk (st := sReach) l7 c7 k7
  have b7 := F7.binds (ps := ["lot"]) fun _ _ _ _ _ _ us hl => match us, hl with | [_], _ => rfl
  have m7 := PySem.W.mg_of X G a7
  have F8 := fun_mk (st := sMore) l8 c8 k8
  have b8 := F8.binds (ps := ["one", "other"]) fun _ _ _ _ _ _ us hl => match us, hl with | [_, _], _ => rfl
  have m8 := PySem.W.mg_of X G a8
  have F9 := fun_mk (st := sGreat) l9 c9 k9
  have b9 := F9.binds (ps := ["hopes"]) fun _ _ _ _ _ _ us hl => match us, hl with | [_], _ => rfl
  have m9 := PySem.W.mg_of X G a9
  have F10 := fun_mk (st := sHope) l10 c10 k10
  have b10 := F10.binds (ps := ["lot", "n", "row"]) fun _ _ _ _ _ _ us hl => match us, hl with | [_, _, _], _ => rfl
  have m10 := PySem.W.mg_of X G a10
  have F11 := fun_mk (st := sLasts) l11 c11 k11
  have b11 := F11.binds (ps := ["lot", "n"]) fun _ _ _ _ _ _ us hl => match us, hl with | [_, _], _ => rfl
  have m11 := PySem.W.mg_of X G a11
  have F12 := fun_mk (st := sPot) l12 c12 k12
  have b12 := F12.binds (ps := ["_law_script", "_law_k"]) fun _ _ _ _ _ _ us hl => match us, hl with | [_, _], _ => rfl
  have m12 := PySem.W.mg_of X G a12
  have F13 := fun_mk (st := sTake) l13 c13 k13
  have b13 := F13.binds (ps := ["_law_pot_here", "_law_wide"]) fun _ _ _ _ _ _ us hl => match us, hl with | [_, _], _ => rfl
  have m13 := PySem.W.mg_of X G a13
  have F14 := fun_mk (st := sOf) l14 c14 k14
  have b14 := F14.binds (ps := ["_law_pot_here", "_law_some"]) fun _ _ _ _ _ _ us hl => match us, hl with | [_, _], _ => rfl
  have m14 := PySem.W.mg_of X G a14
  have F15 := fun_mk (st := sWeb) l15 c15 k15
  have b15 := F15.binds (ps := ["_law_pot_here", "_law_most"]) fun _ _ _ _ _ _ us hl => match us, hl with | [_, _], _ => rfl
  have m15 := PySem.W.mg_of X G a15
  have F16 := fun_mk (st := sCalled) l16 c16 k16
  have b16 := F16.binds (ps := ["_law_web_here", "_law_names"]) fun _ _ _ _ _ _ us hl => match us, hl with | [_, _], _ => rfl
  have m16 := PySem.W.mg_of X G a16
  have F17 := fun_mk (st := sLed) l17 c17 k17
  have b17 := F17.binds (ps := ["_law_some", "_law_names"]) fun _ _ _ _ _ _ us hl => match us, hl with | [_, _], _ => rfl
  have m17 := PySem.W.mg_of X G a17
  have F18 := fun_mk (st := sPaired) l18 c18 k18
  have b18 := F18.binds (ps := ["_law_pot_here", "_law_web_here"]) fun _ _ _ _ _ _ us hl => match us, hl with | [_, _], _ => rfl
  have m18 := PySem.W.mg_of X G a18
  have F19 := fun_mk (st := sWithout) l19 c19 k19
  have b19 := F19.binds (ps := ["_law_pot_here", "_law_web_here"]) fun _ _ _ _ _ _ us hl => match us, hl with | [_, _], _ => rfl
  have m19 := PySem.W.mg_of X G a19
  have F20 := fun_mk (st := sLonger) l20 c20 k20
  have b20 := F20.binds (ps := ["_law_one", "_law_other"]) fun _ _ _ _ _ _ us hl => match us, hl with | [_, _], _ => rfl
  have m20 := PySem.W.mg_of X G a20
  have F21 := fun_mk (st := sRight) l21 c21 k21
  have b21 := F21.binds (ps := ["_law_pot_here"]) fun _ _ _ _ _ _ us hl => match us, hl with | [_], _ => rfl
  have m21 := PySem.W.mg_of X G a21
  have F22 := fun_mk (st := sLaw) l22 c22 k22
  have b22 := F22.binds (ps := ["_law_script"]) fun _ _ _ _ _ _ us hl => match us, hl with | [_], _ => rfl
  have m22 := PySem.W.mg_of X G a22
  have FI := fun_mk (st := sInit) lI cI kI
  have bI := FI.binds (ps := ["self", "lot", "n"]) fun _ _ _ _ _ _ us hl => match us, hl with | [_, _, _], _ => rfl
  have FO := fun_mk (st := sHopeOf) lO cO kO
  have bO := FO.binds (ps := ["self", "row"]) fun _ _ _ _ _ _ us hl => match us, hl with | [_, _], _ => rfl
  refine ⟨PySem.W.fnOf "law" "law" (defArgs sLaw) (defBody sLaw) (defScope sLaw) .none kV22 dc22 pm22 an22 cd22 ct22, fun s v => .of_eq rfl, fun base _ _ => ?_⟩
  have K0 : Cl l.prog w K mg base 1 "later_than" ["lot"] spLater := Cl.of F0 (ok_later F0 B) m0 b0
  have K1 : Cl l.prog w K mg base 2 "levels" ["lot", "most"] spLevels := Cl.of F1 (ok_levels (k := 0) F1 B K0) m1 b1
  have K2 : Cl l.prog w K mg base 1 "parts_with" ["row", "mark"] spParts := Cl.of F2 (ok_parts F2 B) m2 b2
  have K3 : Cl l.prog w K mg base 2 "peeled" ["above"] spPeeled := Cl.of F3 (ok_peeled (k := 0) F3 B K2) m3 b3
  have K4 : Cl l.prog w K mg base 3 "rounds" ["lot", "n"] spRounds := Cl.of F4 (ok_rounds (k := 0) F4 B K1 K3) m4 b4
  have K5 : Cl l.prog w K mg base 3 "book" ["lot", "n"] spBook := Cl.of F5 (ok_book (k := 0) F5 B K1 K3) m5 b5
  have K6 : Cl l.prog w K mg base 4 "serves" ["lot", "n"] spServes := Cl.of F6 (ok_serves (k := 0) F6 K5) m6 b6
  have K7 : Cl l.prog w K mg base 5 "reach" ["lot"] spReach := Cl.of F7 (ok_reach (k := 0) F7 (PySem.W.mg_of X G mS) K6) m7 b7
  have K8 : Cl l.prog w K mg base 1 "is_more" ["one", "other"] spMore := Cl.of F8 (ok_more F8) m8 b8
  have K9 : Cl l.prog w K mg base 2 "greatest" ["hopes"] spGreat := Cl.of F9 (ok_great (k := 0) F9 K8) m9 b9
  have OI := ok_init (P := l.prog) (w := w) (base := base) FI T B K1 K3 K9
  have OO := ok_hopeOf (P := l.prog) (w := w) (mg := mg) (base := base) (k := 0) FO T
  have K10 : Cl l.prog w K mg base 5 "hope" ["lot", "n", "row"] spHope := Cl.of F10 (ok_hope F10 T ⟨mk, aI, iI, kc⟩ (PySem.W.mg_of X G aC) OI bI ⟨aO, iO, kO⟩ OO bO) m10 b10
  have K11 : Cl l.prog w K mg base 6 "lasts" ["lot", "n"] spLasts := Cl.of F11 (ok_lasts F11 K10) m11 b11
  have K12 : Cl l.prog w K mg base 1 "_law_pot" ["_law_script", "_law_k"] (spPot K) := Cl.of F12 (ok_pot F12 B) m12 b12
  have K13 : Cl l.prog w K mg base 1 "_law_take" ["_law_pot_here", "_law_wide"] spTake := Cl.of F13 (ok_take F13) m13 b13
  have K14 : Cl l.prog w K mg base 2 "_law_of" ["_law_pot_here", "_law_some"] spOf := Cl.of F14 (ok_of F14 B K13) m14 b14
  have K15 : Cl l.prog w K mg base 2 "_law_web" ["_law_pot_here", "_law_most"] spWeb := Cl.of F15 (ok_web F15 B K13) m15 b15
  have K16 : Cl l.prog w K mg base 1 "_law_called" ["_law_web_here", "_law_names"] spCalled := Cl.of F16 (ok_called F16 B) m16 b16
  have K17 : Cl l.prog w K mg base 1 "_law_led" ["_law_some", "_law_names"] spLed := Cl.of F17 (ok_led F17 B) m17 b17
  have K18 : Cl l.prog w K mg base 3 "_law_paired" ["_law_pot_here", "_law_web_here"] spPaired := Cl.of F18 (ok_paired F18 B K14) m18 b18
  have K19 : Cl l.prog w K mg base 2 "_law_without" ["_law_pot_here", "_law_web_here"] spWithout := Cl.of F19 (ok_without F19 B K13) m19 b19
  have K20 : Cl l.prog w K mg base 1 "_law_is_longer" ["_law_one", "_law_other"] spLonger := Cl.of F20 (ok_longer F20) m20 b20
  have K21 : Cl l.prog w K mg base 7 "_law_right" ["_law_pot_here"] spRight := Cl.of F21 (ok_right F21 B ⟨K13, K15, K16, K17, K18, K19, K20, K7, K5, K4, K11⟩) m21 b21
  exact ok_law F22 B K21 K12
theorem walk {l : PySem.W.OpenLaw} {q : Program} {loose : List Str} {XP : (Str → Option Value) → Heap → Prop} {YP : World → Heap → Prop} {d : DefRec} {K : Params → PySem.W.Frag} (hn : l.most = some 63) (hdf : d.params.defaults = [])
    (hY : ∀ (w : World) (h : Heap), YP w h → (K w.params).In h)
    (F : ∀ (w : World) (mg : Str → Option Value) (fa : Addr) (h : Heap), (K w.params).In h → h.Ns mainGlobals mg → mg d.name = some (.ref fa) →
      ∃ fd : FuncData, (∀ (s : Shared) (u : Value), BindsTo s fd ⟨[u], []⟩ [("_law_script", u)]) ∧ ∀ base : Heap, (K w.params).In base → base.Ns mainGlobals mg → FnOk l.prog w (K w.params) mg base CX0 8 fa fd ["_law_script"] (spLaw (K w.params))) :
    PySem.W.WalkO q loose XP YP l.row.toRowW d [] (fun f vs => PySem.call f vs) :=
  L2.walk_of (n := 63) (k := 8) (x := "_law_script") (CX := fun _ => CX0) (sp := fun w => spLaw (K w.params)) hn (by decide) hdf ⟨rfl, by decide, by decide⟩ hY F (fun _ _ a ns hl _ hS => ⟨a, ns, rfl, hS, hl, fun _ => rfl⟩) fun _ _ _ _ _ z => z
end K87
open PySem PySem.W PyProof.Rows
set_option maxRecDepth 100000 in
set_option maxHeartbeats 0 in
theorem PySem.Challenge.cw_everlater_k87_whole_more_pairs_longer_holds : PySem.Challenge.rw_everlater_k87_whole_more_pairs_longer.Holds := by
  w_on; o_law; k_head; (case hw => w_witness2)
  k_fill
  refine K87.walk (l := PySem.Challenge.rw_everlater_k87_whole_more_pairs_longer) rfl rfl (fun w h Y => PySem.W.kIn_of Y) ?F
  case F =>
    intro w mg fa h KX G hmg
    refine' K87.all_mk KX G hmg ?a0 ?l0 ?c0 ?k0 ?a1 ?l1 ?c1 ?k1 ?a2 ?l2 ?c2 ?k2 ?a3 ?l3 ?c3 ?k3 ?a4 ?l4 ?c4 ?k4 ?a5 ?l5 ?c5 ?k5 ?a6 ?l6 ?c6 ?k6 ?a7 ?l7 ?c7 ?k7 ?a8 ?l8 ?c8 ?k8 ?a9 ?l9 ?c9 ?k9 ?a10 ?l10 ?c10 ?k10 ?a11 ?l11 ?c11 ?k11 ?a12 ?l12 ?c12 ?k12 ?a13 ?l13 ?c13 ?k13 ?a14 ?l14 ?c14 ?k14 ?a15 ?l15 ?c15 ?k15 ?a16 ?l16 ?c16 ?k16 ?a17 ?l17 ?c17 ?k17 ?a18 ?l18 ?c18 ?k18 ?a19 ?l19 ?c19 ?k19 ?a20 ?l20 ?c20 ?k20 ?a21 ?l21 ?c21 ?k21 ?a22 ?l22 ?c22 ?k22 ?aI ?iI ?lI ?cI ?kI ?aO ?iO ?lO ?cO ?kO ?aC ?pg ?hd ?po ?sa ?mk ?kc ?nT ?mS ?z_range ?z_list ?z_len ?z_max ?z_min ?z_sorted ?z_tuple ?z_abs ?z_int ?z_all
    (case a0 => k_is); (case l0 => k_is); (case c0 => k_is); (case k0 => k_is); (case a1 => k_is); (case l1 => k_is); (case c1 => k_is); (case k1 => k_is)
    (case a2 => k_is); (case l2 => k_is); (case c2 => k_is); (case k2 => k_is); (case a3 => k_is); (case l3 => k_is); (case c3 => k_is); (case k3 => k_is)
    (case a4 => k_is); (case l4 => k_is); (case c4 => k_is); (case k4 => k_is); (case a5 => k_is); (case l5 => k_is); (case c5 => k_is); (case k5 => k_is)
    (case a6 => k_is); (case l6 => k_is); (case c6 => k_is); (case k6 => k_is); (case a7 => k_is); (case l7 => k_is); (case c7 => k_is); (case k7 => k_is)
    (case a8 => k_is); (case l8 => k_is); (case c8 => k_is); (case k8 => k_is); (case a9 => k_is); (case l9 => k_is); (case c9 => k_is); (case k9 => k_is)
    (case a10 => k_is); (case l10 => k_is); (case c10 => k_is); (case k10 => k_is); (case a11 => k_is); (case l11 => k_is); (case c11 => k_is); (case k11 => k_is)
    (case a12 => k_is); (case l12 => k_is); (case c12 => k_is); (case k12 => k_is); (case a13 => k_is); (case l13 => k_is); (case c13 => k_is); (case k13 => k_is)
    (case a14 => k_is); (case l14 => k_is); (case c14 => k_is); (case k14 => k_is); (case a15 => k_is); (case l15 => k_is); (case c15 => k_is); (case k15 => k_is)
    (case a16 => k_is); (case l16 => k_is); (case c16 => k_is); (case k16 => k_is); (case a17 => k_is); (case l17 => k_is); (case c17 => k_is); (case k17 => k_is)
    (case a18 => k_is); (case l18 => k_is); (case c18 => k_is); (case k18 => k_is); (case a19 => k_is); (case l19 => k_is); (case c19 => k_is); (case k19 => k_is)
    (case a20 => k_is); (case l20 => k_is); (case c20 => k_is); (case k20 => k_is); (case a21 => k_is); (case l21 => k_is); (case c21 => k_is); (case k21 => k_is)
    (case a22 => k_is); (case l22 => k_is); (case c22 => k_is); (case k22 => k_is); (case aC => k_is); (case aI => k_is); (case iI => k_is); (case lI => k_is)
    (case cI => k_is); (case kI => k_is); (case aO => k_is); (case iO => k_is); (case lO => k_is); (case cO => k_is); (case kO => k_is); (case pg => k_is)
    (case hd => k_is); (case po => k_is); (case sa => k_is); (case mk => k_is); (case kc => k_is); (case nT => k_is); (case mS => k_is); (case z_range => k_is)
    (case z_list => k_is); (case z_len => k_is); (case z_max => k_is); (case z_min => k_is); (case z_sorted => k_is); (case z_tuple => k_is); (case z_abs => k_is); (case z_int => k_is)
    (case z_all => k_is)
