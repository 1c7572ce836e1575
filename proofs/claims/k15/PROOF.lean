import PyProof.Rows.All
import Wide.All
import OpenK.AllK
import Wide.FinOn
import HandS.ForMost
import HandS.Deep
import HandS.IsInst
import HandS.Zip
import HandS.Walk
import HandS.TupSets
import HandS.Style
import KE.KDictDisplayH
import KE.SortData
import KE.KDictKeyed
import KE.KDictSum
import KE.GoesNew
import PyProof.ListStr
import PyProof.StrOps2
import PyProof.P3In
import PyProof.NeKinds
import HandS.TupAny
import HandS.Text
import HandS.Iter
import PySem.Challenge.RW_turnfriends_k15_whole_classes
set_option autoImplicit false
namespace TF

/-! ### looks -/
inductive Lk where
  | O | X | Y | Z
  deriving DecidableEq

def Lk.plus : Lk → Lk → Lk
  | .O, b => b
  | a, .O => a
  | .X, .X => .O
  | .X, .Y => .Z
  | .X, .Z => .Y
  | .Y, .X => .Z
  | .Y, .Y => .O
  | .Y, .Z => .X
  | .Z, .X => .Y
  | .Z, .Y => .X
  | .Z, .Z => .O
instance : Add Lk := ⟨Lk.plus⟩
theorem lk_O_add (a : Lk) : Lk.O + a = a := by cases a <;> rfl
theorem lk_add_O (a : Lk) : a + Lk.O = a := by cases a <;> rfl
theorem lk_comm (a b : Lk) : a + b = b + a := by cases a <;> cases b <;> rfl
theorem lk_assoc (a b c : Lk) : a + b + c = a + (b + c) := by cases a <;> cases b <;> cases c <;> rfl
theorem lk_self (a : Lk) : a + a = Lk.O := by cases a <;> rfl
theorem lk_cancel (a b : Lk) : a + b + b = a := by rw [lk_assoc, lk_self, lk_add_O]

/-! ### halls -/
abbrev Hall := Nat × List (Nat × Nat)

def allPairs (n : Nat) : List (Nat × Nat) := (List.range n).flatMap fun x => (List.range' (x + 1) (n - (x + 1))).map fun y => (x, y)
theorem mem_allPairs {n : Nat} {p : Nat × Nat} : p ∈ allPairs n ↔ p.1 < p.2 ∧ p.2 < n := by
  unfold allPairs
  rw [List.mem_flatMap]
  constructor
  · rintro ⟨x, hx, hp⟩
    obtain ⟨y, hy, rfl⟩ := List.mem_map.mp hp
    have h1 := List.mem_range.mp hx
    have h2 := List.mem_range'_1.mp hy
    exact ⟨by show x < y; omega, by show y < n; omega⟩
  · rintro ⟨h1, h2⟩
    refine ⟨p.1, List.mem_range.mpr (by omega), List.mem_map.mpr ⟨p.2, List.mem_range'_1.mpr (by omega), rfl⟩⟩

def adj (h : Hall) (x y : Nat) : Bool := decide ((min x y, max x y) ∈ h.2)
theorem adj_comm (h : Hall) (x y : Nat) : adj h x y = adj h y x := by
  unfold adj
  rw [Nat.min_comm, Nat.max_comm]
/-- a hall in its form: its pairs stand as they stand among all -/
def Can (h : Hall) : Prop := h.2 = (allPairs h.1).filter fun p => decide (p ∈ h.2)
theorem Can.mem {h : Hall} (c : Can h) {p : Nat × Nat} (hp : p ∈ h.2) : p.1 < p.2 ∧ p.2 < h.1 := by
  rw [c] at hp
  exact mem_allPairs.mp (List.mem_filter.mp hp).1
theorem can_filter (n : Nat) (f : Nat × Nat → Bool) : Can (n, (allPairs n).filter f) := by
  show (allPairs n).filter f = (allPairs n).filter fun p => decide (p ∈ (allPairs n).filter f)
  refine List.filter_congr fun p hp => ?_
  cases e : f p with
  | true => exact (decide_eq_true (List.mem_filter.mpr ⟨hp, e⟩)).symm
  | false => exact (decide_eq_false fun m => by rw [(List.mem_filter.mp m).2] at e; cases e).symm
theorem can_filter_of {n : Nat} {l : List (Nat × Nat)} {f : Nat × Nat → Bool} (e : l = (allPairs n).filter f) : Can (n, l) := by
  rw [e]
  exact can_filter n f
theorem adj_mem {h : Hall} {x y : Nat} (l : x < y) : adj h x y = decide ((x, y) ∈ h.2) := by
  unfold adj
  rw [Nat.min_eq_left (Nat.le_of_lt l), Nat.max_eq_right (Nat.le_of_lt l)]
theorem Can.self {h : Hall} (c : Can h) (x : Nat) : adj h x x = false := by
  refine decide_eq_false fun m => ?_
  have q := (c.mem m).1
  have e1 : min x x = x := Nat.min_self x
  have e2 : max x x = x := Nat.max_self x
  rw [e1, e2] at q
  exact Nat.lt_irrefl _ q
theorem Can.lt {h : Hall} (c : Can h) {x y : Nat} (a : adj h x y = true) : x < h.1 ∧ y < h.1 ∧ x ≠ y := by
  have m := of_decide_eq_true a
  have q := c.mem m
  have q1 : min x y < max x y := q.1
  have q2 : max x y < h.1 := q.2
  refine ⟨Nat.lt_of_le_of_lt (Nat.le_max_left x y) q2, Nat.lt_of_le_of_lt (Nat.le_max_right x y) q2, fun e => ?_⟩
  subst e
  rw [Nat.min_self, Nat.max_self] at q1
  exact Nat.lt_irrefl _ q1
theorem can_ext {h g : Hall} (ch : Can h) (cg : Can g) (e : h.1 = g.1) (m : ∀ x y, x < y → y < h.1 → adj h x y = adj g x y) : h = g := by
  obtain ⟨n, l⟩ := h
  obtain ⟨n', l'⟩ := g
  have e' : n = n' := e
  subst e'
  have : l = l' := by
    rw [show l = _ from ch, show l' = _ from cg]
    refine List.filter_congr fun p hp => ?_
    have q := mem_allPairs.mp hp
    have := m p.1 p.2 q.1 q.2
    rw [adj_mem q.1, adj_mem q.1] at this
    exact this
  rw [this]

def turn (h : Hall) (x : Nat) : Hall := (h.1, (allPairs h.1).filter fun p => (decide (p ∈ h.2)) != (adj h x p.1 && adj h x p.2))
theorem turn_can (h : Hall) (x : Nat) : Can (turn h x) := can_filter _ _
theorem turn_one (h : Hall) (x : Nat) : (turn h x).1 = h.1 := rfl
theorem adj_turn_lt {h : Hall} {x y z : Nat} (l : y < z) (hz : z < h.1) : adj (turn h x) y z = (adj h y z != (adj h x y && adj h x z)) := by
  rw [adj_mem l, adj_mem l]
  have hp : (y, z) ∈ allPairs h.1 := mem_allPairs.mpr ⟨l, hz⟩
  cases e : (decide ((y, z) ∈ h.2) != (adj h x y && adj h x z)) with
  | true => exact decide_eq_true (List.mem_filter.mpr ⟨hp, e⟩)
  | false =>
    refine decide_eq_false fun m => ?_
    have q : (decide ((y, z) ∈ h.2) != (adj h x y && adj h x z)) = true := (List.mem_filter.mp m).2
    rw [q] at e
    cases e
theorem adj_turn {h : Hall} {x y z : Nat} (hy : y < h.1) (hz : z < h.1) (ne : y ≠ z) : adj (turn h x) y z = (adj h y z != (adj h x y && adj h x z)) := by
  rcases Nat.lt_or_gt_of_ne ne with l | l
  · exact adj_turn_lt l hz
  · rw [adj_comm (turn h x), adj_turn_lt l hy, adj_comm h z y, Bool.and_comm]
theorem adj_turn_x {h : Hall} (c : Can h) {x y : Nat} (hx : x < h.1) (hy : y < h.1) : adj (turn h x) x y = adj h x y := by
  by_cases e : x = y
  · subst e
    rw [(turn_can h x).self, c.self]
  · rw [adj_turn hx hy e, c.self, Bool.false_and]
    cases adj h x y <;> rfl
theorem turn_turn {h : Hall} (c : Can h) {x : Nat} (hx : x < h.1) : turn (turn h x) x = h := by
  refine can_ext (turn_can _ _) c rfl fun y z l hz => ?_
  have hz' : z < h.1 := hz
  have hy' : y < h.1 := Nat.lt_trans l hz'
  rw [adj_turn (h := turn h x) hy' hz' (Nat.ne_of_lt l), adj_turn_x c hx hy', adj_turn_x c hx hz', adj_turn hy' hz' (Nat.ne_of_lt l)]
  cases adj h y z <;> cases (adj h x y && adj h x z) <;> rfl

/-! ### what turns lead to -/
inductive Reach (h : Hall) : Hall → Prop where
  | refl : Reach h h
  | step {g : Hall} {x : Nat} : Reach h g → x < h.1 → Reach h (turn g x)
theorem Reach.one {h g : Hall} (r : Reach h g) : g.1 = h.1 := by
  induction r with
  | refl => rfl
  | step _ _ ih => rw [turn_one]; exact ih
theorem Reach.can {h g : Hall} (r : Reach h g) (c : Can h) : Can g := by
  cases r with
  | refl => exact c
  | step _ _ => exact turn_can _ _
theorem Reach.trans {h g k : Hall} (r : Reach h g) (q : Reach g k) : Reach h k := by
  induction q with
  | refl => exact r
  | step _ hx ih => exact .step ih (by rw [← r.one]; exact hx)
theorem Reach.symm {h g : Hall} (c : Can h) (r : Reach h g) : Reach g h := by
  induction r with
  | refl => exact .refl
  | @step k x r' hx ih =>
    have ck := r'.can c
    have hk : x < k.1 := by rw [r'.one]; exact hx
    have s : Reach (turn k x) k := by
      have := Reach.step (h := turn k x) (g := turn k x) (x := x) .refl hk
      rw [turn_turn ck hk] at this
      exact this
    exact s.trans ih

/-! ### steps -/
structure Stp where
  c : List Lk
  b : List Lk
  g : Hall
  deriving DecidableEq

def gt (l : List Lk) (i : Nat) : Lk := l.getD i .O
theorem gt_set_eq {l : List Lk} {i : Nat} {v : Lk} (h : i < l.length) : gt (l.set i v) i = v := by
  unfold gt
  rw [List.getD_eq_getElem?_getD, List.getElem?_set_self h]
  rfl
theorem gt_set_ne {l : List Lk} {i j : Nat} {v : Lk} (h : i ≠ j) : gt (l.set i v) j = gt l j := by
  unfold gt
  rw [List.getD_eq_getElem?_getD, List.getElem?_set_ne h, ← List.getD_eq_getElem?_getD]
theorem gt_ext {l m : List Lk} (e : l.length = m.length) (h : ∀ i, i < l.length → gt l i = gt m i) : l = m := by
  refine List.ext_getElem e fun i h1 h2 => ?_
  have := h i h1
  unfold gt at this
  rw [List.getD_eq_getElem?_getD, List.getD_eq_getElem?_getD, List.getElem?_eq_getElem h1, List.getElem?_eq_getElem h2] at this
  exact this
theorem gt_map {n : Nat} {f : Nat → Lk} {i : Nat} (h : i < n) : gt ((List.range n).map f) i = f i := by
  unfold gt
  rw [List.getD_eq_getElem?_getD, List.getElem?_map, List.getElem?_range h]
  rfl

/-- the bases behind a turn at x -/
def bases' (s : Stp) (x : Nat) : List Lk := (List.range s.b.length).map fun y => if adj s.g x y then gt s.b y + gt s.c y else gt s.b y
def third (s : Stp) (x : Nat) : Stp := ⟨s.c.set x (gt s.c x + gt s.b x), bases' s x, turn s.g x⟩
structure Good (s : Stp) : Prop where
  can : Can s.g
  lc : s.c.length = s.g.1
  lb : s.b.length = s.g.1
  cO : ∀ i, i < s.g.1 → gt s.c i ≠ .O
  bO : ∀ i, i < s.g.1 → gt s.b i ≠ .O
  ne : ∀ i, i < s.g.1 → gt s.b i ≠ gt s.c i
section
variable {s : Stp}
theorem gt_bases {x y : Nat} (G : Good s) (hy : y < s.g.1) : gt (bases' s x) y = if adj s.g x y then gt s.b y + gt s.c y else gt s.b y := gt_map (by rw [G.lb]; exact hy)
theorem third_len {x : Nat} (G : Good s) : (third s x).b.length = s.g.1 := by
  show (bases' s x).length = _
  unfold bases'
  rw [List.length_map, List.length_range, G.lb]
theorem third_c_x {x : Nat} (G : Good s) (hx : x < s.g.1) : gt (third s x).c x = gt s.c x + gt s.b x := gt_set_eq (by rw [G.lc]; exact hx)
theorem third_c_ne {x y : Nat} (h : x ≠ y) : gt (third s x).c y = gt s.c y := gt_set_ne h
theorem third_b {x y : Nat} (G : Good s) (hy : y < s.g.1) : gt (third s x).b y = if adj s.g x y then gt s.b y + gt s.c y else gt s.b y := gt_bases G hy
theorem third_b_x {x : Nat} (G : Good s) (hx : x < s.g.1) : gt (third s x).b x = gt s.b x := by
  rw [third_b G hx, G.can.self]
  rfl
theorem lk_new {b c : Lk} (h1 : c ≠ .O) (h2 : b ≠ .O) (h3 : b ≠ c) : b + c ≠ .O ∧ b + c ≠ c ∧ b + c ≠ b := by
  revert h1 h2 h3
  cases b <;> cases c <;> decide
theorem third_good {x : Nat} (G : Good s) (hx : x < s.g.1) : Good (third s x) where
  can := turn_can _ _
  lc := by
    show (s.c.set x _).length = s.g.1
    rw [List.length_set, G.lc]
  lb := third_len G
  cO := fun i hi => by
    have hi' : i < s.g.1 := hi
    by_cases e : x = i
    · subst e
      rw [third_c_x G hi', lk_comm]
      exact (lk_new (G.cO x hi') (G.bO x hi') (G.ne x hi')).1
    · rw [third_c_ne e]
      exact G.cO i hi'
  bO := fun i hi => by
    have hi' : i < s.g.1 := hi
    rw [third_b G hi']
    split
    · exact (lk_new (G.cO i hi') (G.bO i hi') (G.ne i hi')).1
    · exact G.bO i hi'
  ne := fun i hi => by
    have hi' : i < s.g.1 := hi
    have q := lk_new (G.cO i hi') (G.bO i hi') (G.ne i hi')
    by_cases e : x = i
    · subst e
      rw [third_c_x G hi', third_b_x G hi', lk_comm]
      exact q.2.2.symm
    · rw [third_c_ne e, third_b G hi']
      split
      · exact q.2.1
      · exact G.ne i hi'
theorem third_third {x : Nat} (G : Good s) (hx : x < s.g.1) : third (third s x) x = s := by
  have G1 := third_good G hx
  have G2 := third_good G1 hx
  obtain ⟨c, b, g⟩ := s
  have e1 : (third (third ⟨c, b, g⟩ x) x).c = c := by
    refine gt_ext (G2.lc.trans G.lc.symm) fun i hi => ?_
    have hi' : i < g.1 := by rw [G2.lc] at hi; exact hi
    by_cases e : x = i
    · subst e
      rw [third_c_x G1 hi', third_c_x G hi', third_b_x G hi']
      exact lk_cancel _ _
    · rw [third_c_ne e, third_c_ne e]
  have e2 : (third (third ⟨c, b, g⟩ x) x).b = b := by
    refine gt_ext (G2.lb.trans G.lb.symm) fun i hi => ?_
    have hi' : i < g.1 := by rw [G2.lb] at hi; exact hi
    rw [third_b G1 hi']
    have ea : adj (third ⟨c, b, g⟩ x).g x i = adj g x i := adj_turn_x G.can hx hi'
    rw [ea, third_b G hi']
    cases ead : adj g x i with
    | false => rfl
    | true =>
      have ne : x ≠ i := (G.can.lt ead).2.2
      rw [third_c_ne ne]
      exact lk_cancel _ _
  have e3 : (third (third ⟨c, b, g⟩ x) x).g = g := turn_turn G.can hx
  show Stp.mk _ _ _ = _
  exact (by rw [show (third (third ⟨c, b, g⟩ x) x) = ⟨(third (third ⟨c, b, g⟩ x) x).c, (third (third ⟨c, b, g⟩ x) x).b, (third (third ⟨c, b, g⟩ x) x).g⟩ from rfl, e1, e2, e3] : third (third ⟨c, b, g⟩ x) x = ⟨c, b, g⟩)
end

/-! ### rows and what they span -/
def row (s : Stp) (x : Nat) : Nat → Lk := fun z => if z = x then gt s.b x else if adj s.g x z then gt s.c z else .O
inductive Span (s : Stp) : (Nat → Lk) → Prop where
  | zero : Span s fun _ => .O
  | add {v : Nat → Lk} {x : Nat} : Span s v → x < s.g.1 → Span s fun z => v z + row s x z
theorem row_third_x {s : Stp} {x : Nat} (G : Good s) (hx : x < s.g.1) : row (third s x) x = row s x := by
  funext z
  unfold row
  by_cases e : z = x
  · rw [if_pos e, if_pos e, third_b_x G hx]
  · rw [if_neg e, if_neg e, third_c_ne (Ne.symm e)]
    by_cases hz : z < s.g.1
    · have : adj (third s x).g x z = adj s.g x z := adj_turn_x G.can hx hz
      rw [this]
    · have e1 : adj (third s x).g x z = false := by
        cases q : adj (third s x).g x z with
        | false => rfl
        | true => exact absurd ((turn_can _ _ : Can (third s x).g).lt q).2.1 hz
      have e2 : adj s.g x z = false := by
        cases q : adj s.g x z with
        | false => rfl
        | true => exact absurd (G.can.lt q).2.1 hz
      rw [e1, e2]
theorem row_third {s : Stp} {x y : Nat} (G : Good s) (hx : x < s.g.1) (hy : y < s.g.1) (ne : y ≠ x) : row (third s x) y = fun z => if adj s.g x y then row s y z + row s x z else row s y z := by
  funext z
  have far : ∀ w, ¬ z < s.g.1 → adj s.g w z = false ∧ adj (third s x).g w z = false := fun w hz => by
    constructor
    · cases q : adj s.g w z with
      | false => rfl
      | true => exact absurd (G.can.lt q).2.1 hz
    · cases q : adj (third s x).g w z with
      | false => rfl
      | true => exact absurd ((turn_can _ _ : Can (third s x).g).lt q).2.1 hz
  unfold row
  by_cases e : z = y
  · subst e
    rw [if_pos rfl, if_pos rfl, if_neg ne, third_b G hy]
    cases adj s.g x z <;> rfl
  · rw [if_neg e, if_neg e]
    by_cases hz : z < s.g.1
    · have ea : adj (third s x).g y z = (adj s.g y z != (adj s.g x y && adj s.g x z)) := adj_turn hy hz (Ne.symm e)
      rw [ea]
      by_cases ex : z = x
      · subst ex
        rw [G.can.self, Bool.and_false, if_pos rfl, third_c_x G hx, adj_comm s.g y z]
        cases adj s.g z y
        · rfl
        · rfl
      · rw [if_neg ex, third_c_ne (Ne.symm ex)]
        cases adj s.g y z <;> cases adj s.g x y <;> cases adj s.g x z <;> simp [lk_O_add, lk_add_O, lk_self]
    · have q1 := far y hz
      have q2 := far x hz
      have ex : z ≠ x := fun q => hz (q ▸ hx)
      rw [if_neg ex, q1.1, q1.2, q2.1]
      cases adj s.g x y <;> rfl
theorem Span.plus {s : Stp} {v w : Nat → Lk} (hv : Span s v) (hw : Span s w) : Span s fun z => v z + w z := by
  induction hw with
  | zero =>
    have : (fun z => v z + Lk.O) = v := by funext z; rw [lk_add_O]
    rw [this]; exact hv
  | @add w x _ hx ih =>
    have : (fun z => v z + (w z + row s x z)) = fun z => (fun z => v z + w z) z + row s x z := by funext z; rw [lk_assoc]
    rw [this]
    exact .add ih hx
theorem Span.row {s : Stp} {x : Nat} (hx : x < s.g.1) : Span s (row s x) := by
  have := Span.add (s := s) .zero hx
  have e : (fun z => Lk.O + TF.row s x z) = TF.row s x := by funext z; rw [lk_O_add]
  rw [e] at this
  exact this
theorem span_third_to {s : Stp} {x : Nat} (G : Good s) (hx : x < s.g.1) {v : Nat → Lk} (h : Span (third s x) v) : Span s v := by
  induction h with
  | zero => exact .zero
  | @add v y _ hy ih =>
    have hy' : y < s.g.1 := hy
    refine ih.plus ?_
    by_cases e : y = x
    · subst e
      rw [row_third_x G hx]
      exact .row hx
    · rw [row_third G hx hy' e]
      cases adj s.g x y with
      | true =>
        simp only [if_true]
        exact (Span.row hy').plus (.row hx)
      | false =>
        simp only [Bool.false_eq_true, if_false]
        exact .row hy'
theorem span_third {s : Stp} {x : Nat} (G : Good s) (hx : x < s.g.1) (v : Nat → Lk) : Span (third s x) v ↔ Span s v := by
  refine ⟨span_third_to G hx, fun h => ?_⟩
  have G1 := third_good G hx
  have : Span (third (third s x) x) v := by rw [third_third G hx]; exact h
  exact span_third_to G1 hx this

/-- the part of a look that a choice does not have -/
def off (v c : Lk) : Bool := decide (v ≠ .O ∧ v ≠ c)
def comb (s : Stp) (S : Nat → Bool) : Nat → Nat → Lk
  | 0, _ => .O
  | n + 1, z => comb s S n z + if S n then row s n z else .O
theorem comb_same (s : Stp) {S T : Nat → Bool} : ∀ n, (∀ x, x < n → S x = T x) → comb s S n = comb s T n
  | 0, _ => rfl
  | n + 1, h => by
    funext z
    show comb s S n z + _ = comb s T n z + _
    rw [comb_same s n fun x hx => h x (Nat.lt_succ_of_lt hx), h n (Nat.lt_succ_self n)]
theorem comb_zero (s : Stp) : ∀ n z, comb s (fun _ => false) n z = .O
  | 0, _ => rfl
  | n + 1, z => by
    show comb s _ n z + _ = _
    rw [comb_zero s n z]
    rfl
theorem comb_flip (s : Stp) (S : Nat → Bool) (x : Nat) : ∀ n, x < n → ∀ z, comb s (fun y => S y != decide (y = x)) n z = comb s S n z + row s x z
  | 0, h, _ => absurd h (Nat.not_lt_zero _)
  | n + 1, h, z => by
    show comb s (fun y => S y != decide (y = x)) n z + (if (S n != decide (n = x)) = true then row s n z else Lk.O) = comb s S n z + (if S n = true then row s n z else Lk.O) + row s x z
    by_cases e : n = x
    · subst e
      have : comb s (fun y => S y != decide (y = n)) n = comb s S n := comb_same s n fun y hy => by
        rw [decide_eq_false (Nat.ne_of_lt hy)]
        cases S y <;> rfl
      rw [this, decide_eq_true rfl]
      cases S n with
      | true => simp [lk_add_O, lk_cancel]
      | false => simp [lk_add_O]
    · rw [comb_flip s S x n (by omega) z, decide_eq_false e]
      have e2 : (S n != false) = S n := by cases S n <;> rfl
      rw [e2, lk_assoc, lk_assoc, lk_comm (row s x z)]
theorem off_add_self {v b c : Lk} (h1 : c ≠ .O) (h2 : b ≠ .O) (h3 : b ≠ c) : off (v + b) c = !off v c := by
  revert h1 h2 h3
  cases v <;> cases b <;> cases c <;> decide
theorem off_add_c {v c : Lk} (k : Bool) (h1 : c ≠ .O) : off (v + (if k = true then c else Lk.O)) c = off v c := by
  revert h1
  cases k <;> cases v <;> cases c <;> decide
theorem span_comb {s : Stp} (G : Good s) {v : Nat → Lk} (h : Span s v) : v = comb s (fun z => off (v z) (gt s.c z)) s.g.1 := by
  induction h with
  | zero =>
    funext z
    have : (fun z => off Lk.O (gt s.c z)) = fun _ => false := by
      funext z
      exact decide_eq_false fun q => q.1 rfl
    rw [this, comb_zero]
  | @add v x _ hx ih =>
    have e : comb s (fun z => off (v z + row s x z) (gt s.c z)) s.g.1 = comb s (fun z => off (v z) (gt s.c z) != decide (z = x)) s.g.1 := by
      refine comb_same s _ fun z hz => ?_
      unfold row
      by_cases e : z = x
      · subst e
        rw [if_pos rfl, off_add_self (G.cO z hz) (G.bO z hz) (G.ne z hz), decide_eq_true rfl]
        cases off (v z) (gt s.c z) <;> rfl
      · rw [if_neg e, off_add_c _ (G.cO z hz), decide_eq_false e]
        cases off (v z) (gt s.c z) <;> rfl
    rw [e]
    funext z
    rw [comb_flip s _ x _ hx z, ← ih]
theorem off_row {s : Stp} (G : Good s) {x z : Nat} (hz : z < s.g.1) : off (row s x z) (gt s.c z) = decide (z = x) := by
  unfold row
  by_cases e : z = x
  · subst e
    rw [if_pos rfl, decide_eq_true rfl]
    exact decide_eq_true ⟨G.bO z hz, G.ne z hz⟩
  · rw [if_neg e, decide_eq_false e]
    cases adj s.g x z with
    | true => exact decide_eq_false fun q => q.2 rfl
    | false => exact decide_eq_false fun q => q.1 rfl
theorem comb_one (s : Stp) {x : Nat} : ∀ n, x < n → comb s (fun z => decide (z = x)) n = row s x := fun n hx => by
  funext z
  have := comb_flip s (fun _ => false) x n hx z
  rw [comb_zero, lk_O_add] at this
  rw [← this]
  exact congrFun (comb_same s n fun y _ => by cases decide (y = x) <;> rfl) z
/-- a choice tells all of its step -/
theorem step_inj {s t : Stp} (G : Good s) (G' : Good t) (eg : t.g.1 = s.g.1) (ec : t.c = s.c) (sp : ∀ v, Span t v ↔ Span s v) : t = s := by
  have er : ∀ x, x < s.g.1 → row t x = row s x := fun x hx => by
    have hx' : x < t.g.1 := by rw [eg]; exact hx
    have h1 : Span s (row t x) := (sp _).mp (.row hx')
    rw [span_comb G h1]
    have e : comb s (fun z => off (row t x z) (gt s.c z)) s.g.1 = comb s (fun z => decide (z = x)) s.g.1 := comb_same s _ fun z hz => by
      have := off_row G' (x := x) (z := z) (by rw [eg]; exact hz)
      rw [ec] at this
      exact this
    rw [e, comb_one s _ hx]
  have eb : t.b = s.b := by
    refine gt_ext (by rw [G'.lb, G.lb, eg]) fun i hi => ?_
    have hi' : i < s.g.1 := by rw [G'.lb, eg] at hi; exact hi
    have := congrFun (er i hi') i
    unfold row at this
    rw [if_pos rfl, if_pos rfl] at this
    exact this
  have eg' : t.g = s.g := by
    refine can_ext G'.can G.can eg fun x y l hy => ?_
    have hy' : y < s.g.1 := by rw [← eg]; exact hy
    have := congrFun (er x (Nat.lt_trans l hy')) y
    unfold row at this
    rw [if_neg (Nat.ne_of_gt l), if_neg (Nat.ne_of_gt l), ec] at this
    revert this
    have := G.cO y hy'
    cases adj t.g x y <;> cases adj s.g x y <;> simp [this, Ne.symm this]
  obtain ⟨c, b, g⟩ := s
  obtain ⟨c', b', g'⟩ := t
  have e1 : c' = c := ec
  have e2 : b' = b := eb
  have e3 : g' = g := eg'
  rw [e1, e2, e3]

/-! ### steps that come -/
def start (h : Hall) : Stp := ⟨List.replicate h.1 .Z, List.replicate h.1 .X, h⟩
theorem gt_rep {n i : Nat} {a : Lk} (h : i < n) : gt (List.replicate n a) i = a := by
  unfold gt
  rw [List.getD_eq_getElem?_getD, List.getElem?_replicate, if_pos h]
  rfl
theorem start_good {h : Hall} (c : Can h) : Good (start h) where
  can := c
  lc := List.length_replicate
  lb := List.length_replicate
  cO := fun i hi => by
    have : gt (start h).c i = .Z := gt_rep hi
    rw [this]; decide
  bO := fun i hi => by
    have : gt (start h).b i = .X := gt_rep hi
    rw [this]; decide
  ne := fun i hi => by
    have e1 : gt (start h).c i = .Z := gt_rep hi
    have e2 : gt (start h).b i = .X := gt_rep hi
    rw [e1, e2]; decide
inductive ReachS (h : Hall) : Stp → Prop where
  | refl : ReachS h (start h)
  | step {s : Stp} {x : Nat} : ReachS h s → x < h.1 → ReachS h (third s x)
theorem ReachS.one {h : Hall} {s : Stp} (r : ReachS h s) : s.g.1 = h.1 := by
  induction r with
  | refl => rfl
  | step _ _ ih => exact ih
theorem ReachS.good {h : Hall} {s : Stp} (c : Can h) (r : ReachS h s) : Good s := by
  induction r with
  | refl => exact start_good c
  | step r' hx ih => exact third_good ih (by rw [r'.one]; exact hx)
theorem ReachS.span {h : Hall} {s : Stp} (c : Can h) (r : ReachS h s) : ∀ v, Span s v ↔ Span (start h) v := by
  induction r with
  | refl => exact fun v => Iff.rfl
  | step r' hx ih => exact fun v => (span_third (r'.good c) (by rw [r'.one]; exact hx) v).trans (ih v)
theorem reach_inj {h : Hall} (c : Can h) {s t : Stp} (rs : ReachS h s) (rt : ReachS h t) (e : t.c = s.c) : t = s :=
  step_inj (rs.good c) (rt.good c) (by rw [rt.one, rs.one]) e fun v => (rt.span c v).trans (rs.span c v).symm
theorem ReachS.hall {h : Hall} {s : Stp} (r : ReachS h s) : Reach h s.g := by
  induction r with
  | refl => exact .refl
  | step _ hx ih => exact .step ih hx
theorem reach_step {h g : Hall} (r : Reach h g) : ∃ s, ReachS h s ∧ s.g = g := by
  induction r with
  | refl => exact ⟨_, .refl, rfl⟩
  | @step g x _ hx ih =>
    obtain ⟨s, r, rfl⟩ := ih
    exact ⟨_, .step r hx, rfl⟩

end TF
set_option autoImplicit false
namespace TF

/-! ### lists without repeats -/
theorem nodup_le {α : Type} [DecidableEq α] : ∀ {A B : List α}, A.Nodup → (∀ x ∈ A, x ∈ B) → A.length ≤ B.length
  | [], _, _, _ => Nat.zero_le _
  | a :: A, B, h, hs => by
    obtain ⟨h1, h2⟩ := List.nodup_cons.mp h
    have ha : a ∈ B := hs a List.mem_cons_self
    have ih := nodup_le (A := A) (B := B.erase a) h2 fun x hx => by
      have ne : x ≠ a := fun e => h1 (e ▸ hx)
      exact (List.mem_erase_of_ne ne).mpr (hs x (List.mem_cons_of_mem _ hx))
    rw [List.length_erase_of_mem ha] at ih
    have : 0 < B.length := List.length_pos_of_mem ha
    rw [List.length_cons]
    omega
theorem nodup_eq {α : Type} [DecidableEq α] {A B : List α} (ha : A.Nodup) (hb : B.Nodup) (h : ∀ x, x ∈ A ↔ x ∈ B) : A.length = B.length :=
  Nat.le_antisymm (nodup_le ha fun x => (h x).mp) (nodup_le hb fun x => (h x).mpr)
theorem nodup_of_map {α β : Type} {f : α → β} : ∀ {A : List α}, (A.map f).Nodup → A.Nodup
  | [], _ => List.nodup_nil
  | a :: A, h => by
    obtain ⟨h1, h2⟩ := List.nodup_cons.mp h
    exact List.nodup_cons.mpr ⟨fun m => h1 (List.mem_map.mpr ⟨a, m, rfl⟩), nodup_of_map h2⟩
theorem nodup_map {α β : Type} {f : α → β} : ∀ {A : List α}, A.Nodup → (∀ x ∈ A, ∀ y ∈ A, f x = f y → x = y) → (A.map f).Nodup
  | [], _, _ => List.nodup_nil
  | a :: A, h, hf => by
    obtain ⟨h1, h2⟩ := List.nodup_cons.mp h
    refine List.nodup_cons.mpr ⟨fun m => ?_, nodup_map h2 fun x hx y hy => hf x (List.mem_cons_of_mem _ hx) y (List.mem_cons_of_mem _ hy)⟩
    obtain ⟨y, hy, e⟩ := List.mem_map.mp m
    exact h1 (hf y (List.mem_cons_of_mem _ hy) a List.mem_cons_self e ▸ hy)
theorem nodup_filter {α : Type} {p : α → Bool} {A : List α} (h : A.Nodup) : (A.filter p).Nodup := List.Pairwise.filter p h

/-! ### choices that leave nothing over -/
def Fine (h : Hall) (t : List Lk) : Prop := t.length = h.1 ∧ (∀ i, i < h.1 → gt t i ≠ .O) ∧
  ∀ v, Span (start h) v → (∀ z, z < h.1 → v z = .O ∨ v z = gt t z) → ∀ z, z < h.1 → v z = .O
theorem fine_of_reach {h : Hall} (c : Can h) {s : Stp} (r : ReachS h s) : Fine h s.c := by
  have G := r.good c
  have e1 := r.one
  refine ⟨by rw [G.lc, e1], fun i hi => G.cO i (by rw [e1]; exact hi), fun v hv hz z hlt => ?_⟩
  have hv' : Span s v := (r.span c v).mpr hv
  rw [span_comb G hv']
  have : comb s (fun z => off (v z) (gt s.c z)) s.g.1 = comb s (fun _ => false) s.g.1 := comb_same s _ fun y hy => by
    refine decide_eq_false fun q => ?_
    rcases hz y (by rw [← e1]; exact hy) with e | e
    · exact q.1 e
    · exact q.2 e
  rw [this, comb_zero]
def unlike (n : Nat) (s : Stp) (t : List Lk) : List Nat := (List.range n).filter fun z => decide (gt s.c z ≠ gt t z)
theorem mem_unlike {n : Nat} {s : Stp} {t : List Lk} {z : Nat} : z ∈ unlike n s t ↔ z < n ∧ gt s.c z ≠ gt t z := by
  unfold unlike
  rw [List.mem_filter, List.mem_range, decide_eq_true_eq]
theorem unlike_less {n : Nat} {s s' : Stp} {t : List Lk} {x : Nat} (hx : x ∈ unlike n s t) (hx' : x ∉ unlike n s' t) (h : ∀ z, z ∈ unlike n s' t → z ∈ unlike n s t) : (unlike n s' t).length < (unlike n s t).length := by
  have nd : (unlike n s' t).Nodup := nodup_filter List.nodup_range
  have : (x :: unlike n s' t).length ≤ (unlike n s t).length := nodup_le (List.nodup_cons.mpr ⟨hx', nd⟩) fun y hy => by
    rcases List.mem_cons.mp hy with e | hy
    · rw [e]; exact hx
    · exact h y hy
  rw [List.length_cons] at this
  exact this
theorem lk_third {c b t : Lk} (h1 : c ≠ .O) (h2 : b ≠ .O) (h3 : b ≠ c) (h4 : t ≠ .O) (h5 : c ≠ t) (h6 : b ≠ t) : c + b = t := by
  revert h1 h2 h3 h4 h5 h6
  cases c <;> cases b <;> cases t <;> decide
theorem reach_of_fine {h : Hall} (c : Can h) {t : List Lk} (f : Fine h t) : ∀ (k : Nat) (s : Stp), ReachS h s → (unlike h.1 s t).length ≤ k → ∃ s', ReachS h s' ∧ s'.c = t
  | k, s, r, hk => by
    have G := r.good c
    have e1 := r.one
    by_cases e0 : unlike h.1 s t = []
    · refine ⟨s, r, gt_ext (by rw [G.lc, e1, f.1]) fun i hi => ?_⟩
      rw [G.lc, e1] at hi
      by_cases e : gt s.c i = gt t i
      · exact e
      · have : i ∈ unlike h.1 s t := mem_unlike.mpr ⟨hi, e⟩
        rw [e0] at this
        cases this
    cases k with
    | zero => exact absurd (List.length_eq_zero_iff.mp (Nat.le_zero.mp hk)) e0
    | succ k =>
      by_cases ef : ∃ x, x ∈ unlike h.1 s t ∧ gt s.b x ≠ gt t x
      · obtain ⟨x, hx, hb⟩ := ef
        obtain ⟨hlt, hne⟩ := mem_unlike.mp hx
        have hlt' : x < s.g.1 := by rw [e1]; exact hlt
        have ex : gt (third s x).c x = gt t x := by
          rw [third_c_x G hlt']
          exact lk_third (G.cO x hlt') (G.bO x hlt') (G.ne x hlt') (f.2.1 x hlt) hne hb
        refine reach_of_fine c f k (third s x) (.step r hlt) ?_
        have := unlike_less (s' := third s x) hx (fun m => (mem_unlike.mp m).2 ex) fun z hz => by
          obtain ⟨z1, z2⟩ := mem_unlike.mp hz
          refine mem_unlike.mpr ⟨z1, ?_⟩
          by_cases e : x = z
          · subst e; exact absurd ex z2
          · rw [third_c_ne e] at z2; exact z2
        omega
      · have all : ∀ x, x ∈ unlike h.1 s t → gt s.b x = gt t x := fun x hx => by
          by_cases e : gt s.b x = gt t x
          · exact e
          · exact absurd ⟨x, hx, e⟩ ef
        obtain ⟨x, hx⟩ := List.exists_mem_of_ne_nil _ e0
        obtain ⟨hlt, hne⟩ := mem_unlike.mp hx
        have hlt' : x < s.g.1 := by rw [e1]; exact hlt
        by_cases ey : ∃ y, y ∈ unlike h.1 s t ∧ adj s.g x y = true
        · obtain ⟨y, hy, ay⟩ := ey
          obtain ⟨hylt, hyne⟩ := mem_unlike.mp hy
          have hylt' : y < s.g.1 := by rw [e1]; exact hylt
          have nexy : x ≠ y := (G.can.lt ay).2.2
          have G1 := third_good G hlt'
          have G2 := third_good G1 (x := y) hylt'
          have a1 : adj (third s x).g x y = true := by
            have : adj (third s x).g x y = adj s.g x y := adj_turn_x G.can hlt' hylt'
            rw [this, ay]
          have a1' : adj (third s x).g y x = true := by rw [adj_comm, a1]
          have c1x : gt (third s x).c x = gt s.c x + gt s.b x := third_c_x G hlt'
          have b1x : gt (third s x).b x = gt s.b x := third_b_x G hlt'
          have c1y : gt (third s x).c y = gt s.c y := third_c_ne nexy
          have b1y : gt (third s x).b y = gt s.b y + gt s.c y := by
            rw [third_b G hylt', ay]
            rfl
          have c2y : gt (third (third s x) y).c y = gt s.b y := by
            rw [third_c_x G1 hylt', c1y, b1y, lk_comm, lk_cancel]
          have c2x : gt (third (third s x) y).c x = gt s.c x + gt s.b x := by rw [third_c_ne (Ne.symm nexy), c1x]
          have b2x : gt (third (third s x) y).b x = gt s.c x := by
            rw [third_b G1 hlt', a1']
            show gt (third s x).b x + gt (third s x).c x = _
            rw [b1x, c1x, lk_comm, lk_cancel]
          have c3x : gt (third (third (third s x) y) x).c x = gt s.b x := by
            rw [third_c_x G2 hlt', c2x, b2x, lk_comm, ← lk_assoc, lk_self, lk_O_add]
          have c3y : gt (third (third (third s x) y) x).c y = gt s.b y := by rw [third_c_ne nexy, c2y]
          have ex : gt (third (third (third s x) y) x).c x = gt t x := by rw [c3x, all x hx]
          have ey : gt (third (third (third s x) y) x).c y = gt t y := by rw [c3y, all y hy]
          refine reach_of_fine c f k _ (.step (.step (.step r hlt) hylt) hlt) ?_
          have := unlike_less (s' := third (third (third s x) y) x) hx (fun m => (mem_unlike.mp m).2 ex) fun z hz => by
            obtain ⟨z1, z2⟩ := mem_unlike.mp hz
            refine mem_unlike.mpr ⟨z1, ?_⟩
            by_cases e : x = z
            · subst e; exact absurd ex z2
            · by_cases e' : y = z
              · subst e'; exact absurd ey z2
              · rw [third_c_ne e, third_c_ne e', third_c_ne e] at z2; exact z2
          omega
        · have no : ∀ y, y < h.1 → adj s.g x y = true → gt s.c y = gt t y := fun y hy ay => by
            by_cases e : gt s.c y = gt t y
            · exact e
            · exact absurd ⟨y, mem_unlike.mpr ⟨hy, e⟩, ay⟩ ey
          have sp : Span (start h) (row s x) := (r.span c _).mp (.row hlt')
          have z := f.2.2 _ sp (fun z hz => by
            unfold row
            by_cases e : z = x
            · subst e
              rw [if_pos rfl]
              exact .inr (all z hx)
            · rw [if_neg e]
              cases az : adj s.g x z with
              | true => exact .inr (no z hz az)
              | false => exact .inl rfl) x hlt
          unfold row at z
          rw [if_pos rfl] at z
          exact absurd z (G.bO x hlt')

/-! ### all steps -/
structure AllSteps (h : Hall) (S : List Stp) : Prop where
  nd : (S.map (·.c)).Nodup
  reach : ∀ s ∈ S, ReachS h s
  first : start h ∈ S
  closed : ∀ s ∈ S, ∀ x, x < h.1 → (third s x).c ∈ S.map (·.c)
section
variable {h : Hall} {S : List Stp}
theorem AllSteps.third_mem (A : AllSteps h S) (c : Can h) {s : Stp} (hs : s ∈ S) {x : Nat} (hx : x < h.1) : third s x ∈ S := by
  obtain ⟨t, ht, e⟩ := List.mem_map.mp (A.closed s hs x hx)
  have := reach_inj c (.step (A.reach s hs) hx) (A.reach t ht) e
  rw [← this]
  exact ht
theorem AllSteps.mem (A : AllSteps h S) (c : Can h) (s : Stp) : s ∈ S ↔ ReachS h s := by
  refine ⟨A.reach s, fun r => ?_⟩
  induction r with
  | refl => exact A.first
  | step _ hx ih => exact A.third_mem c ih hx
theorem AllSteps.nodup (A : AllSteps h S) : S.Nodup := nodup_of_map A.nd

/-- a row of persons, done from the left -/
def runs (s : Stp) : List Nat → Stp
  | [] => s
  | x :: p => runs (third s x) p
theorem runs_snoc (s : Stp) (p : List Nat) (x : Nat) : runs s (p ++ [x]) = third (runs s p) x := by
  induction p generalizing s with
  | nil => rfl
  | cons y p ih => exact ih (third s y)
theorem AllSteps.runs_mem (A : AllSteps h S) (c : Can h) : ∀ (p : List Nat) (s : Stp), (∀ x ∈ p, x < h.1) → s ∈ S → runs s p ∈ S
  | [], _, _, hs => hs
  | x :: p, s, hp, hs => A.runs_mem c p (third s x) (fun y hy => hp y (List.mem_cons_of_mem _ hy)) (A.third_mem c hs (hp x List.mem_cons_self))
theorem AllSteps.runs_inj (A : AllSteps h S) (c : Can h) : ∀ (p : List Nat) (s t : Stp), (∀ x ∈ p, x < h.1) → s ∈ S → t ∈ S → runs s p = runs t p → s = t
  | [], _, _, _, _, _, e => e
  | x :: p, s, t, hp, hs, ht, e => by
    have hx := hp x List.mem_cons_self
    have e' := A.runs_inj c p (third s x) (third t x) (fun y hy => hp y (List.mem_cons_of_mem _ hy)) (A.third_mem c hs hx) (A.third_mem c ht hx) e
    have gs := (A.reach s hs).good c
    have gt' := (A.reach t ht).good c
    rw [← third_third gs (x := x) (by rw [(A.reach s hs).one]; exact hx), e', third_third gt' (by rw [(A.reach t ht).one]; exact hx)]
def runH (g : Hall) : List Nat → Hall
  | [] => g
  | x :: p => runH (turn g x) p
theorem runs_hall : ∀ (p : List Nat) (s : Stp), (runs s p).g = runH s.g p
  | [], _ => rfl
  | x :: p, s => runs_hall p (third s x)
theorem reach_row {g : Hall} (r : Reach h g) : ∃ p : List Nat, (∀ x ∈ p, x < h.1) ∧ runH h p = g := by
  induction r with
  | refl => exact ⟨[], (by intro x m; cases m), rfl⟩
  | @step g x _ hx ih =>
    obtain ⟨p, hp, e⟩ := ih
    refine ⟨p ++ [x], fun y hy => ?_, ?_⟩
    · rcases List.mem_append.mp hy with q | q
      · exact hp y q
      · rw [List.mem_singleton.mp q]; exact hx
    · have : ∀ (p : List Nat) (g : Hall), runH g (p ++ [x]) = turn (runH g p) x := by
        intro p
        induction p with
        | nil => exact fun _ => rfl
        | cons y p ih => exact fun g => ih (turn g y)
      rw [this, e]
def atHall (S : List Stp) (g : Hall) : List Stp := S.filter fun s => decide (s.g = g)
theorem mem_atHall {g : Hall} {s : Stp} : s ∈ atHall S g ↔ s ∈ S ∧ s.g = g := by
  unfold atHall
  rw [List.mem_filter, decide_eq_true_eq]
theorem AllSteps.at_le (A : AllSteps h S) (c : Can h) {g k : Hall} {p : List Nat} (hp : ∀ x ∈ p, x < h.1) (e : runH g p = k) : (atHall S g).length ≤ (atHall S k).length := by
  have nd : ((atHall S g).map fun s => runs s p).Nodup := nodup_map (nodup_filter A.nodup) fun s hs t ht e' =>
    A.runs_inj c p s t hp (mem_atHall.mp hs).1 (mem_atHall.mp ht).1 e'
  have := nodup_le (B := atHall S k) nd fun x hx => by
    obtain ⟨s, hs, rfl⟩ := List.mem_map.mp hx
    obtain ⟨h1, h2⟩ := mem_atHall.mp hs
    refine mem_atHall.mpr ⟨A.runs_mem c p s hp h1, ?_⟩
    rw [runs_hall, h2, e]
  rw [List.length_map] at this
  exact this
theorem AllSteps.at_eq (A : AllSteps h S) (c : Can h) {g : Hall} (r : Reach h g) : (atHall S g).length = (atHall S h).length := by
  obtain ⟨p, hp, e⟩ := reach_row r
  obtain ⟨q, hq, e'⟩ := reach_row (r.symm c)
  exact Nat.le_antisymm (A.at_le c (fun x hx => by rw [← r.one]; exact hq x hx) e') (A.at_le c hp e)
/-- the class as a list -/
def IsClass (h : Hall) (L : List Hall) : Prop := L.Nodup ∧ ∀ g, g ∈ L ↔ Reach h g
theorem len_split {α : Type} (p : α → Bool) : ∀ l : List α, l.length = (l.filter p).length + (l.filter fun a => !p a).length
  | [] => rfl
  | a :: l => by
    have ih := len_split p l
    rw [List.filter_cons, List.filter_cons]
    cases p a with
    | true => simp; omega
    | false => simp; omega
theorem sum_at : ∀ (L : List Hall) (S : List Stp), L.Nodup → (∀ s ∈ S, s.g ∈ L) → S.length = (L.map fun g => (atHall S g).length).sum
  | [], S, _, hs => by
    cases S with
    | nil => rfl
    | cons s S => exact nomatch hs s List.mem_cons_self
  | g :: L, S, nd, hs => by
    obtain ⟨h1, h2⟩ := List.nodup_cons.mp nd
    have e : S.length = (atHall S g).length + (S.filter fun s => !decide (s.g = g)).length := by
      unfold atHall
      exact len_split _ _
    have ih := sum_at L (S.filter fun s => !decide (s.g = g)) h2 fun s hs' => by
      obtain ⟨q1, q2⟩ := List.mem_filter.mp hs'
      rcases List.mem_cons.mp (hs s q1) with e | m
      · rw [decide_eq_true e] at q2; cases q2
      · exact m
    rw [List.map_cons, List.sum_cons, e, ih]
    congr 2
    refine List.map_congr_left fun k hk => ?_
    unfold atHall
    rw [List.filter_filter]
    refine congrArg List.length (List.filter_congr fun s _ => ?_)
    by_cases ek : s.g = k
    · have : ¬ s.g = g := fun q => h1 (q ▸ ek ▸ hk)
      rw [decide_eq_true ek, decide_eq_false this]
      rfl
    · rw [decide_eq_false ek]
      rfl
theorem AllSteps.count (A : AllSteps h S) (c : Can h) {L : List Hall} (C : IsClass h L) : S.length = L.length * (atHall S h).length := by
  rw [sum_at L S C.1 fun s hs => (C.2 _).mpr (A.reach s hs).hall]
  have : (L.map fun g => (atHall S g).length) = L.map fun _ => (atHall S h).length := List.map_congr_left fun g hg => A.at_eq c ((C.2 g).mp hg)
  rw [this]
  have : ∀ (L : List Hall) (k : Nat), (L.map fun _ => k).sum = L.length * k := by
    intro L k
    induction L with
    | nil => simp
    | cons a L ih => rw [List.map_cons, List.sum_cons, ih, List.length_cons, Nat.add_mul, Nat.one_mul, Nat.add_comm]
  exact this _ _
theorem AllSteps.own_pos (A : AllSteps h S) : 0 < (atHall S h).length := List.length_pos_of_mem (mem_atHall.mpr ⟨A.first, rfl⟩)
theorem AllSteps.div (A : AllSteps h S) (c : Can h) {L : List Hall} (C : IsClass h L) : S.length / (atHall S h).length = L.length := by
  rw [A.count c C]
  exact Nat.mul_div_cancel _ A.own_pos
theorem AllSteps.hall_mem (A : AllSteps h S) (c : Can h) {g : Hall} : g ∈ S.map (·.g) ↔ Reach h g := by
  constructor
  · intro m
    obtain ⟨s, hs, rfl⟩ := List.mem_map.mp m
    exact (A.reach s hs).hall
  · intro r
    obtain ⟨s, rs, rfl⟩ := reach_step r
    exact List.mem_map.mpr ⟨s, (A.mem c s).mpr rs, rfl⟩
end

/-! ### the law's rows and choices -/
def ownL (h : Hall) (x : Nat) : List Lk := (List.range h.1).map fun y => if y = x then .X else if adj h x y then .Z else .O
def addL (v w : List Lk) : List Lk := List.zipWith (· + ·) v w
def roomL (h : Hall) : Nat → List (List Lk)
  | 0 => [List.replicate h.1 .O]
  | k + 1 => roomL h k ++ (roomL h k).map fun v => addL v (ownL h k)
def fitsL (v t : List Lk) : Bool := (v.zip t).all fun p => decide (p.1 = .O) || decide (p.1 = p.2)
def overL (rows : List (List Lk)) (t : List Lk) : List (List Lk) := rows.filter fun v => fitsL v t
def allChoices : Nat → List (List Lk)
  | 0 => [[]]
  | n + 1 => (allChoices n).flatMap fun one => [one ++ [.X], one ++ [.Y], one ++ [.Z]]
def fineL (h : Hall) : List (List Lk) := (allChoices h.1).filter fun t => decide ((overL (roomL h h.1) t).length = 1)

def tol (n : Nat) (v : Nat → Lk) : List Lk := (List.range n).map v
theorem tol_len (n : Nat) (v : Nat → Lk) : (tol n v).length = n := by simp [tol]
theorem gt_tol {n i : Nat} {v : Nat → Lk} (h : i < n) : gt (tol n v) i = v i := gt_map h
theorem gt_addL {n i : Nat} {v w : List Lk} (hv : v.length = n) (hw : w.length = n) (h : i < n) : gt (addL v w) i = gt v i + gt w i := by
  have h1 : i < v.length := by rw [hv]; exact h
  have h2 : i < w.length := by rw [hw]; exact h
  unfold gt addL
  rw [List.getD_eq_getElem?_getD, List.getElem?_zipWith, List.getElem?_eq_getElem h1, List.getElem?_eq_getElem h2, List.getD_eq_getElem?_getD, List.getD_eq_getElem?_getD, List.getElem?_eq_getElem h1, List.getElem?_eq_getElem h2]
  rfl
theorem addL_len {n : Nat} {v w : List Lk} (hv : v.length = n) (hw : w.length = n) : (addL v w).length = n := by
  unfold addL
  rw [List.length_zipWith, hv, hw, Nat.min_self]
theorem addL_tol (n : Nat) (v w : Nat → Lk) : addL (tol n v) (tol n w) = tol n fun z => v z + w z := by
  refine gt_ext (by rw [addL_len (tol_len n v) (tol_len n w), tol_len]) fun i hi => ?_
  have hi' : i < n := by rw [addL_len (tol_len n v) (tol_len n w)] at hi; exact hi
  rw [gt_addL (tol_len n v) (tol_len n w) hi', gt_tol hi', gt_tol hi', gt_tol hi']
theorem addL_twice {n : Nat} {v w : List Lk} (hv : v.length = n) (hw : w.length = n) : addL (addL v w) w = v := by
  refine gt_ext (by rw [addL_len (addL_len hv hw) hw, hv]) fun i hi => ?_
  have hi' : i < n := by rw [addL_len (addL_len hv hw) hw] at hi; exact hi
  rw [gt_addL (addL_len hv hw) hw hi', gt_addL hv hw hi', lk_cancel]
theorem ownL_len (h : Hall) (x : Nat) : (ownL h x).length = h.1 := by simp [ownL]
theorem ownL_tol {h : Hall} {x : Nat} (hx : x < h.1) : ownL h x = tol h.1 (row (start h) x) := by
  refine gt_ext (by rw [ownL_len, tol_len]) fun i hi => ?_
  have hi' : i < h.1 := by rw [ownL_len] at hi; exact hi
  unfold ownL
  rw [gt_map hi', gt_tol hi']
  unfold row
  have e1 : gt (start h).b x = .X := gt_rep hx
  have e2 : gt (start h).c i = .Z := gt_rep hi'
  rw [e1, e2]
  rfl
theorem room_len (h : Hall) : ∀ k, ∀ v ∈ roomL h k, v.length = h.1
  | 0, v, m => by rw [List.mem_singleton.mp m, List.length_replicate]
  | k + 1, v, m => by
    rcases List.mem_append.mp m with m | m
    · exact room_len h k v m
    · obtain ⟨w, hw, rfl⟩ := List.mem_map.mp m
      exact addL_len (room_len h k w hw) (ownL_len h k)
theorem tol_zero (n : Nat) : tol n (fun _ => .O) = List.replicate n .O := by
  refine gt_ext (by rw [tol_len, List.length_replicate]) fun i hi => ?_
  have hi' : i < n := by rw [tol_len] at hi; exact hi
  rw [gt_tol hi', gt_rep hi']
theorem room_span {h : Hall} : ∀ k, k ≤ h.1 → ∀ v ∈ roomL h k, ∃ f, Span (start h) f ∧ v = tol h.1 f
  | 0, _, v, m => ⟨_, .zero, by rw [List.mem_singleton.mp m, tol_zero]⟩
  | k + 1, hk, v, m => by
    rcases List.mem_append.mp m with m | m
    · exact room_span k (by omega) v m
    · obtain ⟨w, hw, rfl⟩ := List.mem_map.mp m
      obtain ⟨f, sf, rfl⟩ := room_span k (by omega) w hw
      exact ⟨_, .add sf (x := k) hk, by rw [ownL_tol hk, addL_tol]⟩
theorem comb_room {h : Hall} (S : Nat → Bool) : ∀ k, k ≤ h.1 → tol h.1 (comb (start h) S k) ∈ roomL h k
  | 0, _ => by
    rw [show tol h.1 (comb (start h) S 0) = List.replicate h.1 .O from tol_zero h.1]
    exact List.mem_singleton.mpr rfl
  | k + 1, hk => by
    have ih := comb_room (h := h) S k (by omega)
    have e : comb (start h) S (k + 1) = fun z => comb (start h) S k z + if S k then row (start h) k z else .O := rfl
    rw [e]
    cases S k with
    | true =>
      refine List.mem_append_right _ (List.mem_map.mpr ⟨_, ih, ?_⟩)
      rw [ownL_tol hk, addL_tol]
      rfl
    | false =>
      refine List.mem_append_left _ ?_
      have e' : (fun z => comb (start h) S k z + if false = true then row (start h) k z else Lk.O) = comb (start h) S k := by
        funext z
        simp [lk_add_O]
      rw [e']
      exact ih
theorem room_low {h : Hall} : ∀ k, k ≤ h.1 → ∀ v ∈ roomL h k, ∀ z, k ≤ z → z < h.1 → off (gt v z) .Z = false
  | 0, _, v, m, z, _, hz => by
    rw [List.mem_singleton.mp m, gt_rep hz]
    decide
  | k + 1, hk, v, m, z, hkz, hz => by
    rcases List.mem_append.mp m with m | m
    · exact room_low (h := h) k (by omega) v m z (by omega) hz
    · obtain ⟨w, hw, rfl⟩ := List.mem_map.mp m
      have ih := room_low (h := h) k (by omega) w hw z (by omega) hz
      rw [gt_addL (room_len h k w hw) (ownL_len h k) hz]
      unfold ownL
      rw [gt_map hz, if_neg (show ¬ z = k by omega)]
      rw [off_add_c _ (by decide)]
      exact ih
theorem room_nodup {h : Hall} : ∀ k, k ≤ h.1 → (roomL h k).Nodup
  | 0, _ => List.nodup_cons.mpr ⟨(by intro m; cases m), List.nodup_nil⟩
  | k + 1, hk => by
    have ih := room_nodup (h := h) k (by omega)
    refine List.nodup_append.mpr ⟨ih, nodup_map ih fun v hv w hw e => ?_, fun v hv w hw e => ?_⟩
    · rw [← addL_twice (room_len h k v hv) (ownL_len h k), e, addL_twice (room_len h k w hw) (ownL_len h k)]
    · obtain ⟨u, hu, rfl⟩ := List.mem_map.mp hw
      have l1 := room_low (h := h) k (by omega) v hv k (Nat.le_refl _) hk
      have l2 := room_low (h := h) k (by omega) u hu k (Nat.le_refl _) hk
      rw [e, gt_addL (room_len h k u hu) (ownL_len h k) hk] at l1
      have e1 : gt (ownL h k) k = .X := by
        unfold ownL
        rw [gt_map hk, if_pos rfl]
      rw [e1, off_add_self (by decide) (by decide) (by decide), l2] at l1
      cases l1
theorem fits_iff {n : Nat} {v t : List Lk} (hv : v.length = n) (ht : t.length = n) : fitsL v t = true ↔ ∀ z, z < n → gt v z = .O ∨ gt v z = gt t z := by
  unfold fitsL
  rw [List.all_eq_true]
  constructor
  · intro q z hz
    have h1 : z < v.length := by rw [hv]; exact hz
    have h2 : z < t.length := by rw [ht]; exact hz
    have m : (v[z], t[z]) ∈ v.zip t := by
      rw [← List.getElem_zip (h := by rw [List.length_zip, hv, ht, Nat.min_self]; exact hz)]
      exact List.getElem_mem _
    have := q _ m
    rw [Bool.or_eq_true, decide_eq_true_eq, decide_eq_true_eq] at this
    have e1 : gt v z = v[z] := by
      unfold gt
      rw [List.getD_eq_getElem?_getD, List.getElem?_eq_getElem h1]
      rfl
    have e2 : gt t z = t[z] := by
      unfold gt
      rw [List.getD_eq_getElem?_getD, List.getElem?_eq_getElem h2]
      rfl
    rw [e1, e2]
    exact this
  · intro q p hp
    obtain ⟨z, hz, e⟩ := List.getElem_of_mem hp
    have hz' : z < n := by
      rw [List.length_zip, hv, ht, Nat.min_self] at hz
      exact hz
    have h1 : z < v.length := by rw [hv]; exact hz'
    have h2 : z < t.length := by rw [ht]; exact hz'
    rw [List.getElem_zip] at e
    have e1 : gt v z = v[z] := by
      unfold gt
      rw [List.getD_eq_getElem?_getD, List.getElem?_eq_getElem h1]
      rfl
    have e2 : gt t z = t[z] := by
      unfold gt
      rw [List.getD_eq_getElem?_getD, List.getElem?_eq_getElem h2]
      rfl
    have := q z hz'
    rw [e1, e2] at this
    rw [← e, Bool.or_eq_true, decide_eq_true_eq, decide_eq_true_eq]
    exact this
theorem over_one {h : Hall} (c : Can h) {t : List Lk} (ht : t.length = h.1) (hO : ∀ i, i < h.1 → gt t i ≠ .O) : (overL (roomL h h.1) t).length = 1 ↔ Fine h t := by
  have zm : List.replicate h.1 Lk.O ∈ overL (roomL h h.1) t := by
    refine List.mem_filter.mpr ⟨?_, (fits_iff List.length_replicate ht).mpr fun z hz => .inl (gt_rep hz)⟩
    have := comb_room (h := h) (fun _ => false) h.1 (Nat.le_refl _)
    have e : comb (start h) (fun _ => false) h.1 = fun _ => .O := by funext z; exact comb_zero _ _ z
    rw [e, tol_zero] at this
    exact this
  constructor
  · intro one
    refine ⟨ht, hO, fun v sv fv z hz => ?_⟩
    have vm : tol h.1 v ∈ overL (roomL h h.1) t := by
      refine List.mem_filter.mpr ⟨?_, (fits_iff (tol_len _ _) ht).mpr fun z hz => by rw [gt_tol hz]; exact fv z hz⟩
      have := span_comb (start_good c) sv
      rw [this]
      exact comb_room _ h.1 (Nat.le_refl _)
    obtain ⟨a, ea⟩ := List.length_eq_one_iff.mp one
    rw [ea] at zm vm
    have e1 := List.mem_singleton.mp zm
    have e2 := List.mem_singleton.mp vm
    rw [← gt_tol (v := v) hz, e2, ← e1, gt_rep hz]
  · intro f
    have all : ∀ v ∈ overL (roomL h h.1) t, v = List.replicate h.1 Lk.O := fun v hv => by
      obtain ⟨m, ft⟩ := List.mem_filter.mp hv
      obtain ⟨g, sg, rfl⟩ := room_span h.1 (Nat.le_refl _) v m
      have q := (fits_iff (tol_len _ _) ht).mp ft
      have := f.2.2 g sg fun z hz => by rw [← gt_tol (v := g) hz]; exact q z hz
      refine gt_ext (by rw [tol_len, List.length_replicate]) fun i hi => ?_
      have hi' : i < h.1 := by rw [tol_len] at hi; exact hi
      rw [gt_tol hi', gt_rep hi', this i hi']
    have nd : (overL (roomL h h.1) t).Nodup := nodup_filter (room_nodup h.1 (Nat.le_refl _))
    have h1 : (overL (roomL h h.1) t).length ≤ 1 := by
      have := nodup_le (B := [List.replicate h.1 Lk.O]) nd fun v hv => List.mem_singleton.mpr (all v hv)
      exact this
    have h2 : 0 < (overL (roomL h h.1) t).length := List.length_pos_of_mem zm
    omega
theorem mem_allChoices : ∀ (n : Nat) (t : List Lk), t ∈ allChoices n ↔ t.length = n ∧ ∀ a ∈ t, a ≠ .O
  | 0, t => by
    unfold allChoices
    rw [List.mem_singleton]
    constructor
    · rintro rfl
      exact ⟨rfl, (by intro a m; cases m)⟩
    · rintro ⟨e, _⟩
      exact List.length_eq_zero_iff.mp e
  | n + 1, t => by
    unfold allChoices
    rw [List.mem_flatMap]
    constructor
    · rintro ⟨one, ho, m⟩
      obtain ⟨e, q⟩ := (mem_allChoices n one).mp ho
      have go : ∀ a : Lk, a ≠ .O → t = one ++ [a] → t.length = n + 1 ∧ ∀ a ∈ t, a ≠ .O := by
        rintro a ha rfl
        refine ⟨by rw [List.length_append, e]; rfl, fun b hb => ?_⟩
        rcases List.mem_append.mp hb with hb | hb
        · exact q b hb
        · rw [List.mem_singleton.mp hb]; exact ha
      rcases List.mem_cons.mp m with m | m
      · exact go .X (by decide) m
      rcases List.mem_cons.mp m with m | m
      · exact go .Y (by decide) m
      · exact go .Z (by decide) (List.mem_singleton.mp m)
    · rintro ⟨e, q⟩
      have ne : t ≠ [] := fun z => by rw [z] at e; cases e
      have es : t.dropLast ++ [t.getLast ne] = t := List.dropLast_concat_getLast ne
      refine ⟨t.dropLast, (mem_allChoices n _).mpr ⟨by rw [List.length_dropLast, e]; rfl, fun a ha => q a (List.dropLast_subset _ ha)⟩, ?_⟩
      have ql := q _ (List.getLast_mem ne)
      rw [← es]
      generalize t.getLast ne = a at *
      have ed : (t.dropLast ++ [a]).dropLast = t.dropLast := List.dropLast_concat
      rw [ed]
      cases a with
      | O => exact absurd rfl ql
      | X => exact List.mem_cons_self
      | Y => exact List.mem_cons_of_mem _ List.mem_cons_self
      | Z => exact List.mem_cons_of_mem _ (List.mem_cons_of_mem _ List.mem_cons_self)
theorem choices_nodup : ∀ n, (allChoices n).Nodup
  | 0 => List.nodup_cons.mpr ⟨(by intro m; cases m), List.nodup_nil⟩
  | n + 1 => by
    have tail : ∀ {a b : List Lk} {x y : Lk}, a ++ [x] = b ++ [y] → a = b ∧ x = y := fun {a b x y} e => by
      have q := List.append_inj' e rfl
      exact ⟨q.1, by simpa using q.2⟩
    unfold allChoices
    refine List.pairwise_flatMap.mpr ⟨fun a _ => ?_, ?_⟩
    · refine List.pairwise_cons.mpr ⟨fun b hb e => ?_, List.pairwise_cons.mpr ⟨fun b hb e => ?_, List.pairwise_cons.mpr ⟨fun b hb => (nomatch hb), List.Pairwise.nil⟩⟩⟩
      · rcases List.mem_cons.mp hb with m | m
        · rw [m] at e; exact absurd (tail e).2 (by decide)
        · rw [List.mem_singleton.mp m] at e; exact absurd (tail e).2 (by decide)
      · rw [List.mem_singleton.mp hb] at e; exact absurd (tail e).2 (by decide)
    · refine (choices_nodup n).imp fun {a b} ne x hx y hy e => ne ?_
      subst e
      have f : ∀ {a : List Lk}, x ∈ [a ++ [Lk.X], a ++ [Lk.Y], a ++ [Lk.Z]] → ∃ l, x = a ++ [l] := fun {a} m => by
        rcases List.mem_cons.mp m with m | m
        · exact ⟨_, m⟩
        rcases List.mem_cons.mp m with m | m
        · exact ⟨_, m⟩
        · exact ⟨_, List.mem_singleton.mp m⟩
      obtain ⟨l, e1⟩ := f hx
      obtain ⟨m, e2⟩ := f hy
      exact (tail (e1.symm.trans e2)).1
theorem mem_gt {t : List Lk} {a : Lk} (h : a ∈ t) : ∃ i, i < t.length ∧ gt t i = a := by
  obtain ⟨i, hi, e⟩ := List.getElem_of_mem h
  refine ⟨i, hi, ?_⟩
  unfold gt
  rw [List.getD_eq_getElem?_getD, List.getElem?_eq_getElem hi, e]
  rfl
theorem gt_mem {t : List Lk} {i : Nat} (h : i < t.length) : gt t i ∈ t := by
  unfold gt
  rw [List.getD_eq_getElem?_getD, List.getElem?_eq_getElem h]
  exact List.getElem_mem h
theorem mem_fineL {h : Hall} (c : Can h) {t : List Lk} : t ∈ fineL h ↔ Fine h t := by
  unfold fineL
  rw [List.mem_filter, decide_eq_true_eq, mem_allChoices]
  constructor
  · rintro ⟨⟨e, q⟩, o⟩
    exact (over_one c e fun i hi => q _ (gt_mem (by rw [e]; exact hi))).mp o
  · intro f
    refine ⟨⟨f.1, fun a ha => ?_⟩, (over_one c f.1 f.2.1).mpr f⟩
    obtain ⟨i, hi, rfl⟩ := mem_gt ha
    exact f.2.1 i (by rw [← f.1]; exact hi)
theorem AllSteps.fine_count {h : Hall} {S : List Stp} (A : AllSteps h S) (c : Can h) : (fineL h).length = S.length := by
  have : (fineL h).length = (S.map (·.c)).length := nodup_eq (nodup_filter (choices_nodup _)) A.nd fun t => by
    rw [mem_fineL c, List.mem_map]
    constructor
    · intro f
      obtain ⟨s, r, e⟩ := reach_of_fine c f _ (start h) .refl (Nat.le_refl _)
      exact ⟨s, (A.mem c s).mpr r, e⟩
    · rintro ⟨s, hs, rfl⟩
      exact fine_of_reach c (A.reach s hs)
  rw [this, List.length_map]
/-- the law's last row -/
theorem AllSteps.law {h : Hall} {S : List Stp} {L : List Hall} (A : AllSteps h S) (c : Can h) (C : IsClass h L) : (fineL h).length = L.length * (atHall S h).length := by
  rw [A.fine_count c, A.count c C]

/-! ### how many there can be -/
theorem choices_len : ∀ n, (allChoices n).length = 3 ^ n
  | 0 => rfl
  | n + 1 => by
    unfold allChoices
    rw [List.length_flatMap]
    have : ((allChoices n).map fun one => [one ++ [Lk.X], one ++ [Lk.Y], one ++ [Lk.Z]].length).sum = (allChoices n).length * 3 := by
      induction allChoices n with
      | nil => rfl
      | cons a l ih =>
        rw [List.map_cons, List.sum_cons, ih, List.length_cons]
        show 3 + l.length * 3 = (l.length + 1) * 3
        omega
    rw [this, choices_len n, Nat.pow_succ]
theorem few_steps {h : Hall} (c : Can h) (h5 : h.1 ≤ 5) {S : List Stp} (nd : (S.map (·.c)).Nodup) (r : ∀ s ∈ S, ReachS h s) : S.length ≤ 243 := by
  have : (S.map (·.c)).length ≤ (allChoices h.1).length := nodup_le nd fun t ht => by
    obtain ⟨s, hs, rfl⟩ := List.mem_map.mp ht
    have f := fine_of_reach c (r s hs)
    refine (mem_allChoices _ _).mpr ⟨f.1, fun a ha => ?_⟩
    obtain ⟨i, hi, rfl⟩ := mem_gt ha
    exact f.2.1 i (by rw [← f.1]; exact hi)
  rw [List.length_map, choices_len] at this
  exact Nat.le_trans this (Nat.pow_le_pow_right (by decide) h5)
def subs {α : Type} : List α → List (List α)
  | [] => [[]]
  | a :: l => subs l ++ (subs l).map (a :: ·)
theorem subs_len {α : Type} : ∀ l : List α, (subs l).length = 2 ^ l.length
  | [] => rfl
  | a :: l => by
    unfold subs
    rw [List.length_append, List.length_map, subs_len l, List.length_cons, Nat.pow_succ]
    omega
theorem filter_subs {α : Type} (f : α → Bool) : ∀ l : List α, l.filter f ∈ subs l
  | [] => List.mem_singleton.mpr rfl
  | a :: l => by
    unfold subs
    rw [List.filter_cons]
    split
    · exact List.mem_append_right _ (List.mem_map.mpr ⟨_, filter_subs f l, rfl⟩)
    · exact List.mem_append_left _ (filter_subs f l)
theorem pairs_len {n : Nat} (h : n ≤ 5) : (allPairs n).length ≤ 10 := by
  have : ∀ k, k < 6 → (allPairs k).length ≤ 10 := by decide
  exact this n (by omega)
theorem Can.few {h : Hall} (c : Can h) (h5 : h.1 ≤ 5) : h.2.length ≤ 10 := by
  rw [c]
  exact Nat.le_trans (List.length_filter_le _ _) (pairs_len h5)
theorem few_halls {n : Nat} (h5 : n ≤ 5) {L : List Hall} (nd : L.Nodup) (r : ∀ g ∈ L, g.1 = n ∧ Can g) : L.length ≤ 1024 := by
  have : L.length ≤ ((subs (allPairs n)).map fun l => ((n, l) : Hall)).length := nodup_le nd fun g hg => by
    obtain ⟨e, c⟩ := r g hg
    refine List.mem_map.mpr ⟨g.2, ?_, by rw [← e]⟩
    have := filter_subs (fun p => decide (p ∈ g.2)) (allPairs g.1)
    rw [← c, e] at this
    exact this
  rw [List.length_map, subs_len] at this
  exact Nat.le_trans this (Nat.pow_le_pow_right (by decide) (pairs_len h5))

end TF
set_option autoImplicit false
set_option Elab.async false
set_option maxRecDepth 100000
namespace TF
open PySem L2 PyProof.Rows

/-! ### halls as data -/
def dP (p : Nat × Nat) : PyData := .tuple [.int p.1, .int p.2]
def dH (h : Hall) : PyData := .tuple [.int h.1, .tuple (h.2.map dP)]

theorem same_t {K : PySem.W.Frag} {H H' : Hp} {a : Addr} {xs : List V} (e : Same H H') (h : SqT K H a xs) : SqT K H' a xs := by
  rcases h with (h | ⟨o, h⟩) | h
  · exact .inl (.inl (e _ _ h))
  · exact .inl (.inr ⟨o, e _ _ h⟩)
  · exact .inr h
mutual
theorem dp_same {K : PySem.W.Frag} {H H' : Hp} (e : Same H H') : ∀ (d : PyData) (v : V), Dp K H v d → Dp K H' v d
  | .none, _, h => by cases h; exact .non
  | .bool _, _, h => by cases h; exact .bl _
  | .int _, _, h => by cases h; exact .int _
  | .str _, _, h => by cases h; exact .str _
  | .list ds, _, h => by
    cases h with
    | lst h1 h2 => exact .lst (e.seq h1) (dps_same e ds _ h2)
  | .tuple ds, _, h => by
    cases h with
    | tup h1 h2 => exact .tup (same_t e h1) (dps_same e ds _ h2)
  | .dict _, _, h => by cases h
theorem dps_same {K : PySem.W.Frag} {H H' : Hp} (e : Same H H') : ∀ (ds : List PyData) (vs : List V), DpAll K H vs ds → DpAll K H' vs ds
  | [], _, h => by cases h; exact .nil
  | d :: ds, _, h => by
    cases h with
    | cons h1 h2 => exact .cons (dp_same e d _ h1) (dps_same e ds _ h2)
end
section
variable {K : PySem.W.Frag} {H H' : Hp}
theorem dps_len : ∀ {vs : List V} {ds : List PyData}, DpAll K H vs ds → vs.length = ds.length
  | _, _, .nil => rfl
  | _, _, .cons _ t => congrArg (· + 1) (dps_len t)
theorem dps_get : ∀ {vs : List V} {ds : List PyData} {i : Nat} {v : V}, DpAll K H vs ds → vs[i]? = some v → ∃ d, ds[i]? = some d ∧ Dp K H v d
  | _, _, _, _, .nil, e => by simp at e
  | _, _, 0, _, .cons r _, e => by
    have e' := Option.some.inj e
    subst e'
    exact ⟨_, rfl, r⟩
  | _, _, i + 1, _, .cons _ t, e => by
    obtain ⟨d, h1, h2⟩ := dps_get (i := i) t (by simpa using e)
    exact ⟨d, by simpa using h1, h2⟩
theorem dps_get' : ∀ {vs : List V} {ds : List PyData} {i : Nat} {d : PyData}, DpAll K H vs ds → ds[i]? = some d → ∃ v, vs[i]? = some v ∧ Dp K H v d
  | _, _, _, _, .nil, e => by simp at e
  | _, _, 0, _, .cons r _, e => by
    have e' := Option.some.inj e
    subst e'
    exact ⟨_, rfl, r⟩
  | _, _, i + 1, _, .cons _ t, e => by
    obtain ⟨d, h1, h2⟩ := dps_get' (i := i) t (by simpa using e)
    exact ⟨d, by simpa using h1, h2⟩
theorem dps_app : ∀ {vs ws : List V} {ds es : List PyData}, DpAll K H vs ds → DpAll K H ws es → DpAll K H (vs ++ ws) (ds ++ es)
  | _, _, _, _, .nil, h => h
  | _, _, _, _, .cons r t, h => .cons r (dps_app t h)
theorem dps_one {v : V} {d : PyData} (h : Dp K H v d) : DpAll K H [v] [d] := .cons h .nil
theorem dps_of {α : Type} {f : α → PyData} : ∀ {vs : List V} {xs : List α}, vs.length = xs.length → (∀ (i : Nat) (v : V) (x : α), vs[i]? = some v → xs[i]? = some x → Dp K H v (f x)) → DpAll K H vs (xs.map f)
  | [], [], _, _ => .nil
  | v :: vs, x :: xs, e, h => .cons (h 0 v x rfl rfl) (dps_of (by simpa using e) fun i v x h1 h2 => h (i + 1) v x (by simpa using h1) (by simpa using h2))
  | [], _ :: _, e, _ => by cases e
  | _ :: _, [], e, _ => by cases e

/-- v is the pair p; v is the hall h -/
abbrev PrV (K : PySem.W.Frag) (H : Hp) (v : V) (p : Nat × Nat) : Prop := Dp K H v (dP p)
abbrev HlV (K : PySem.W.Frag) (H : Hp) (v : V) (h : Hall) : Prop := Dp K H v (dH h)
theorem prV_open {v : V} {p : Nat × Nat} (h : PrV K H v p) : ∃ a, v = .ref a ∧ SqT K H a [.int p.1, .int p.2] := by
  cases h with
  | tup h1 h2 =>
    cases h2 with
    | cons q1 h2 =>
      cases h2 with
      | cons q2 h2 =>
        cases h2
        cases q1
        cases q2
        exact ⟨_, rfl, h1⟩
theorem prV_of {a : Addr} {p : Nat × Nat} (h : SqT K H a [.int p.1, .int p.2]) : PrV K H (.ref a) p := .tup h (.cons (.int _) (.cons (.int _) .nil))
theorem hlV_open {v : V} {h : Hall} (x : HlV K H v h) : ∃ a b qs, v = .ref a ∧ SqT K H a [.int h.1, .ref b] ∧ SqT K H b qs ∧ DpAll K H qs (h.2.map dP) := by
  cases x with
  | tup h1 h2 =>
    cases h2 with
    | cons q1 h2 =>
      cases h2 with
      | cons q2 h2 =>
        cases h2
        cases q1
        cases q2 with
        | tup h3 h4 => exact ⟨_, _, _, rfl, h1, h3, h4⟩
theorem hlV_of {a b : Addr} {qs : List V} {n : Nat} {ps : List (Nat × Nat)} (h1 : SqT K H a [.int n, .ref b]) (h2 : SqT K H b qs) (h3 : DpAll K H qs (ps.map dP)) : HlV K H (.ref a) (n, ps) :=
  .tup h1 (.cons (.int _) (.cons (.tup h2 h3) .nil))
end

/-! ### facts of the data -/
theorem dP_lay (p : Nat × Nat) : (dP p).canLay0 = true := by simp [dP, PyData.canLay0, PyData.canLayAll0]
theorem dP_depth (p : Nat × Nat) : (dP p).depth = 1 := by simp [dP, PyData.depth, PyData.depthAll]
theorem dPs_lay : ∀ ps : List (Nat × Nat), PyData.canLayAll0 (ps.map dP) = true
  | [] => by simp [PyData.canLayAll0]
  | p :: ps => by simp [PyData.canLayAll0, dP_lay p, dPs_lay ps]
theorem dPs_depth : ∀ ps : List (Nat × Nat), PyData.depthAll (ps.map dP) ≤ 1
  | [] => by simp [PyData.depthAll]
  | p :: ps => by
    have h1 := dPs_depth ps
    have h2 := dP_depth p
    simp only [List.map_cons, PyData.depthAll]
    omega
theorem dH_lay (h : Hall) : (dH h).canLay0 = true := by simp [dH, PyData.canLay0, PyData.canLayAll0, dPs_lay]
theorem dH_depth (h : Hall) : (dH h).depth ≤ 3 := by
  have := dPs_depth h.2
  simp only [dH, PyData.depth, PyData.depthAll]
  omega
theorem dHs_lay : ∀ hs : List Hall, PyData.canLayAll0 (hs.map dH) = true
  | [] => by simp [PyData.canLayAll0]
  | h :: hs => by simp [PyData.canLayAll0, dH_lay h, dHs_lay hs]
theorem dHs_depth : ∀ hs : List Hall, PyData.depthAll (hs.map dH) ≤ 3
  | [] => by simp [PyData.depthAll]
  | h :: hs => by
    have h1 := dHs_depth hs
    have h2 := dH_depth h
    simp only [List.map_cons, PyData.depthAll]
    omega
theorem shaped_of {d : PyData} (h : d.canLay0 = true) (hd : d.depth ≤ 64) : SeqAt.shaped d = true := by
  show (d.canLay0 && decide (d.depth ≤ 64)) = true
  rw [h, decide_eq_true hd]
  rfl
theorem dP_shaped (p : Nat × Nat) : SeqAt.shaped (dP p) = true := shaped_of (dP_lay p) (by rw [dP_depth]; omega)
theorem dH_shaped (h : Hall) : SeqAt.shaped (dH h) = true := shaped_of (dH_lay h) (by have := dH_depth h; omega)
theorem dPs_shaped (ps : List (Nat × Nat)) : SeqAt.shaped (.tuple (ps.map dP)) = true := shaped_of (by simp [PyData.canLay0, dPs_lay]) (by have := dPs_depth ps; simp only [PyData.depth]; omega)
theorem dPs_shapedL (ps : List (Nat × Nat)) : SeqAt.shaped (.list (ps.map dP)) = true := shaped_of (by simp [PyData.canLay0, dPs_lay]) (by have := dPs_depth ps; simp only [PyData.depth]; omega)
theorem dHs_shapedL (hs : List Hall) : SeqAt.shaped (.list (hs.map dH)) = true := shaped_of (by simp [PyData.canLay0, dHs_lay]) (by have := dHs_depth hs; simp only [PyData.depth]; omega)
theorem dHs_shaped (hs : List Hall) : SeqAt.shaped (.tuple (hs.map dH)) = true := shaped_of (by simp [PyData.canLay0, dHs_lay]) (by have := dHs_depth hs; simp only [PyData.depth]; omega)
theorem nat_beq (a b : Nat) : ((a : Int) == (b : Int)) = decide (a = b) := by
  by_cases h : a = b
  · subst h; simp
  · rw [decide_eq_false h]
    exact beq_eq_false_iff_ne.mpr (by omega)
theorem dP_eqv (p q : Nat × Nat) : PyData.eqv (dP p) (dP q) = decide (p = q) := by
  obtain ⟨a, b⟩ := p
  obtain ⟨c, d⟩ := q
  have e : PyData.eqv (dP (a, b)) (dP (c, d)) = (((a : Int) == (c : Int)) && (((b : Int) == (d : Int)) && true)) := by simp only [dP, PyData.eqv, PyData.eqvAll]
  rw [e, nat_beq, nat_beq, Bool.and_true]
  by_cases h1 : a = c <;> by_cases h2 : b = d <;> simp [h1, h2]
theorem dPs_eqv : ∀ ps qs : List (Nat × Nat), PyData.eqvAll (ps.map dP) (qs.map dP) = decide (ps = qs)
  | [], [] => by simp [PyData.eqvAll]
  | [], _ :: _ => by simp [PyData.eqvAll]
  | _ :: _, [] => by simp [PyData.eqvAll]
  | p :: ps, q :: qs => by
    simp only [List.map_cons, PyData.eqvAll, dP_eqv, dPs_eqv ps qs]
    by_cases h1 : p = q <;> by_cases h2 : ps = qs <;> simp [h1, h2]
theorem dH_eqv (h g : Hall) : PyData.eqv (dH h) (dH g) = decide (h = g) := by
  obtain ⟨n, ps⟩ := h
  obtain ⟨m, qs⟩ := g
  have e : PyData.eqv (dH (n, ps)) (dH (m, qs)) = (((n : Int) == (m : Int)) && (PyData.eqvAll (ps.map dP) (qs.map dP) && true)) := by simp only [dH, PyData.eqv, PyData.eqvAll]
  rw [e, nat_beq, dPs_eqv, Bool.and_true]
  by_cases h1 : n = m <;> by_cases h2 : ps = qs <;> simp [h1, h2]
theorem dP_inj {p q : Nat × Nat} (h : dP p = dP q) : p = q := by
  have := dP_eqv p q
  rw [h, SeqAt.eqv_refl _ (dP_lay q)] at this
  exact of_decide_eq_true this.symm
theorem any_dP (ps : List (Nat × Nat)) (q : Nat × Nat) : ((ps.map dP).any fun z => PyData.eqv z (dP q)) = decide (q ∈ ps) := by
  induction ps with
  | nil => simp
  | cons p ps ih =>
    rw [List.map_cons, List.any_cons, ih, dP_eqv]
    by_cases h1 : p = q
    · subst h1; simp
    · by_cases h2 : q ∈ ps <;> simp [h1, h2, Ne.symm h1]

/-! ### the order -/
theorem dP_alike (p q : Nat × Nat) : W.alike (dP p) (dP q) = true := by simp [dP, W.alike, W.alikeAll]
theorem dPs_alike : ∀ ps qs : List (Nat × Nat), W.alikeAll (ps.map dP) (qs.map dP) = true
  | [], _ => by simp [W.alikeAll]
  | _ :: _, [] => by simp [W.alikeAll]
  | p :: ps, q :: qs => by simp [W.alikeAll, dP_alike, dPs_alike ps qs]
theorem dH_alike (h g : Hall) : W.alike (dH h) (dH g) = true := by simp [dH, W.alike, W.alikeAll, dPs_alike]
theorem lt_antisymm {x y : PyData} (al : W.alike x y = true) (h1 : W.dataLt x y = false) (h2 : W.dataLt y x = false) : PyData.eqv x y = true := by
  have e : W.keyToks x = W.keyToks y := lex_total _ _ h1 h2
  cases q : PyData.eqv x y with
  | true => rfl
  | false =>
    exfalso
    have z := (W.toks_eqv x y al).2 q
    have z1 := z [] [.inl 0]
    have z2 := z [.inl 0] []
    rw [e] at z1 z2
    rw [← z2] at z1
    rw [W.lex_pre, W.lex_pre] at z1
    exact absurd z1 (by decide)
abbrev leH : Hall → Hall → Bool := W.dataLe false dH
abbrev leP : Nat × Nat → Nat × Nat → Bool := W.dataLe false dP
theorem leH_total : W.TotalLe leH := W.sortLe_total _ _ _
theorem leP_total : W.TotalLe leP := W.sortLe_total _ _ _
theorem leH_antisymm {h g : Hall} (h1 : leH h g = true) (h2 : leH g h = true) : h = g := by
  have a1 : W.dataLt (dH g) (dH h) = false := by
    have q : (!W.dataLt (dH g) (dH h)) = true := h1
    simpa using q
  have a2 : W.dataLt (dH h) (dH g) = false := by
    have q : (!W.dataLt (dH h) (dH g)) = true := h2
    simpa using q
  have := lt_antisymm (dH_alike h g) a2 a1
  rw [dH_eqv] at this
  exact of_decide_eq_true this
theorem leP_eq (p q : Nat × Nat) : leP p q = decide (p.1 < q.1 ∨ (p.1 = q.1 ∧ p.2 ≤ q.2)) := by
  have := congrFun (congrFun (W.dataLe_ii (β := Nat × Nat) (fun p => p.1) (fun p => p.2)) p) q
  show W.dataLe false (fun b : Nat × Nat => PyData.tuple [PyData.int b.1, PyData.int b.2]) p q = _
  rw [this]
  by_cases h : p.1 < q.1 ∨ (p.1 = q.1 ∧ p.2 ≤ q.2)
  · rw [decide_eq_true h]
    exact decide_eq_true (by omega)
  · rw [decide_eq_false h]
    exact decide_eq_false (by omega)
def sortH (l : List Hall) : List Hall := l.mergeSort leH
def sortP (l : List (Nat × Nat)) : List (Nat × Nat) := l.mergeSort leP
theorem sortH_perm (l : List Hall) : (sortH l).Perm l := List.mergeSort_perm l leH
theorem sortH_eq {l m : List Hall} (p : l.Perm m) : sortH l = sortH m :=
  List.Perm.eq_of_pairwise (le := fun a b => leH a b = true) (fun _ _ _ _ h1 h2 => leH_antisymm h1 h2) (W.sort_pairwise leH_total l) (W.sort_pairwise leH_total m) ((sortH_perm l).trans (p.trans (sortH_perm m).symm))
theorem allPairs_le (n : Nat) : (allPairs n).Pairwise fun p q => leP p q = true := by
  unfold allPairs
  refine List.pairwise_flatMap.mpr ⟨fun x _ => ?_, ?_⟩
  · refine List.pairwise_map.mpr (List.Pairwise.imp (fun {a b} h => ?_) List.pairwise_lt_range')
    rw [leP_eq]
    exact decide_eq_true (.inr ⟨rfl, Nat.le_of_lt h⟩)
  · refine List.Pairwise.imp (fun {a b} h p hp q hq => ?_) List.pairwise_lt_range
    obtain ⟨y, _, rfl⟩ := List.mem_map.mp hp
    obtain ⟨z, _, rfl⟩ := List.mem_map.mp hq
    rw [leP_eq]
    exact decide_eq_true (.inl h)
theorem allPairs_nodup (n : Nat) : (allPairs n).Nodup := by
  unfold allPairs
  refine List.pairwise_flatMap.mpr ⟨fun x _ => ?_, ?_⟩
  · refine List.pairwise_map.mpr (List.Pairwise.imp (fun {a b} h e => ?_) List.pairwise_lt_range')
    have : a = b := congrArg Prod.snd e
    omega
  · refine List.Pairwise.imp (fun {a b} h p hp q hq e => ?_) List.pairwise_lt_range
    obtain ⟨y, _, rfl⟩ := List.mem_map.mp hp
    obtain ⟨z, _, rfl⟩ := List.mem_map.mp hq
    have : a = b := congrArg Prod.fst e
    omega
/-- pairs without repeats, sorted: as they stand among all -/
theorem sortP_eq {n : Nat} {l : List (Nat × Nat)} (nd : l.Nodup) (h : ∀ p ∈ l, p.1 < p.2 ∧ p.2 < n) : sortP l = (allPairs n).filter fun p => decide (p ∈ l) := by
  have pm : ((allPairs n).filter fun p => decide (p ∈ l)).Perm l := (List.perm_ext_iff_of_nodup (nodup_filter (allPairs_nodup n)) nd).mpr fun p => by
    rw [List.mem_filter, decide_eq_true_eq, mem_allPairs]
    exact ⟨fun q => q.2, fun q => ⟨h p q, q⟩⟩
  refine List.Perm.eq_of_pairwise (le := fun a b => leP a b = true) (fun a b _ _ h1 h2 => ?_) (W.sort_pairwise leP_total l) ((allPairs_le n).filter _) ((List.mergeSort_perm l leP).trans pm.symm)
  rw [leP_eq] at h1 h2
  have q1 := of_decide_eq_true h1
  have q2 := of_decide_eq_true h2
  exact Prod.ext (by omega) (by omega)
end TF
set_option autoImplicit false
set_option Elab.async false
set_option maxRecDepth 100000
set_option linter.all false
namespace TF
open PySem L2 PyProof.Rows
mutual
theorem reads_lt {h : Heap} : ∀ (d : PyData) (v : Value) (l : List Addr), Reads h v d l → ∀ b ∈ l, b < h.objs.size
  | .none, _, _, r, b, m => by cases r; cases m
  | .bool _, _, _, r, b, m => by cases r; cases m
  | .int _, _, _, r, b, m => by cases r; cases m
  | .str _, _, _, r, b, m => by cases r; cases m
  | .list ds, _, _, r, b, m => by
    cases r with
    | list h1 h2 h3 h4 =>
      rcases List.mem_cons.mp m with e | m
      · rw [e]; exact Heap.lt_size h1
      · exact readsAll_lt ds _ _ h4 b m
  | .tuple ds, _, _, r, b, m => by
    cases r with
    | tuple h1 h2 h3 h4 => exact readsAll_lt ds _ _ h4 b m
  | .dict kvs, _, _, r, b, m => by
    cases r with
    | dict h1 h2 h3 h4 h5 =>
      rcases List.mem_append.mp m with m | m
      · rcases List.mem_cons.mp m with e | m
        · rw [e]; exact Heap.lt_size h1
        · exact readsFst_lt kvs _ _ h4 b m
      · exact readsSnd_lt kvs _ _ h5 b m
theorem readsAll_lt {h : Heap} : ∀ (ds : List PyData) (vs : List Value) (l : List Addr), ReadsAll h vs ds l → ∀ b ∈ l, b < h.objs.size
  | [], _, _, r, b, m => by cases r; cases m
  | d :: ds, _, _, r, b, m => by
    cases r with
    | cons h1 h2 =>
      rcases List.mem_append.mp m with m | m
      · exact reads_lt d _ _ h1 b m
      · exact readsAll_lt ds _ _ h2 b m
theorem readsFst_lt {h : Heap} : ∀ (kvs : List (PyData × PyData)) (vs : List Value) (l : List Addr), ReadsAll h vs (kvs.map (·.1)) l → ∀ b ∈ l, b < h.objs.size
  | [], _, _, r, b, m => by
    have r' : ReadsAll h _ [] _ := r
    cases r'; cases m
  | (d, e) :: kvs, _, _, r, b, m => by
    have r' : ReadsAll h _ (d :: kvs.map (·.1)) _ := r
    cases r' with
    | cons h1 h2 =>
      rcases List.mem_append.mp m with m | m
      · exact reads_lt d _ _ h1 b m
      · exact readsFst_lt kvs _ _ h2 b m
theorem readsSnd_lt {h : Heap} : ∀ (kvs : List (PyData × PyData)) (vs : List Value) (l : List Addr), ReadsAll h vs (kvs.map (·.2)) l → ∀ b ∈ l, b < h.objs.size
  | [], _, _, r, b, m => by
    have r' : ReadsAll h _ [] _ := r
    cases r'; cases m
  | (d, e) :: kvs, _, _, r, b, m => by
    have r' : ReadsAll h _ (e :: kvs.map (·.2)) _ := r
    cases r' with
    | cons h1 h2 =>
      rcases List.mem_append.mp m with m | m
      · exact reads_lt e _ _ h1 b m
      · exact readsSnd_lt kvs _ _ h2 b m
end
section
variable {X : Cx} {α : Type} {enc : α → PyData}

/-- what sorting needs of the items -/
structure Ord (enc : α → PyData) : Prop where
  alike : ∀ a b, W.alike (enc a) (enc b) = true
  tup : ∀ a, ∃ x r, enc a = .tuple (x :: r)
  low : ∀ a, (enc a).depth ≤ 3
theorem ord_H : Ord dH := ⟨dH_alike, fun h => ⟨_, _, rfl⟩, dH_depth⟩
theorem ord_P : Ord dP := ⟨dP_alike, fun h => ⟨_, _, rfl⟩, fun p => by rw [dP_depth]; decide⟩

abbrev srt (enc : α → PyData) (l : List α) : List α := l.mergeSort (W.dataLe false enc)

/-- values beside what they stand for -/
theorem each_zip {pins : List (Addr × Obj)} {σ : L2.St} {H : Hp} {s : Shared} (I : Inv X pins σ H s) : ∀ {xs : List V} {us : List Value} {as : List α}, Vals xs us → DpAll X.K H xs (as.map enc) →
    W.EachIs (fun (u : Value) (b : V × α) => RelV b.1 u ∧ Dp X.K H b.1 (enc b.2)) us (xs.zip as) ∧ W.EachIs (fun (u : Value) (b : V × α) => ∃ l, Reads s.heap u (enc b.2) l) us (xs.zip as)
  | [], [], [], _, _ => ⟨.nil, .nil⟩
  | x :: xs, u :: us, a :: as, v, d => by
    cases v with
    | cons r t =>
      have d' : DpAll X.K H (x :: xs) (enc a :: as.map enc) := d
      cases d' with
      | cons q qs =>
        have ih := each_zip I (as := as) t qs
        exact ⟨.cons ⟨r, q⟩ ih.1, .cons (Dp.reads I _ _ _ q r) ih.2⟩
  | [], [], _ :: _, _, d => nomatch d
  | _ :: _, _ :: _, [], _, d => nomatch d
theorem each_out {H : Hp} : ∀ {us : List Value} {bs : List (V × α)}, W.EachIs (fun (u : Value) (b : V × α) => RelV b.1 u ∧ Dp X.K H b.1 (enc b.2)) us bs → Vals (bs.map (·.1)) us ∧ DpAll X.K H (bs.map (·.1)) ((bs.map (·.2)).map enc)
  | _, _, .nil => ⟨.nil, .nil⟩
  | _, _, .cons r t => ⟨.cons r.1 (each_out t).1, .cons r.2 (each_out t).2⟩
theorem zip_snd : ∀ {xs : List V} {as : List α}, xs.length = as.length → (xs.zip as).map (·.2) = as
  | [], [], _ => rfl
  | _ :: xs, a :: as, e => by
    show a :: (xs.zip as).map (·.2) = a :: as
    rw [zip_snd (by simpa using e)]
  | [], _ :: _, e => nomatch e
  | _ :: _, [], e => nomatch e
theorem srt_snd (bs : List (V × α)) : (bs.mergeSort (W.dataLe false fun b => enc b.2)).map (·.2) = srt enc (bs.map (·.2)) :=
  W.sort_maps (fun b : V × α => b.2) (r := W.dataLe false fun b : V × α => enc b.2) (s := W.dataLe false enc) fun _ _ _ _ => rfl
theorem all_alike (O : Ord enc) (bs : List (V × α)) : W.AllAlike (bs.map fun b => enc b.2) := W.AllAlike.of fun b b' => O.alike _ _
theorem all_tup (O : Ord enc) (bs : List (V × α)) : W.Sortable (bs.map fun b => enc b.2) := W.Sortable.tuples fun b => O.tup _

/-- what sorted gives: a new list of the same, in order -/
def outS (K : PySem.W.Frag) (enc : α → PyData) (as : List α) (H : Hp) (Q : VK) : Prop := ∀ (p : Addr) (ys : List V), H p = none → ys.length = as.length → DpAll K H ys ((srt enc as).map enc) → Q (.ref p) (upd H p (.lst ys))
def rSortG (K : PySem.W.Frag) (enc : α → PyData) : List V → Hp → VK → Prop := fun vs H Q => ∃ (a : Addr) (xs : List V) (as : List α), vs = [.ref a] ∧ SqL K H a xs ∧ DpAll K H xs (as.map enc) ∧ outS K enc as H Q
theorem cr_sortG (O : Ord enc) (hu : X.A.units + 8 < cLine) : CallR X (.builtin "sorted") (rSortG X.K enc) := by
  intro pins s σ H xs us Q I r h
  obtain ⟨a, xs, as, rfl, hl, hd, q⟩ := h
  obtain ⟨its, rv, pl, hz⟩ := I.list hl
  have el : xs.length = as.length := by rw [dps_len hd, List.length_map]
  obtain ⟨z1, z2⟩ := each_zip I (as := as) rv hd
  have ez : (xs.zip as).length = as.length := by rw [List.length_zip, el, Nat.min_self]
  rw [Vals.ref1 r]
  refine W.sorted_data pl.isList z1 z2 (all_alike O _) (all_tup O _) (by rw [ez, ← el]; exact hz) (fun b _ => by have := O.low b.2; omega) fun out ho eo => ?_
  obtain ⟨o1, o2⟩ := each_out eo
  rw [srt_snd, zip_snd el] at o2
  obtain ⟨c, hc⟩ := sortedAll_at s.heap its out.toArray
  have hn : H (s.heap.objs.size + 1) = none := I.hok.fresh (Nat.le_succ _)
  have len : (((xs.zip as).mergeSort (W.dataLe false fun b : V × α => enc b.2)).map (·.1)).length = as.length := by rw [List.length_map, List.length_mergeSort, ez]
  have new : ObjOk X.prog X.w (upd H (s.heap.objs.size + 1) (.lst (((xs.zip as).mergeSort (W.dataLe false fun b : V × α => enc b.2)).map (·.1)))) (sortedAll s.heap its out.toArray) (s.heap.objs.size + 1) (.lst (((xs.zip as).mergeSort (W.dataLe false fun b : V × α => enc b.2)).map (·.1))) :=
    ⟨by rw [len, ← el]; exact hz, out, c, o1, hc⟩
  exact ⟨.ref (s.heap.objs.size + 1), _, I.laid (t' := s.toks) (fun _ _ => sortedAll_old) (Nat.le_succ _) new, rfl, q _ _ hn len o2⟩

/-- behind what was gathered: the new list, sorted -/
theorem sort_gathered (O : Ord enc) {A : Around} (hu : A.units + 7 < cLine) {E : Value → Shared → Prop} {pins : List (Addr × Obj)} {σ : L2.St} {H : Hp} {s : Shared} {us : List Value} {xs : List V} {as : List α} {Q : VK} {R : Value → Shared → Prop}
    (I : Inv X pins σ H s) (v : Vals xs us) (d : DpAll X.K H xs (as.map enc)) (hz : as.length ≤ sizeLine) (q : outS X.K enc as H Q)
    (hR : ∀ (p : Addr) (s' : Shared), EP X pins σ Q (.ref p) s' → R (.ref p) s') :
    wpAny (model X.prog X.w) A (newList us) (fun l s1 => wpAny (model X.prog X.w) A (holding [l] (call (.builtin "list.sort") [l] [])) (fun _ s2 => R l s2) E s1) E s := by
  have el : xs.length = as.length := by rw [dps_len d, List.length_map]
  have eu : us.length = as.length := v.length.symm.trans el
  have ez : (xs.zip as).length = as.length := by rw [List.length_zip, el, Nat.min_self]
  refine wpAny_newList ?_ (by rw [eu]; exact hz)
  have hoL : (s.heap.push (seqObj "list" us.toArray 0)).get? s.heap.objs.size = some (seqObj "list" us.toArray 0) := Heap.get?_push_size _ rfl
  obtain ⟨z1, z2⟩ := each_zip I (as := as) v d
  have z3 : W.EachIs (fun (u : Value) (b : V × α) => ∃ l, Reads (s.heap.push (seqObj "list" us.toArray 0)) u (enc b.2) l ∧ ¬ s.heap.objs.size ∈ l) us (xs.zip as) := z2.mono fun u b ⟨l, rl⟩ =>
    ⟨l, PyProof.Rows.Reads.keeps (fun c o e => Heap.get?_push_of_some _ e) rl, fun m => absurd (reads_lt _ _ _ rl _ m) (Nat.lt_irrefl _)⟩
  refine wpAny_holding (W.list_sort_data (s := { s with heap := s.heap.push (seqObj "list" us.toArray 0) }) hoL z1 z3 (all_alike O _) (all_tup O _) (by rw [ez]; exact hz) (fun b _ => by have := O.low b.2; omega) fun out ho eo => ?_)
  obtain ⟨o1, o2⟩ := each_out eo
  rw [srt_snd, zip_snd el] at o2
  obtain ⟨c, hc⟩ := sortedHeap_at (vs := us) (out := out.toArray) hoL
  have hn : H s.heap.objs.size = none := I.hok.fresh (Nat.le_refl _)
  have len : (((xs.zip as).mergeSort (W.dataLe false fun b : V × α => enc b.2)).map (·.1)).length = as.length := by rw [List.length_map, List.length_mergeSort, ez]
  have new : ObjOk X.prog X.w (upd H s.heap.objs.size (.lst (((xs.zip as).mergeSort (W.dataLe false fun b : V × α => enc b.2)).map (·.1)))) (sortedHeap (s.heap.push (seqObj "list" us.toArray 0)) s.heap.objs.size us out.toArray) s.heap.objs.size (.lst (((xs.zip as).mergeSort (W.dataLe false fun b : V × α => enc b.2)).map (·.1))) :=
    ⟨by rw [len]; exact hz, out, c, o1, hc⟩
  refine hR _ _ ⟨.ref s.heap.objs.size, _, I.laid (t' := s.toks) (fun b o e => ?_) (Nat.le_refl _) new, rfl, q _ _ hn len o2⟩
  have hlt := Heap.lt_size e
  rw [sortedHeap_old (Nat.ne_of_lt hlt) (by rw [Heap.size_push]; exact Nat.lt_succ_of_lt hlt)]
  exact Heap.get?_push_of_some _ e
end
end TF
set_option autoImplicit false
set_option Elab.async false
set_option maxRecDepth 100000
set_option linter.all false
namespace TF
open PySem L2 PyProof.Rows

/-! ### halls as keys -/
def kP (p : Nat × Nat) : NestedKey := .tup [.num p.1, .num p.2]
def kH (h : Hall) : NestedKey := .tup [.num h.1, .tup (h.2.map kP)]
theorem kP_depth (p : Nat × Nat) : (kP p).depth = 1 := by simp [kP, NestedKey.depth, NestedKey.depthAll]
theorem kPs_depth : ∀ ps : List (Nat × Nat), NestedKey.depthAll (ps.map kP) ≤ 1
  | [] => by simp [NestedKey.depthAll]
  | p :: ps => by
    have h1 := kPs_depth ps
    have h2 := kP_depth p
    simp only [List.map_cons, NestedKey.depthAll]
    omega
theorem kH_depth (h : Hall) : (kH h).depth ≤ 8 := by
  have := kPs_depth h.2
  simp only [kH, NestedKey.depth, NestedKey.depthAll]
  omega
theorem kP_inj {p q : Nat × Nat} (e : kP p = kP q) : p = q := by
  have e' : [NestedKey.num (p.1 : Int), .num (p.2 : Int)] = [.num (q.1 : Int), .num (q.2 : Int)] := NestedKey.tup.inj e
  have e1 := List.cons.inj e'
  have e2 := List.cons.inj e1.2
  have a1 := NestedKey.num.inj e1.1
  have a2 := NestedKey.num.inj e2.1
  exact Prod.ext (by omega) (by omega)
theorem kPs_inj : ∀ {ps qs : List (Nat × Nat)}, ps.map kP = qs.map kP → ps = qs
  | [], [], _ => rfl
  | [], _ :: _, e => nomatch e
  | _ :: _, [], e => nomatch e
  | p :: ps, q :: qs, e => by
    have e' := List.cons.inj e
    rw [kP_inj e'.1, kPs_inj e'.2]
theorem kH_inj {h g : Hall} (e : kH h = kH g) : h = g := by
  have e' : [NestedKey.num (h.1 : Int), .tup (h.2.map kP)] = [.num (g.1 : Int), .tup (g.2.map kP)] := NestedKey.tup.inj e
  have e1 := List.cons.inj e'
  have e2 := List.cons.inj e1.2
  have a1 := NestedKey.num.inj e1.1
  have a2 := NestedKey.tup.inj e2.1
  exact Prod.ext (by omega) (kPs_inj a2)

/-! ### tuples that are kept -/
/-- the tuples are kept, whatever becomes of the rest -/
def Tp (H H' : Hp) : Prop := ∀ b, (∀ xs, H b = some (.tup xs) → H' b = some (.tup xs)) ∧ ∀ o xs, H b = some (.frz o (.tup xs)) → H' b = some (.frz o (.tup xs))
theorem Tp.refl (H : Hp) : Tp H H := fun _ => ⟨fun _ h => h, fun _ _ h => h⟩
theorem Tp.trans {H H1 H2 : Hp} (a : Tp H H1) (b : Tp H1 H2) : Tp H H2 := fun c => ⟨fun xs h => (b c).1 xs ((a c).1 xs h), fun o xs h => (b c).2 o xs ((a c).2 o xs h)⟩
theorem Tp.same {H H' : Hp} (e : Same H H') : Tp H H' := fun b => ⟨fun _ h => e b _ h, fun _ _ h => e b _ h⟩
/-- what is not a tuple may change -/
theorem Tp.upd {H : Hp} {a : Addr} {o o' : HO} (h : H a = some o) (h1 : ∀ xs, o ≠ .tup xs) (h2 : ∀ ob xs, o ≠ .frz ob (.tup xs)) : Tp H (upd H a o') := fun b => by
  by_cases e : b = a
  · subst e
    rw [h]
    exact ⟨fun xs q => absurd (Option.some.inj q) (h1 xs), fun ob xs q => absurd (Option.some.inj q) (h2 ob xs)⟩
  · rw [upd_ne e]
    exact ⟨fun _ q => q, fun _ _ q => q⟩
theorem Tp.new {H : Hp} {a : Addr} {o' : HO} (h : H a = none) : Tp H (L2.upd H a o') := fun b => by
  by_cases e : b = a
  · subst e
    rw [h]
    exact ⟨(by intro _ q; cases q), (by intro _ _ q; cases q)⟩
  · rw [upd_ne e]
    exact ⟨fun _ q => q, fun _ _ q => q⟩
section
variable {K : PySem.W.Frag} {H H' : Hp}
theorem Tp.sq (e : Tp H H') {a : Addr} {xs : List V} (h : SqT K H a xs) : SqT K H' a xs := by
  rcases h with (h | ⟨o, h⟩) | h
  · exact .inl (.inl ((e a).1 _ h))
  · exact .inl (.inr ⟨o, (e a).2 _ _ h⟩)
  · exact .inr h
theorem Tp.pr (e : Tp H H') {v : V} {p : Nat × Nat} (h : PrV K H v p) : PrV K H' v p := by
  obtain ⟨a, rfl, h1⟩ := prV_open h
  exact prV_of (e.sq h1)
theorem Tp.prs (e : Tp H H') : ∀ {vs : List V} {ps : List (Nat × Nat)}, DpAll K H vs (ps.map dP) → DpAll K H' vs (ps.map dP)
  | _, [], h => by
    have h' : DpAll K H _ [] := h
    cases h'
    exact .nil
  | _, p :: ps, h => by
    have h' : DpAll K H _ (dP p :: ps.map dP) := h
    cases h' with
    | cons q t => exact .cons (e.pr q) (e.prs t)
theorem Tp.hl (e : Tp H H') {v : V} {h : Hall} (x : HlV K H v h) : HlV K H' v h := by
  obtain ⟨a, b, qs, rfl, h1, h2, h3⟩ := hlV_open x
  exact hlV_of (e.sq h1) (e.sq h2) (e.prs h3)
theorem Tp.hls (e : Tp H H') : ∀ {vs : List V} {hs : List Hall}, DpAll K H vs (hs.map dH) → DpAll K H' vs (hs.map dH)
  | _, [], h => by
    have h' : DpAll K H _ [] := h
    cases h'
    exact .nil
  | _, p :: ps, h => by
    have h' : DpAll K H _ (dH p :: ps.map dH) := h
    cases h' with
    | cons q t => exact .cons (e.hl q) (e.hls t)
end
section
variable {X : Cx} {pins : List (Addr × Obj)} {σ : L2.St} {H : Hp} {s : Shared}
theorem prs_nested (I : Inv X pins σ H s) : ∀ {vs : List V} {us : List Value} {ps : List (Nat × Nat)}, DpAll X.K H vs (ps.map dP) → Vals vs us → NestedAll s.heap (ps.map kP) us
  | _, _, [], h, v => by
    have h' : DpAll X.K H _ [] := h
    cases h'
    cases v
    exact .nil
  | _, _, p :: ps, h, v => by
    have h' : DpAll X.K H _ (dP p :: ps.map dP) := h
    cases h' with
    | cons q t =>
      cases v with
      | cons r rt =>
        refine .cons ?_ (prs_nested I t rt)
        obtain ⟨a, rfl, h1⟩ := prV_open q
        cases r
        obtain ⟨its, rv, ⟨o, ho, hc, n, hd⟩, _⟩ := I.tuple h1
        cases rv with
        | cons r1 rv =>
          cases rv with
          | cons r2 rv =>
            cases rv
            obtain ⟨t1, rfl⟩ := r1
            obtain ⟨t2, rfl⟩ := r2
            exact .tup ho hc hd (.cons (.int _ _) (.cons (.int _ _) .nil))
/-- a hall is a key -/
theorem hl_key (I : Inv X pins σ H s) {a : Addr} {h : Hall} (x : HlV X.K H (.ref a) h) : (nestedKind X.prog X.w).is s.heap (kH h) a := by
  refine ⟨?_, kH_depth h⟩
  obtain ⟨a', b, qs, e, h1, h2, h3⟩ := hlV_open x
  cases e
  obtain ⟨its, rv, ⟨o, ho, hc, n, hd⟩, _⟩ := I.tuple h1
  cases rv with
  | cons r1 rv =>
    cases rv with
    | cons r2 rv =>
      cases rv
      obtain ⟨t1, rfl⟩ := r1
      cases r2
      obtain ⟨its2, rv2, ⟨o2, ho2, hc2, n2, hd2⟩, _⟩ := I.tuple h2
      exact .tup ho hc hd (.cons (.int _ _) (.cons (.tup ho2 hc2 hd2 (by simpa using prs_nested I h3 rv2)) .nil))
theorem hl_ref {K : PySem.W.Frag} {v : V} {h : Hall} (x : HlV K H v h) : ∃ a, v = .ref a := by
  obtain ⟨a, _, _, e, _⟩ := hlV_open x
  exact ⟨a, e⟩
end

/-! ### a dict whose keys are halls -/
/-- the very object that stands at d -/
def rawO (d : Addr) (o : Obj) : HO := .ext fun h => h.get? d = some o
theorem rawO_ok {P : Program} {w : World} {H : Hp} {h : Heap} {d : Addr} {o : Obj} (e : h.get? d = some o) : ObjOk P w H h d (rawO d o) := ⟨e, ⟨o, e⟩, fun _ _ q k => k _ q⟩
theorem rawO_get {P : Program} {w : World} {H : Hp} {h : Heap} {d : Addr} {o : Obj} (x : HOk P w H h) (e : H d = some (rawO d o)) : h.get? d = some o := (x d _ e).1
theorem rawO_nt {d : Addr} {o : Obj} : (∀ xs, rawO d o ≠ .tup xs) ∧ ∀ ob xs, rawO d o ≠ .frz ob (.tup xs) := ⟨(by intro _ q; cases q), (by intro _ _ q; cases q)⟩
structure NDict (P : Program) (w : World) (K : PySem.W.Frag) (H : Hp) (d : Addr) (ks : List Hall) : Prop where
  lo : (d == sysModules) = false
  ex : ∃ (o : Obj) (es : Array DictEntry) (ep : Nat) (xs : List (Hall × Addr × Value)), H d = some (rawO d o) ∧ o.ExactDict ∧ o.data = .dict es ep ∧
    es.toList = (xs.map fun x => (kH x.1, x.2)).map (entryOfKey (nestedKind P w)) ∧ xs.map (·.1) = ks ∧ ∀ x ∈ xs, HlV K H (.ref x.2.1) x.1
  nd : ks.Nodup
theorem NDict.keep {P : Program} {w : World} {K : PySem.W.Frag} {H H' : Hp} {d : Addr} {ks : List Hall} (D : NDict P w K H d ks) (hd : H' d = H d) (t : Tp H H') : NDict P w K H' d ks := by
  obtain ⟨o, es, ep, xs, h1, h2, h3, h4, h5, h6⟩ := D.ex
  exact ⟨D.lo, ⟨o, es, ep, xs, hd.trans h1, h2, h3, h4, h5, fun x hx => t.hl (h6 x hx)⟩, D.nd⟩
theorem NDict.same {P : Program} {w : World} {K : PySem.W.Frag} {H H' : Hp} {d : Addr} {ks : List Hall} (D : NDict P w K H d ks) (e : Same H H') : NDict P w K H' d ks := by
  obtain ⟨o, es, ep, xs, h1, h2, h3, h4, h5, h6⟩ := D.ex
  exact ⟨D.lo, ⟨o, es, ep, xs, e _ _ h1, h2, h3, h4, h5, fun x hx => dp_same e _ _ (h6 x hx)⟩, D.nd⟩
theorem atKey_mem : ∀ (xs : List (Hall × Addr × Value)) (h : Hall), (atKey (xs.map fun x => (kH x.1, x.2)) (kH h)).isSome = decide (h ∈ xs.map (·.1))
  | [], h => by simp [atKey]
  | x :: xs, h => by
    have ih := atKey_mem xs h
    by_cases e : x.1 = h
    · subst e
      simp [atKey]
    · have e' : ¬ kH x.1 = kH h := fun q => e (kH_inj q)
      have e1 : ¬ h = x.1 := fun q => e q.symm
      simp only [List.map_cons, atKey, List.find?_cons, decide_eq_false e', List.mem_cons, e1, false_or] at ih ⊢
      exact ih
section
variable {X : Cx}
theorem NDict.of {pins : List (Addr × Obj)} {σ : L2.St} {H : Hp} {s : Shared} {d : Addr} {ks : List Hall} (I : Inv X pins σ H s) (D : NDict X.prog X.w X.K H d ks) :
    ∃ xs : List (Hall × Addr × Value), s.heap.DictOfH (nestedKind X.prog X.w) d (xs.map fun x => (kH x.1, x.2)) ∧ xs.map (·.1) = ks ∧ ∀ x ∈ xs, HlV X.K H (.ref x.2.1) x.1 := by
  obtain ⟨o, es, ep, xs, h1, h2, h3, h4, h5, h6⟩ := D.ex
  refine ⟨xs, ⟨o, es, ep, rawO_get I.hok h1, h2, h3, h4, fun y hy => ?_, ?_⟩, h5, h6⟩
  · obtain ⟨x, hx, rfl⟩ := List.mem_map.mp hy
    exact hl_key I (h6 x hx)
  · rw [List.map_map]
    have e : ((fun x : NestedKey × Addr × Value => x.1) ∘ fun x : Hall × Addr × Value => (kH x.1, x.2)) = kH ∘ (fun x : Hall × Addr × Value => x.1) := rfl
    rw [e, ← List.map_map, h5]
    exact nodup_map D.nd fun a _ b _ q => kH_inj q
/-- h not in d -/
def rNotInN (P : Program) (w : World) (K : PySem.W.Frag) : R2 := fun x y H Q => ∃ (h : Hall) (d : Addr) (ks : List Hall), HlV K H x h ∧ y = .ref d ∧ NDict P w K H d ks ∧ Q (.bl (!decide (h ∈ ks))) H
theorem op_notInN (hu : X.A.units + 16 < cLine) : OpR X (compareOp .NotIn) (rNotInN X.prog X.w X.K) := by
  intro pins s σ H x y v u Q I rx ry q
  obtain ⟨h, d, ks, hx, rfl, D, q⟩ := q
  obtain ⟨a, rfl⟩ := hl_ref hx
  cases rx
  cases ry
  obtain ⟨xs, hd, e, _⟩ := NDict.of I D
  refine wpAny_notIn_heap (knd := nestedKind X.prog X.w) (show X.A.units + 1 + 8 < cLine by omega) (hl_key I hx) D.lo hd ?_
  rw [atKey_mem, e]
  exact ⟨.bl _, H, I.tok _, rfl, q⟩
/-- d[h] = i, h new -/
def rSetN (P : Program) (w : World) (K : PySem.W.Frag) : TSet := fun o i v H Q => ∃ (d : Addr) (h : Hall) (ks : List Hall) (j : Int), o = .ref d ∧ HlV K H i h ∧ v = .int j ∧ NDict P w K H d ks ∧ ¬ h ∈ ks ∧ ks.length < sizeLine ∧
  ∀ ob : Obj, NDict P w K (upd H d (rawO d ob)) d (ks ++ [h]) → Q (upd H d (rawO d ob))
theorem ndict_made {P : Program} {w : World} {K : PySem.W.Frag} {H : Hp} {h' : Heap} {d : Addr} {ks : List Hall} {xs : List (Hall × Addr × Value)} (lo : (d == sysModules) = false) (hd : h'.DictOfH (nestedKind P w) d (xs.map fun x => (kH x.1, x.2))) (e : xs.map (·.1) = ks) (nd : ks.Nodup)
    (hx : ∀ x ∈ xs, HlV K H (.ref x.2.1) x.1) {o0 : HO} (h0 : H d = some o0) (t1 : ∀ ys, o0 ≠ .tup ys) (t2 : ∀ ob ys, o0 ≠ .frz ob (.tup ys)) : ∃ ob, h'.get? d = some ob ∧ NDict P w K (upd H d (rawO d ob)) d ks := by
  obtain ⟨o, es, ep, h1, h2, h3, h4, _, _⟩ := hd
  exact ⟨o, h1, lo, ⟨o, es, ep, xs, upd_same, h2, h3, h4, e, fun x hm => (Tp.upd h0 t1 t2).hl (hx x hm)⟩, nd⟩
theorem set_N (hu : X.A.units + 16 < cLine) : PSet X (rSetN X.prog X.w X.K) := by
  intro pins s σ H o i v ov iv u Q I ro ri rv q
  obtain ⟨d, h, ks, j, rfl, hi, rfl, D, hn, hz, q⟩ := q
  obtain ⟨a, rfl⟩ := hl_ref hi
  cases ro
  cases ri
  obtain ⟨xs, hd, e, hx⟩ := NDict.of I D
  have en : (atKey (xs.map fun x => (kH x.1, x.2)) (kH h)).isSome = false := by
    rw [atKey_mem, e]
    exact decide_eq_false hn
  have es : storedH (xs.map fun x => (kH x.1, x.2)) (kH h) a u = (xs ++ [(h, a, u)]).map fun x => (kH x.1, x.2) := by
    unfold storedH
    rw [if_neg (by rw [en]; exact Bool.false_ne_true), List.map_append]
    rfl
  have lx : (xs.map fun x => (kH x.1, x.2)).length ≤ sizeLine := by
    have := congrArg List.length e
    rw [List.length_map] at this ⊢
    omega
  refine wpAny_setItem_heap (knd := nestedKind X.prog X.w) (hsz := lx) (show X.A.units + 1 + 8 < cLine by omega) (hl_key I hi) hd fun h' hd' hs => ?_
  rw [es] at hd'
  obtain ⟨o0, _, _, _, g1, _⟩ := D.ex
  obtain ⟨ob, g2, N⟩ := ndict_made (P := X.prog) (w := X.w) (K := X.K) (H := H) (ks := ks ++ [h]) D.lo hd' (by rw [List.map_append, e]; rfl) (List.nodup_append.mpr ⟨D.nd, List.nodup_cons.mpr ⟨(by intro m; cases m), List.nodup_nil⟩, fun x hx' y hy => by
      rw [List.mem_singleton.mp hy]
      intro z
      exact hn (z ▸ hx')⟩) (fun x hm => by
      rcases List.mem_append.mp hm with hm | hm
      · exact hx x hm
      · rw [List.mem_singleton.mp hm]
        exact hi) g1 rawO_nt.1 rawO_nt.2
  exact ⟨_, d_write I (by rw [g1]; exact True.intro) hs ⟨_, g2⟩ (rawO_ok g2), q ob N⟩
/-- {h: i} -/
def tDispN (P : Program) (w : World) (K : PySem.W.Frag) (tk tv : TE) : TE := fun σ H Q => ∀ p, H p = none → tk σ (upd H p (.dK [])) fun x H1 => tv σ H1 fun y H2 => H2 p = some (.dK []) ∧ ∃ (h : Hall) (j : Int), HlV K H2 x h ∧ y = .int j ∧
  ∀ ob : Obj, NDict P w K (upd H2 p (rawO p ob)) p [h] → Q (.ref p) (upd H2 p (rawO p ob))
theorem pe_dispN {k v : Expr} {tk tv : TE} {pos : Pos} (hu : X.A.units + 16 < cLine) (hk : PE X k tk) (hv : PE X v tv) : PE X (.Dict [some k] [v] pos) (tDispN X.prog X.w X.K tk tv) := by
  refine ⟨fun pins s σ H Q I q => ?_⟩
  have hn := I.hok.fresh (Nat.le_refl s.heap.objs.size)
  have I1 := I.laid (a := s.heap.objs.size) (o := .dK []) (t' := s.toks) (fun _ _ q => Heap.get?_push_of_some _ q) (Nat.le_refl _) (dk_empty s.heap I.big)
  have pl : (pairTrees [some k] [v] X.env pos).length = 1 := pairTrees_length [some k] [v] X.env pos rfl rfl
  have pz := zip_pairTrees [some k] [v] X.env pos rfl rfl
  have pn : pairTrees [some k] [v] X.env pos ≠ [] := by
    intro z
    rw [z] at pl
    cases pl
  rw [arm_eval_Dict, pz, dictDisplay_pairs _ pn (by rw [pl]; decide)]
  refine wpAny_bind (wpAny_standAt (wpAny_bind (wpAny_subDictH (knd := nestedKind X.prog X.w) (show X.A.units + 8 < cLine by omega) (by rw [pl]; decide) ?_)))
  refine pairTrees_cons_walk (thn (hk.run pins _ σ _ _ I1 (q _ hn)) fun u1 s1 ⟨x, H1, J1, r1, q1⟩ => thn (hv.run pins s1 σ H1 _ J1 q1) fun u2 s2 ⟨y, H2, J2, r2, e, h, j, hx, ey, q2⟩ => pairTrees_nil_walk ?_)
  obtain ⟨a, rfl⟩ := hl_ref hx
  cases r1
  subst ey
  obtain ⟨_, lo, vs, kv, o, es, ep, g1, g2, g3, _, g5, _⟩ := J2.hok _ _ e
  cases kv
  have ee : es.toList = [] := List.length_eq_zero_iff.mp g5.length
  refine ⟨[(kH h, a, u2)], ⟨rfl, rfl, hl_key J2 hx, trivial⟩, ⟨o, es, ep, g1, g2, g3, by rw [ee]; rfl, (by intro _ m; cases m), List.nodup_nil⟩, fun h' tk hd' hs => wpAny_pure ?_⟩
  have hd2 : h'.DictOfH (nestedKind X.prog X.w) s.heap.objs.size ([(h, a, u2)].map fun x => (kH x.1, x.2)) := hd'
  obtain ⟨ob, k2, N⟩ := ndict_made (P := X.prog) (w := X.w) (K := X.K) (H := H2) (ks := [h]) lo hd2 rfl (List.nodup_cons.mpr ⟨(by intro m; cases m), List.nodup_nil⟩) (fun z hz => by
    rw [List.mem_singleton.mp hz]
    exact hx) e (by intro _ q; cases q) (by intro _ _ q; cases q)
  exact ⟨.ref s.heap.objs.size, _, d_write (t' := tk) J2 (by rw [e]; exact True.intro) hs ⟨_, k2⟩ (rawO_ok k2), rfl, q2 ob N⟩
/-- sorted(d) -/
def rSortN (P : Program) (w : World) (K : PySem.W.Frag) : List V → Hp → VK → Prop := fun vs H Q => ∃ (d : Addr) (ks : List Hall), vs = [.ref d] ∧ NDict P w K H d ks ∧ ks.length ≤ sizeLine ∧ outS K dH ks H Q
theorem cr_sortN (hc : X.calm = true) (hu : X.A.units + 16 < cLine) : CallR X (.builtin "sorted") (rSortN X.prog X.w X.K) := by
  intro pins s σ H vs us Q I r h
  obtain ⟨d, ks, rfl, D, hz, q⟩ := h
  rw [Vals.ref1 r]
  obtain ⟨o, es, ep, xs, g1, g2, g3, g4, g5, g6⟩ := D.ex
  have go := rawO_get I.hok g1
  have ez : es.size = xs.length := by
    have e := congrArg List.length g4
    rw [Array.length_toList, List.length_map, List.length_map] at e
    exact e
  have kx : xs.length = ks.length := by rw [← g5, List.length_map]
  refine Calls.call_function_entry (Q := EP X pins σ Q) kind_sorted plain_sorted entry_sorted (args_sorted1 _) ?_
  unfold Builtin.«sorted»
  refine wpAny_bind (m := checkCount "sorted" 1 1 _) (wpAny_pure (wpAny_bind (W.kdu_collect (A := X.A.in1) (KdlSrc.rawDict (es := es) (ep := ep) D.lo) (I.ok.hd hc) ⟨o, go, g2, g3⟩ (by rw [ez, kx]; exact hz) fun h' tk acc hk ha => ?_)))
  have J : Inv X pins σ H { s with heap := h', toks := tk } := I.kept hk
  have ea : acc.toList = xs.map fun x => Value.ref x.2.1 := by
    refine List.ext_getElem (by rw [Array.length_toList, ha.1, List.length_map, ez]) fun i h1 h2 => ?_
    have hi : i < acc.size := by rw [← Array.length_toList]; exact h1
    obtain ⟨hj, e⟩ := ha.2 i _ (Array.getElem?_eq_getElem hi)
    rw [Array.getElem_toList, e, List.getElem_map]
    have hx : i < xs.length := by rw [List.length_map] at h2; exact h2
    have e3 : es[i]? = ((xs.map fun x => (kH x.1, x.2))[i]?).map (entryOfKey (nestedKind X.prog X.w)) := entry_at g4 i
    rw [Array.getElem?_eq_getElem hj, List.getElem?_map, List.getElem?_eq_getElem hx] at e3
    have e4 := Option.some.inj e3
    rw [e4]
    rfl
  have v : Vals (xs.map fun x => V.ref x.2.1) acc.toList := by
    rw [ea]
    clear ea g4 g5 g6 ez kx
    induction xs with
    | nil => exact .nil
    | cons x xs ih => exact .cons rfl ih
  have dd : DpAll X.K H (xs.map fun x => V.ref x.2.1) (ks.map dH) := by
    rw [← g5]
    clear ea g4 g5 ez kx v
    induction xs with
    | nil => exact .nil
    | cons x xs ih => exact .cons (g6 x List.mem_cons_self) (ih fun y hy => g6 y (List.mem_cons_of_mem _ hy))
  exact wpAny_bind (wpAny_mono (sort_gathered ord_H (A := X.A.in1) (show X.A.units + 1 + 7 < cLine by omega) (R := fun l s2 => EP X pins σ Q l s2) (E := fun e s1 => X.xe e s1) J v dd hz q fun p s' z => z) (fun l s1 h1 => wpAny_bind (wpAny_mono h1 (fun _ s2 h2 => wpAny_pure ⟨_, rfl, h2⟩) fun _ _ z => z)) fun _ _ z => z)
end
end TF
set_option autoImplicit false
set_option Elab.async false
set_option maxRecDepth 100000
set_option linter.all false
namespace TF
open PySem L2 PyProof.Rows

/-! ### sets: masks on which a search comes everywhere -/
structure Whole (m : Nat) : Prop where
  odd : m % 2 = 1
  low : m ≤ 511
  meets : ∀ (h : Int) (j : Nat), j ≤ m → ∃ n, n ≤ m + 12 ∧ runI m (SetTable.bits h) n = j
/-- the numbers that come from i on, as bits -/
def seenBits (m : Nat) : Nat → Nat → Nat → Nat
  | 0, _, acc => acc
  | f + 1, i, acc => seenBits m f ((i * 5 + 1) % (m + 1)) (acc ||| (1 <<< i))
theorem lcgI_front (m i : Nat) : ∀ k, lcgI m i (k + 1) = lcgI m ((i * 5 + 1) % (m + 1)) k
  | 0 => rfl
  | k + 1 => by
    show (lcgI m i (k + 1) * 5 + 1) % (m + 1) = (lcgI m ((i * 5 + 1) % (m + 1)) k * 5 + 1) % (m + 1)
    rw [lcgI_front m i k]
theorem seenBits_mem (m : Nat) : ∀ (f i acc j : Nat), (seenBits m f i acc).testBit j = true → acc.testBit j = true ∨ ∃ k, k < f ∧ lcgI m i k = j
  | 0, _, _, _, h => .inl h
  | f + 1, i, acc, j, h => by
    rcases seenBits_mem m f _ _ j h with q | ⟨k, hk, e⟩
    · rw [Nat.testBit_or, Bool.or_eq_true, Nat.one_shiftLeft, Nat.testBit_two_pow] at q
      rcases q with q | q
      · exact .inl q
      · exact .inr ⟨0, Nat.succ_pos _, of_decide_eq_true q⟩
    · exact .inr ⟨k + 1, Nat.succ_lt_succ hk, by rw [lcgI_front]; exact e⟩
set_option exponentiation.threshold 600 in
theorem all511 : seenBits 511 512 0 0 = 2 ^ 512 - 1 := by decide +kernel
theorem round511 : lcgI 511 0 512 = 0 := by decide +kernel
theorem lcgI_plus (m i a : Nat) : ∀ k, lcgI m (lcgI m i a) k = lcgI m i (a + k)
  | 0 => rfl
  | k + 1 => by
    show (lcgI m (lcgI m i a) k * 5 + 1) % (m + 1) = (lcgI m i (a + k) * 5 + 1) % (m + 1)
    rw [lcgI_plus m i a k]
theorem any511 {j : Nat} (h : j ≤ 511) : ∃ k, k < 512 ∧ lcgI 511 0 k = j := by
  have t : (seenBits 511 512 0 0).testBit j = true := by
    rw [all511, Nat.testBit_two_pow_sub_one]
    exact decide_eq_true (by omega)
  rcases seenBits_mem 511 512 0 0 j t with q | q
  · rw [Nat.zero_testBit] at q
    cases q
  · exact q
theorem from511 {i j : Nat} (hi : i ≤ 511) (hj : j ≤ 511) : ∃ k, k ≤ 511 ∧ lcgI 511 i k = j := by
  obtain ⟨a, ha, ea⟩ := any511 hi
  obtain ⟨b, hb, eb⟩ := any511 hj
  by_cases c : a ≤ b
  · refine ⟨b - a, by omega, ?_⟩
    rw [← ea, lcgI_plus, show a + (b - a) = b by omega, eb]
  · refine ⟨b + 512 - a, by omega, ?_⟩
    rw [← ea, lcgI_plus, show a + (b + 512 - a) = 512 + b by omega, ← lcgI_plus, round511, eb]
theorem whole511 : Whole 511 := ⟨rfl, Nat.le_refl _, fun h j hj => by
  obtain ⟨k, hk, e⟩ := from511 (runI_le 511 (SetTable.bits h) 12) hj
  exact ⟨12 + k, by omega, (runI_tail (bits_lt h) k).trans e⟩⟩
theorem whole_of {m : Nat} (h : MaskOk m) : Whole m := ⟨by rcases h with e | e | e <;> subst e <;> rfl, by rcases h with e | e | e <;> subst e <;> decide, fun z _ hj => run_meets h z hj⟩

/-! ### the table -/
theorem way_low {m : Nat} (h : Int) (k : Nat) : way m h k ≤ m := by
  have hi : SetTable.bits h % (m + 1) ≤ m := Nat.lt_succ_iff.mp (Nat.mod_lt _ (Nat.succ_pos _))
  have q := nth_in (m := m) k (runAt m (SetTable.bits h % (m + 1)) (SetTable.bits h)) (by
    have b := runEnd_bd hi
    show SetTable.bits h % (m + 1) + (SetTable.runEnd m (SetTable.bits h % (m + 1)) - SetTable.bits h % (m + 1)) ≤ m
    omega)
  exact Nat.le_trans (Nat.le_add_right _ _) q
theorem way_meets {m : Nat} (W : Whole m) (h : Int) {j : Nat} (hj : j ≤ m) : ∃ k, k < 10 * SetTable.turns m ∧ way m h k = j := by
  obtain ⟨n, hn, e⟩ := W.meets h j hj
  obtain ⟨k, hk, e'⟩ := run_nth m (SetTable.bits h) n
  refine ⟨k, by unfold SetTable.turns; omega, ?_⟩
  show (nth m (runAt m (SetTable.bits h % (m + 1)) (SetTable.bits h)) k).j = j
  rw [e', ← e]
  rfl
/-- every number of hs is found again on its way, ahead of an empty place -/
structure Tb (t : SetTable) (hs : List Int) : Prop where
  up : Ris t.place.toList
  clean : t.dummies = #[]
  same : t.place.size = hs.length
  whole : Whole t.mask
  within : ∀ x ∈ t.place.toList, x ≤ t.mask
  met : ∀ (i : Nat) (h : Int) (j : Nat), hs[i]? = some h → t.place.toList[i]? = some j → ∃ k, way t.mask h k = j ∧ ∀ k', k' < k → way t.mask h k' ∈ t.place.toList
theorem Tb.gap {t : SetTable} {hs : List Int} (T : Tb t hs) (l : hs.length ≤ t.mask) (h : Int) : ∃ K, K < 10 * SetTable.turns t.mask ∧ way t.mask h K ∉ t.place.toList ∧ ∀ k, k < K → way t.mask h k ∈ t.place.toList := by
  obtain ⟨j, hj, hn⟩ := st_missing t.place.toList (t.mask + 1) (by rw [Array.length_toList, T.same]; omega)
  obtain ⟨k, hk, e⟩ := way_meets T.whole h (Nat.lt_succ_iff.mp hj)
  obtain ⟨K, a, b, c⟩ := st_least (p := fun n => way t.mask h n ∉ t.place.toList) k (e ▸ hn)
  exact ⟨K, by omega, b, fun q hq => Classical.not_not.mp (c q hq)⟩
theorem Tb.ahead {t : SetTable} {hs : List Int} (T : Tb t hs) {h : Int} {K i j : Nat} (hK : way t.mask h K ∉ t.place.toList) (hi : hs[i]? = some h) (hj : t.place.toList[i]? = some j) : ∃ k, k < K ∧ way t.mask h k = j := by
  obtain ⟨k, e, b⟩ := T.met i h j hi hj
  have m : way t.mask h k ∈ t.place.toList := e ▸ List.mem_of_getElem? hj
  refine ⟨k, ?_, e⟩
  rcases Nat.lt_trichotomy k K with c | c | c
  · exact c
  · exact absurd (c ▸ m) hK
  · exact absurd (b K c) hK
theorem Tb.put {t : SetTable} {hs : List Int} (T : Tb t hs) {h : Int} {K : Nat} (hK : way t.mask h K ∉ t.place.toList) (hb : ∀ k, k < K → way t.mask h k ∈ t.place.toList) {p : Nat} (hp : p = SetTable.below t.place (way t.mask h K)) :
    p ≤ hs.length ∧ Tb (t.put (way t.mask h K)).1 (hs.take p ++ h :: hs.drop p) ∧ (t.put (way t.mask h K)).1.fill = hs.length + 1 := by
  have c1 : p ≤ t.place.toList.length := by
    rw [hp, Array.length_toList]
    exact (below_cut T.up _).1
  have ls : t.place.toList.length = hs.length := by rw [Array.length_toList, T.same]
  have lp : p ≤ hs.length := ls ▸ c1
  have pp : (t.put (way t.mask h K)).1.place.toList = t.place.toList.take p ++ way t.mask h K :: t.place.toList.drop p := by
    rw [hp]
    exact put_place t _
  have no : t.place[SetTable.below t.place (way t.mask h K)]? ≠ some (way t.mask h K) := fun e => hK (List.mem_of_getElem? (i := SetTable.below t.place (way t.mask h K)) (by rw [Array.getElem?_toList, e]))
  have sz : (t.put (way t.mask h K)).1.place.size = hs.length + 1 := by rw [← Array.length_toList, pp, len_ins _ c1, ls]
  have cl := put_dm T.clean (way t.mask h K)
  refine ⟨lp, ⟨ris_insert T.up no, cl, by rw [len_ins _ lp, sz], T.whole, fun x m => ?_, fun i g j h1 h2 => ?_⟩, ?_⟩
  · rw [pp] at m
    rcases mem_ins.1 m with e | m
    · rw [e]; exact way_low h K
    · exact T.within x m
  · have grow : ∀ x, x ∈ t.place.toList → x ∈ (t.put (way t.mask h K)).1.place.toList := fun x m => by
      rw [pp]
      exact mem_ins.2 (.inr m)
    have old : ∀ i', hs[i']? = some g → t.place.toList[i']? = some j → ∃ k, way t.mask g k = j ∧ ∀ k', k' < k → way t.mask g k' ∈ (t.put (way t.mask h K)).1.place.toList := fun i' q1 q2 => by
      obtain ⟨k, e, b⟩ := T.met i' g j q1 q2
      exact ⟨k, e, fun k' hk' => grow _ (b k' hk')⟩
    rw [tins_get hs lp] at h1
    rw [pp, tins_get _ c1] at h2
    show ∃ k, way t.mask g k = j ∧ ∀ k', k' < k → way t.mask g k' ∈ (t.put (way t.mask h K)).1.place.toList
    by_cases a1 : i < p
    · rw [if_pos a1] at h1 h2
      exact old i h1 h2
    by_cases a2 : i = p
    · rw [if_neg a1, if_pos a2] at h1 h2
      have e1 := Option.some.inj h1
      have e2 := Option.some.inj h2
      rw [← e1, ← e2]
      exact ⟨K, rfl, fun k hk => grow _ (hb k hk)⟩
    · rw [if_neg a1, if_neg a2] at h1 h2
      exact old (i - 1) h1 h2
  · show (t.put (way t.mask h K)).1.place.size + (t.put (way t.mask h K)).1.dummies.size = hs.length + 1
    rw [sz, cl]
    rfl

/-! ### laid anew -/
theorem free_at {m : Nat} (W : Whole m) (ow : Array (Option Nat)) (h : Int) {j : Nat} (hj : j ≤ m) (e : oAt ow j = none) :
    ∃ K, SetTable.layClean.free m ow (SetTable.turns m) (SetTable.bits h % (m + 1)) (SetTable.bits h) = some (way m h K) ∧ oAt ow (way m h K) = none ∧ ∀ k, k < K → oAt ow (way m h k) ≠ none := by
  obtain ⟨n, hn, en⟩ := W.meets h j hj
  have at0 : way m h (L2.off m (SetTable.bits h % (m + 1)) (SetTable.bits h) n) = j := by
    have q := congrArg SetTable.Probe.j (nth_off m n (SetTable.bits h % (m + 1)) (SetTable.bits h))
    rw [itL_run] at q
    exact q.trans en
  obtain ⟨K, a, b, c⟩ := st_least (p := fun k => oAt ow (way m h k) = none) _ (show oAt ow (way m h (L2.off m (SetTable.bits h % (m + 1)) (SetTable.bits h) n)) = none by rw [at0]; exact e)
  refine ⟨K, free_spec m ow (SetTable.turns m) n _ _ K (by unfold SetTable.turns; omega) a (fun k hk => ?_) ?_, b, c⟩
  · cases q : oAt ow (way m h k) with
    | none => exact absurd q (c k hk)
    | some z => rfl
  · show (oAt ow (way m h K)).isNone = true
    rw [b]
    rfl
theorem own_more {m : Nat} (W : Whole m) {done : List Int} {ow : Array (Option Nat)} (O : Own m done ow) (l : done.length ≤ m) (h : Int) :
    ∃ j, SetTable.layClean.free m ow (SetTable.turns m) (SetTable.bits h % (m + 1)) (SetTable.bits h) = some j ∧ Own m (done ++ [h]) (ow.setIfInBounds j (some done.length)) := by
  obtain ⟨ps, lp, hp⟩ := O.ps
  obtain ⟨j0, a0, b0⟩ := st_missing ps (m + 1) (by omega)
  have j0m : j0 ≤ m := Nat.lt_succ_iff.mp a0
  have free0 : oAt ow j0 = none := Classical.byContradiction fun z => b0 (hp j0 j0m z)
  obtain ⟨K, e1, e2, e3⟩ := free_at W ow h j0m free0
  generalize hw : way m h K = j at e1 e2
  have jm : j ≤ m := hw ▸ way_low h K
  have js : j < ow.size := by rw [O.sz]; omega
  have here := oAt_set_self (some done.length) js
  have there : ∀ i, i ≠ j → oAt (ow.setIfInBounds j (some done.length)) i = oAt ow i := fun i hi => oAt_set_ne _ hi
  have kept : ∀ i, oAt ow i ≠ none → oAt (ow.setIfInBounds j (some done.length)) i ≠ none := fun i hi => by
    by_cases c : i = j
    · rw [c, here]; exact Option.some_ne_none _
    · rw [there i c]; exact hi
  refine ⟨j, e1, ⟨by rw [Array.size_setIfInBounds, O.sz], fun i k hi e => ?_, fun k hk => ?_, ⟨j :: ps, by simp [lp], fun i hi e => ?_⟩⟩⟩
  · by_cases c : i = j
    · rw [c, here] at e
      have ek := Option.some.inj e
      exact ⟨h, K, by rw [← ek]; simp, by rw [c, hw], fun k' hk' => kept _ (e3 k' hk')⟩
    · rw [there i c] at e
      obtain ⟨g, K', q1, q2, q3⟩ := O.at_ i k hi e
      exact ⟨g, K', by rw [List.getElem?_append_left (List.getElem?_eq_some_iff.mp q1).1]; exact q1, q2, fun k' hk' => kept _ (q3 k' hk')⟩
  · by_cases c : k < done.length
    · obtain ⟨i, hi, e⟩ := O.all k c
      exact ⟨i, hi, by rw [there i (by rintro rfl; rw [e2] at e; cases e)]; exact e⟩
    · have ek : k = done.length := by
        rw [List.length_append, List.length_singleton] at hk
        omega
      exact ⟨j, jm, by rw [ek]; exact here⟩
  · by_cases c : i = j
    · rw [c]; exact List.mem_cons_self
    · rw [there i c] at e
      exact List.mem_cons_of_mem _ (hp i hi e)
theorem lay_all {m : Nat} (W : Whole m) : ∀ (more done : List Int) (ow : Array (Option Nat)), Own m done ow → done.length + more.length ≤ m →
    ∃ ow', more.foldl (stepF m) (some (ow, done.length)) = some (ow', (done ++ more).length) ∧ Own m (done ++ more) ow'
  | [], done, ow, O, _ => ⟨ow, by simp, by simpa using O⟩
  | h :: more, done, ow, O, l => by
    have l' : done.length + 1 + more.length ≤ m := by rw [List.length_cons] at l; omega
    obtain ⟨j, e, O'⟩ := own_more W O (by omega) h
    obtain ⟨ow', e', O2⟩ := lay_all W more (done ++ [h]) _ O' (by simpa using l')
    have ea : done ++ [h] ++ more = done ++ h :: more := by simp
    have el : (done ++ [h]).length = done.length + 1 := by simp
    rw [ea] at O2 e'
    rw [el] at e'
    exact ⟨ow', by rw [List.foldl_cons, stepF_some e]; exact e', O2⟩
theorem relaid_to (t : SetTable) {hs : Array Int} {wanted M : Nat} (hw : SetTable.sizeAbove wanted - 1 = M) (W : Whole M) (hn : hs.size ≤ M) :
    ∃ t' order, t.relaid hs wanted = some (t', order) ∧ order.toList.Perm (List.range hs.size) ∧ Tb t' (order.toList.map fun i => hs.getD i 0) ∧ t'.mask = M ∧ t'.led = t.led ∧ t'.plain = t.plain := by
  obtain ⟨ow, e, O⟩ := lay_all W hs.toList [] _ (Own.init M) (by simpa using hn)
  rw [List.nil_append] at e O
  have cl : SetTable.layClean M hs = some ow := by
    rw [layClean_eq]
    exact congrArg (Option.map _) e
  have er : t.relaid hs wanted = some (tabOf t M ow, ((liveOf M ow).map (·.2)).toArray) := by
    rw [relaid_eq, hw, cl]
    rfl
  have up := ris_live (fun j => ow.getD j none) (List.range (M + 1)) (by
    unfold Ris
    exact List.pairwise_lt_range)
  have u1 : Ris ((liveOf M ow).map (·.1)) := up.1
  have u2 : ∀ x ∈ (liveOf M ow).map (·.1), x ∈ List.range (M + 1) := up.2
  have every : ∀ k, k < hs.size → k ∈ (liveOf M ow).map (·.2) := fun k hk => by
    obtain ⟨j, q1, q2⟩ := O.all k (by rw [Array.length_toList]; exact hk)
    exact List.mem_map.mpr ⟨(j, k), (mem_live O.sz).2 ⟨q1, q2⟩, rfl⟩
  have len : (liveOf M ow).length = hs.size := by
    obtain ⟨ps, p1, p2⟩ := O.ps
    have a := nat_nodup_len ((liveOf M ow).map (·.1)) ps (List.Pairwise.imp (fun {a b : Nat} (z : a < b) => Nat.ne_of_lt z) (show List.Pairwise (· < ·) ((liveOf M ow).map (·.1)) from u1)) fun x hx => by
      obtain ⟨⟨y, k⟩, hq, rfl⟩ := List.mem_map.mp hx
      obtain ⟨b1, b2⟩ := (mem_live O.sz).1 hq
      exact p2 y b1 (by rw [b2]; exact Option.some_ne_none _)
    have b := nat_nodup_len (List.range hs.size) ((liveOf M ow).map (·.2)) List.nodup_range fun k hk => every k (List.mem_range.mp hk)
    have lz : hs.toList.length = hs.size := rfl
    rw [List.length_map, p1, lz] at a
    rw [List.length_map, List.length_range] at b
    omega
  refine ⟨_, _, er, perm_range hs.size _ (by show ((liveOf M ow).map (·.2)).length = _; rw [List.length_map, len]) every, ⟨u1, rfl, ?_, W, fun x hx => Nat.lt_succ_iff.mp (List.mem_range.mp (u2 x hx)), fun i h j h1 h2 => ?_⟩, rfl, rfl, rfl⟩
  · show ((liveOf M ow).map (·.1)).toArray.size = (((liveOf M ow).map (·.2)).map fun i => hs.getD i 0).length
    simp
  · have g1 : (((liveOf M ow).map (·.2)).map fun i => hs.getD i 0)[i]? = some h := h1
    have g2 : ((liveOf M ow).map (·.1))[i]? = some j := h2
    cases hq : (liveOf M ow)[i]? with
    | none => simp [hq] at g2
    | some q =>
      obtain ⟨y, k⟩ := q
      rw [List.getElem?_map, List.getElem?_map, hq] at g1
      rw [List.getElem?_map, hq] at g2
      have e1 : hs.getD k 0 = h := Option.some.inj g1
      have e2 : y = j := Option.some.inj g2
      obtain ⟨b1, b2⟩ := (mem_live O.sz).1 (List.mem_of_getElem? hq)
      obtain ⟨g, K, a1, a2, a3⟩ := O.at_ y k b1 b2
      have e3 : hs.getD k 0 = g := by
        rw [Array.getD_eq_getD_getElem?, ← Array.getElem?_toList, a1]
        rfl
      have e4 : g = h := e3.symm.trans e1
      rw [← e4, ← e2]
      refine ⟨K, a2, fun k' hk' => ?_⟩
      show way M g k' ∈ (liveOf M ow).map (·.1)
      cases z : oAt ow (way M g k') with
      | none => exact absurd z (a3 k' hk')
      | some k2 => exact List.mem_map.mpr ⟨(way M g k', k2), (mem_live O.sz).2 ⟨way_low g k', z⟩, rfl⟩
theorem above4 : SetTable.sizeAbove (SetTable.grown 5) = 32 := by decide +kernel
theorem above18 : SetTable.sizeAbove (SetTable.grown 19) = 128 := by decide +kernel
theorem above76 : SetTable.sizeAbove (SetTable.grown 77) = 512 := by decide +kernel
end TF
set_option autoImplicit false
set_option Elab.async false
set_option maxRecDepth 100000
set_option linter.all false
namespace TF
open PySem L2 PyProof.Rows

/-! ### questions asked of a key -/
mutual
def numK : NestedKey → Bool
  | .none => true
  | .num _ => true
  | .text _ => false
  | .tup ks => numKs ks
def numKs : List NestedKey → Bool
  | [] => true
  | k :: ks => numK k && numKs ks
end
theorem numK_P : ∀ ps : List (Nat × Nat), numKs (ps.map kP) = true
  | [] => rfl
  | p :: ps => by
    show (numK (kP p) && numKs (ps.map kP)) = true
    rw [numK_P ps]
    rfl
theorem numK_H (h : Hall) : numK (kH h) = true := by
  show (true && (numKs (h.2.map kP) && true)) = true
  rw [numK_P]
  rfl
section
variable {P : Program} {w : World}
/-- a question that a value answers with b, and leaves all as it is -/
def Says (s : Shared) (b : Bool) (q : Sem Bool) : Prop := ∀ (A : Around) (E : Value → Shared → Prop) (Q : Bool → Shared → Prop), Q b s → wpAny (model P w) A q Q E s
mutual
theorem says_hash : ∀ (k : NestedKey) (v : Value) (n : Nat) (s : Shared), NestedIs s.heap k v → numK k = true → k.depth ≤ n → Says (P := P) (w := w) s true (hashByValue n v)
  | .none, _, n, s, x, _, _ => by
    cases x
    intro A E Q q
    cases n <;> exact wpAny_pure q
  | .num i, _, n, s, x, _, _ => by
    intro A E Q q
    cases x <;> cases n <;> exact wpAny_pure q
  | .text y, _, n, s, x, z, _ => nomatch z
  | .tup ks, _, 0, s, x, z, d => by
    simp only [NestedKey.depth] at d
    omega
  | .tup ks, _, n + 1, s, x, z, d => by
    cases x with
    | @tup a o vs m _ h1 h2 h3 h4 =>
      intro A E Q q
      simp only [NestedKey.depth] at d
      have all := says_hashes ks _ n s h4 z (by omega)
      have T : s.TypeIs (.ref a) "tuple" := ⟨_, h1, h2⟩
      unfold hashByValue
      refine wpAny_bind (wpAny_specialOf T F.slot_tuple_hash.lookup (wpAny_bind (wpAny_seqItems h1 h3 (wpAny_bind ?_))))
      show wpAny _ _ (forIn _ _ _) _ _ s
      rw [← Array.forIn_toList]
      refine wpAny_forIn_list _ (fun more r s' => (r.1 = none ∧ s' = s) ∧ ∀ v ∈ more, Says (P := P) (w := w) s true (hashByValue n v)) _ ?_ ?_ _ _ ⟨⟨rfl, rfl⟩, all⟩
      · rintro v more r s' ⟨⟨hr, rfl⟩, a⟩
        refine wpAny_bind (a v List.mem_cons_self _ _ _ (wpAny_pure ⟨⟨rfl, rfl⟩, fun u hu => a u (List.mem_cons_of_mem _ hu)⟩))
      · rintro ⟨r1, r2⟩ s' ⟨⟨hr, rfl⟩, _⟩
        have hr' : r1 = none := hr
        subst hr'
        exact wpAny_pure q
theorem says_hashes : ∀ (ks : List NestedKey) (vs : List Value) (n : Nat) (s : Shared), NestedAll s.heap ks vs → numKs ks = true → NestedKey.depthAll ks ≤ n → ∀ v ∈ vs, Says (P := P) (w := w) s true (hashByValue n v)
  | [], _, n, s, x, _, _, v, hv => by cases x; cases hv
  | k :: ks, _, n, s, x, z, d, v, hv => by
    cases x with
    | cons x1 x2 =>
      have z' : (numK k && numKs ks) = true := z
      rw [Bool.and_eq_true] at z'
      simp only [NestedKey.depthAll] at d
      rcases List.mem_cons.mp hv with e | hv
      · rw [e]
        exact says_hash k _ n s x1 z'.1 (by omega)
      · exact says_hashes ks _ n s x2 z'.2 (by omega) v hv
end
mutual
theorem says_cls : ∀ (k : NestedKey) (v : Value) (n : Nat) (s : Shared), NestedIs s.heap k v → k.depth ≤ n → Says (P := P) (w := w) s false (ofAClassStatement n v)
  | .none, _, n, s, x, _ => by
    cases x
    intro A E Q q
    cases n <;> exact wpAny_pure q
  | .num i, _, n, s, x, _ => by
    intro A E Q q
    cases x <;> cases n <;> exact wpAny_pure q
  | .text y, _, n, s, x, _ => by
    cases x
    intro A E Q q
    cases n <;> exact wpAny_pure q
  | .tup ks, _, 0, s, x, d => by
    simp only [NestedKey.depth] at d
    omega
  | .tup ks, _, n + 1, s, x, d => by
    cases x with
    | @tup a o vs m _ h1 h2 h3 h4 =>
      intro A E Q q
      simp only [NestedKey.depth] at d
      have all := says_clss ks _ n s h4 (by omega)
      have T : s.TypeIs (.ref a) "tuple" := ⟨_, h1, h2⟩
      unfold ofAClassStatement
      refine wpAny_bind (wpAny_typeOf T ?_)
      show wpAny _ _ (seqItems? _ >>= _) _ _ s
      refine wpAny_bind (wpAny_seqItems h1 h3 (wpAny_bind ?_))
      show wpAny _ _ (forIn _ _ _) _ _ s
      rw [← Array.forIn_toList]
      refine wpAny_forIn_list _ (fun more r s' => (r.1 = none ∧ s' = s) ∧ ∀ v ∈ more, Says (P := P) (w := w) s false (ofAClassStatement n v)) _ ?_ ?_ _ _ ⟨⟨rfl, rfl⟩, all⟩
      · rintro v more r s' ⟨⟨hr, rfl⟩, a⟩
        refine wpAny_bind (a v List.mem_cons_self _ _ _ (wpAny_pure ⟨⟨rfl, rfl⟩, fun u hu => a u (List.mem_cons_of_mem _ hu)⟩))
      · rintro ⟨r1, r2⟩ s' ⟨⟨hr, rfl⟩, _⟩
        have hr' : r1 = none := hr
        subst hr'
        exact wpAny_pure q
theorem says_clss : ∀ (ks : List NestedKey) (vs : List Value) (n : Nat) (s : Shared), NestedAll s.heap ks vs → NestedKey.depthAll ks ≤ n → ∀ v ∈ vs, Says (P := P) (w := w) s false (ofAClassStatement n v)
  | [], _, n, s, x, _, v, hv => by cases x; cases hv
  | k :: ks, _, n, s, x, d, v, hv => by
    cases x with
    | cons x1 x2 =>
      simp only [NestedKey.depthAll] at d
      rcases List.mem_cons.mp hv with e | hv
      · rw [e]
        exact says_cls k _ n s x1 (by omega)
      · exact says_clss ks _ n s x2 (by omega) v hv
end
/-- the value at a is the hall -/
abbrev IsK (P : Program) (w : World) (hp : Heap) (h : Hall) (a : Addr) : Prop := (nestedKind P w).is hp (kH h) a
theorem says_seen {s : Shared} {h : Hall} {b : Addr} (x : IsK P w s.heap h b) {ys : List Value} (hy : ∀ y ∈ ys, ∃ g c, y = Value.ref c ∧ IsK P w s.heap g c) : Says (P := P) (w := w) s false (searchCouldBeSeen (.ref b) ys) := by
  intro A E Q q
  unfold searchCouldBeSeen
  refine wpAny_bind (wpAny_forIn_list _ (fun more r s' => (r.1 = none ∧ s' = s) ∧ ∀ y ∈ more, ∃ g c, y = Value.ref c ∧ IsK P w s.heap g c) _ ?_ ?_ _ _ ⟨⟨rfl, rfl⟩, hy⟩)
  · rintro v more r s' ⟨⟨hr, rfl⟩, a⟩
    obtain ⟨g, c, rfl, y⟩ := a v List.mem_cons_self
    have a' : ∀ u ∈ more, ∃ g c, u = Value.ref c ∧ IsK P w s'.heap g c := fun u hu => a u (List.mem_cons_of_mem _ hu)
    have go : Says (P := P) (w := w) s' false (ofAClassStatement 8 (.ref b)) ∧ Says (P := P) (w := w) s' false (ofAClassStatement 8 (.ref c)) := ⟨says_cls _ _ 8 _ x.1 (kH_depth h), says_cls _ _ 8 _ y.1 (kH_depth g)⟩
    dsimp only
    by_cases e : (b == c || (carriedByValue (.ref b) && carriedByValue (.ref c))) = true
    · exact wp_if_pos e (wpAny_pure ⟨⟨rfl, rfl⟩, a'⟩)
    · refine wp_if_neg e (wpAny_bind ((nestedKind P w).quiet x (wpAny_bind ((nestedKind P w).quiet y (wpAny_bind (go.1 _ _ _ (wpAny_bind (go.2 _ _ _ (wpAny_pure ⟨⟨rfl, rfl⟩, a'⟩)))))))))
  · rintro ⟨r1, r2⟩ s' ⟨⟨hr, rfl⟩, _⟩
    have hr' : r1 = none := hr
    subst hr'
    exact wpAny_pure q
end
end TF
set_option autoImplicit false
set_option Elab.async false
set_option maxRecDepth 100000
set_option linter.all false
namespace TF
open PySem L2 PyProof.Rows

section
variable {P : Program} {w : World}
/-- the number that a hall is kept by -/
def hn (P : Program) (w : World) (h : Hall) : Int := (nestedKind P w).hash (kH h)
def Mask4 (m : Nat) : Prop := m = 7 ∨ m = 31 ∨ m = 127 ∨ m = 511
structure SetH (P : Program) (w : World) (hp : Heap) (a : Addr) (L : List (Addr × Hall)) (es : Array (Int × Value)) (ep : Nat) (t : SetTable) : Prop where
  ob : ∃ o, hp.get? a = some o ∧ o.ExactSet ∧ o.data = .set es ep t
  rows : es.toList = L.map fun p => (hn P w p.2, Value.ref p.1)
  tab : Tb t (L.map fun p => hn P w p.2)
  nd : (L.map (·.2)).Nodup
  key : ∀ p ∈ L, IsK P w hp p.2 p.1
  plain : t.plain = true
  led : w.params.followText "set-order" = true ∨ t.led = true
  room : L.length * 5 < t.mask * 3
  mask : Mask4 t.mask
variable {hp : Heap} {a : Addr} {L : List (Addr × Hall)} {es : Array (Int × Value)} {ep : Nat} {t : SetTable}
theorem SetH.len (R : SetH P w hp a L es ep t) : es.size = L.length := by
  have e := congrArg List.length R.rows
  rw [Array.length_toList, List.length_map] at e
  exact e
theorem SetH.placed (R : SetH P w hp a L es ep t) : t.place.size = L.length := by
  have e := R.tab.same
  rw [List.length_map] at e
  exact e
theorem fits_of {t : SetTable} {n : Nat} (h1 : t.place.size = n) (h2 : t.dummies = #[]) (h3 : n ≤ t.mask) : t.fits n = true := by
  unfold SetTable.fits SetTable.fill
  rw [h1, h2]
  simp [h3]
theorem SetH.fits (R : SetH P w hp a L es ep t) : t.fits es.size = true := fits_of (R.placed.trans R.len.symm) R.tab.clean (by have := R.room; rw [R.len]; omega)
theorem SetH.at (R : SetH P w hp a L es ep t) {i : Nat} {p : Addr × Hall} (e : L[i]? = some p) : es[i]? = some (hn P w p.2, Value.ref p.1) := by
  rw [← Array.getElem?_toList, R.rows, List.getElem?_map, e]
  rfl
theorem SetH.gave (R : SetH P w hp a L es ep t) : ¬ t.gaveWay = true := by
  unfold SetTable.gaveWay
  rw [R.tab.whole.odd]
  decide
/-- where a search for h begins -/
abbrev st0 (P : Program) (w : World) (t : SetTable) (h : Hall) : SetTable.Probe := runAt t.mask (SetTable.bits (hn P w h) % (t.mask + 1)) (SetTable.bits (hn P w h))
abbrev wy (P : Program) (w : World) (t : SetTable) (h : Hall) (k : Nat) : Nat := way t.mask (hn P w h) k
theorem nth_none (m : Nat) : ∀ (k : Nat) (p : SetTable.Probe), p.dummy = none → (nth m p k).dummy = none
  | 0, _, h => h
  | k + 1, p, h => nth_none m k (adv m p) (by unfold adv; split <;> exact h)

variable {s : Shared} {A : Around} {E : Value → Shared → Prop}
set_option maxHeartbeats 1000000 in
/-- the search, from the c-th place of its way on -/
theorem seek (R : SetH P w s.heap a L es ep t) {x : Addr} {h : Hall} (hx : IsK P w s.heap h x) (hu : A.units + 8 < cLine) {K : Nat} (lK : K < 10 * SetTable.turns t.mask) (nK : wy P w t h K ∉ t.place.toList) (bK : ∀ c, c < K → wy P w t h c ∈ t.place.toList)
    {Q : SetFound → Shared → Prop} (q1 : h ∈ L.map (·.2) → Q (.there none) s) (q2 : h ∉ L.map (·.2) → Q (.free (wy P w t h K) false) s) :
    ∀ (f c : Nat) (from? : Option SetTable.Probe), from?.getD (t.probeStart (hn P w h)) = nth t.mask (st0 P w t h) c → c ≤ K → K < f + c →
      (∀ (i : Nat) (p : Addr × Hall), L[i]? = some p → p.2 = h → ∃ c', c ≤ c' ∧ c' < K ∧ t.place.toList[i]? = some (wy P w t h c')) →
      wpAny (model P w) A (setSearchFrom a (.ref x) (hn P w h) true f from?) Q E s := by
  intro f
  induction f with
  | zero =>
    intro c _ _ h1 h2 _
    omega
  | succ f ih =>
    intro c from? ef hc hf ahead
    obtain ⟨o, ho, hex, hd⟩ := R.ob
    have shift : ∀ n, nth t.mask (nth t.mask (st0 P w t h) c) n = nth t.mask (st0 P w t h) (c + n) := fun n => (nth_add t.mask c _ n).symm
    have wsh : ∀ n, (nth t.mask (nth t.mask (st0 P w t h) c) n).j = wy P w t h (c + n) := fun n => congrArg SetTable.Probe.j (shift n)
    have hash : ∀ (i : Nat) (p : Addr × Hall), L[i]? = some p → ((es[i]?.map (·.1)).getD 0) = hn P w p.2 := fun i p e => by
      rw [R.at e, Option.map_some, Option.getD_some]
    rw [setSearchFrom_succ]
    refine wpAny_bind (wpAny_setState_of ho hd R.fits (wp_if_neg R.gave ?_))
    rcases go_spec t R.tab.up R.tab.clean (fun i => (es[i]?.map (·.1)).getD 0) (hn P w h) (10 * SetTable.turns t.mask) (K - c) (nth t.mask (st0 P w t h) c) (nth_none _ c _ rfl) (by omega)
      (fun n hn' => by rw [wsh]; exact bK _ (by omega)) (by rw [wsh, show c + (K - c) = K by omega]; exact nK) with ⟨n, i, g1, g2, g3, g4, g5⟩ | ⟨g1, g2⟩
    · rw [wsh] at g2
      have pr : t.probe (fun i => (es[i]?.map (·.1)).getD 0) (hn P w h) (from?.getD (t.probeStart (hn P w h))) = some (.candidate (wy P w t h (c + n)) i (nth t.mask (st0 P w t h) (c + (n + 1)))) := by
        rw [ef, ← wsh, ← shift]
        exact g5
      rw [pr]
      have il : i < L.length := by
        have e := (List.getElem?_eq_some_iff.mp g2).1
        rw [Array.length_toList, R.placed] at e
        exact e
      obtain ⟨p, ep0⟩ : ∃ p, L[i]? = some p := ⟨_, List.getElem?_eq_getElem il⟩
      have pm := List.mem_of_getElem? ep0
      have live : t.slot (wy P w t h (c + n)) = .live i := slot_live R.tab.up g2
      have body : wpAny (model P w) A (searchRest a (.ref x) (hn P w h) true f es t (wy P w t h (c + n)) i (nth t.mask (st0 P w t h) (c + (n + 1)))) Q E s := by
        unfold searchRest
        rw [R.at ep0]
        refine wpAny_bind (wpAny_holding ((nestedKind P w).eqBool (show A.units + 8 < cLine from hu) (R.key p pm) hx (wpAny_bind (wpAny_setState_of ho hd R.fits ?_))))
        by_cases same : p.2 = h
        · exact wp_if_pos (by simp [same]) (wpAny_pure (q1 (List.mem_map.mpr ⟨p, pm, same⟩)))
        · have nk : ¬ kH p.2 = kH h := fun z => same (kH_inj z)
          refine wp_if_neg (by simp [nk]) ?_
          rw [sameMem]
          simp only [if_true, live, R.at ep0]
          refine wpAny_bind (wpAny_isSame_ref_self (wpAny_bind (wpAny_pure ?_)))
          simp only [if_true]
          refine wp_if_neg (by simp [nk]) ?_
          refine ih (c + (n + 1)) _ rfl (by omega) (by omega) fun i0 p0 e0 k0 => ?_
          obtain ⟨c', a1, a3, a2⟩ := ahead i0 p0 e0 k0
          refine ⟨c', ?_, a3, a2⟩
          by_cases z1 : c' < c + n
          · refine absurd ((hash i0 p0 e0).trans (congrArg (hn P w) k0)) (g4 (c' - c) i0 (by omega) ?_)
            rw [wsh, show c + (c' - c) = c' by omega]
            exact a2
          · by_cases z2 : c' = c + n
            · rw [z2] at a2
              have l0 := slot_live R.tab.up a2
              rw [live] at l0
              have ei : i = i0 := by injection l0
              rw [← ei, ep0] at e0
              exact absurd ((congrArg Prod.snd (Option.some.inj e0)).trans k0) same
            · omega
      by_cases ld : t.led = true
      · exact wp_if_neg (by simp [ld]) body
      · refine wp_if_pos (by simp [ld]) (wpAny_bind (says_seen (P := P) (w := w) hx (fun y hy => ?_) _ _ _ (wp_if_neg (by decide) body)))
        obtain ⟨e, he, rfl⟩ := List.mem_map.mp hy
        have hm : e ∈ es.toList := by
          have z : e ∈ es ∧ e.1 = hn P w h := by simpa using he
          simpa using z.1
        rw [R.rows] at hm
        obtain ⟨p, pm2, rfl⟩ := List.mem_map.mp hm
        exact ⟨p.2, p.1, rfl, R.key p pm2⟩
    · have pr : t.probe (fun i => (es[i]?.map (·.1)).getD 0) (hn P w h) (from?.getD (t.probeStart (hn P w h))) = some (.empty (wy P w t h K) none) := by
        have e := wsh (K - c)
        rw [show c + (K - c) = K by omega] at e
        rw [ef, ← e]
        exact g2
      rw [pr]
      refine wpAny_pure (q2 fun m => ?_)
      obtain ⟨p, pm, same⟩ := List.mem_map.mp m
      obtain ⟨i, il, ei⟩ := List.getElem_of_mem pm
      have e0 : L[i]? = some p := by rw [List.getElem?_eq_getElem il, ei]
      obtain ⟨c', a1, a3, a2⟩ := ahead i p e0 same
      refine absurd ((hash i p e0).trans (congrArg (hn P w) same)) (g1 (c' - c) i (by omega) ?_)
      rw [wsh, show c + (c' - c) = c' by omega]
      exact a2
end
end TF
set_option autoImplicit false
set_option Elab.async false
set_option maxRecDepth 100000
set_option linter.all false
namespace TF
open PySem L2 PyProof.Rows

section
variable {P : Program} {w : World} {a : Addr} {L : List (Addr × Hall)} {es : Array (Int × Value)} {ep : Nat} {t : SetTable} {s : Shared} {A : Around} {E : Value → Shared → Prop}
theorem search_H (R : SetH P w s.heap a L es ep t) {x : Addr} {h : Hall} (hx : IsK P w s.heap h x) (hu : A.units + 8 < cLine) {Q : SetFound → Shared → Prop} (q1 : h ∈ L.map (·.2) → Q (.there none) s)
    (q2 : ∀ K, h ∉ L.map (·.2) → wy P w t h K ∉ t.place.toList → (∀ c, c < K → wy P w t h c ∈ t.place.toList) → Q (.free (wy P w t h K) false) s) :
    wpAny (model P w) A (setSearch a (.ref x) (hn P w h) true) Q E s := by
  obtain ⟨K, lK, nK, bK⟩ := R.tab.gap (by have := R.room; rw [List.length_map]; omega) (hn P w h)
  have big : 10 * SetTable.turns t.mask ≤ 5260 := by
    have := R.tab.whole.low
    unfold SetTable.turns
    omega
  unfold setSearch
  refine seek R hx hu lK nK bK q1 (fun m => q2 K m nK bK) 100000 0 none rfl (Nat.zero_le _) (by omega) fun i p e0 k0 => ?_
  have hi : (L.map fun p => hn P w p.2)[i]? = some (hn P w h) := by rw [List.getElem?_map, e0, ← k0]; rfl
  have il : i < t.place.toList.length := by
    rw [Array.length_toList, R.placed]
    exact (List.getElem?_eq_some_iff.mp e0).1
  have hj := List.getElem?_eq_getElem il
  obtain ⟨c, c1, c2⟩ := R.tab.ahead nK hi hj
  exact ⟨c, Nat.zero_le _, c1, by rw [hj]; exact congrArg some c2.symm⟩
/-- a key is no set -/
theorem isK_other {hp h' : Heap} {h : Hall} {a b : Addr} {o : Obj} {es : Array (Int × Value)} {ep : Nat} {t : SetTable} (x : IsK P w hp h b) (ho : hp.get? a = some o) (hd : o.data = .set es ep t) (sb : Heap.SameBut a hp h') : IsK P w h' h b :=
  ⟨NestedIs.at (fun c ob vs n e1 e2 => (sb.2 c (by
    rintro rfl
    have e3 := Option.some.inj (e1.symm.trans ho)
    rw [e3, hd] at e2
    cases e2)).trans e1) _ _ x.1, x.2⟩
theorem isK_kept {hp h' : Heap} {h : Hall} {b : Addr} (x : IsK P w hp h b) (k : ∀ c o, hp.get? c = some o → h'.get? c = some o) : IsK P w h' h b := ⟨NestedIs.at (fun c o _ _ e _ => k c o e) _ _ x.1, x.2⟩
abbrev rw0 (P : Program) (w : World) (p : Addr × Hall) : Int × Value := (hn P w p.2, Value.ref p.1)
/-- the rows taken in an order -/
theorem taken (L : List (Addr × Hall)) (es : Array (Int × Value)) (order : List Nat) (hr : es.toList = L.map (rw0 P w)) (pm : order.Perm (List.range L.length)) :
    order.filterMap (fun i => es[i]?) = (order.filterMap fun i => L[i]?).map (rw0 P w) ∧ (order.filterMap fun i => L[i]?).Perm L ∧ ((order.filterMap fun i => L[i]?).map fun p => hn P w p.2) = order.map fun i => (es.map (·.1)).getD i 0 := by
  have entry : ∀ i, es[i]? = (L[i]?).map (rw0 P w) := fun i => by rw [← Array.getElem?_toList, hr, List.getElem?_map]
  have inb : ∀ i ∈ order, i < L.length := fun i m => List.mem_range.mp (pm.mem_iff.mp m)
  refine ⟨?_, ?_, ?_⟩
  · rw [List.map_filterMap]
    exact congrArg (fun f => order.filterMap f) (funext entry)
  · have e : (List.range L.length).filterMap (fun i => L[i]?) = L := by
      refine List.ext_getElem? fun i => ?_
      have all : ∀ n, n ≤ L.length → (List.range n).filterMap (fun i => L[i]?) = L.take n := by
        intro n
        induction n with
        | zero => intro _; simp
        | succ n ih =>
          intro hn
          rw [List.range_succ, List.filterMap_append, ih (by omega), List.take_add_one, List.getElem?_eq_getElem (show n < L.length by omega)]
          simp [List.getElem?_eq_getElem (show n < L.length by omega)]
      rw [all _ (Nat.le_refl _), List.take_length]
    have q := pm.filterMap fun i => L[i]?
    rw [e] at q
    exact q
  · clear pm
    induction order with
    | nil => rfl
    | cons i order ih =>
      have hi := inb i List.mem_cons_self
      have e := entry i
      rw [List.getElem?_eq_getElem hi] at e
      rw [List.filterMap_cons_some (List.getElem?_eq_getElem hi), List.map_cons, List.map_cons, ih fun j m => inb j (List.mem_cons_of_mem _ m)]
      have e2 : (es.map (·.1)).getD i 0 = hn P w (L[i]).2 := by
        rw [Array.getD_eq_getD_getElem?, Array.getElem?_map, e, Option.map_some, Option.map_some, Option.getD_some]
      rw [e2]
/-- a larger table -/
theorem relay_H {o : Obj} (ho : s.heap.get? a = some o) (hex : o.ExactSet) (hd : o.data = .set es ep t) (hr : es.toList = L.map (rw0 P w)) (hp : t.place.size = es.size) (hc : t.dummies = #[]) (hl : es.size ≤ t.mask) (nd : (L.map (·.2)).Nodup) (key : ∀ p ∈ L, IsK P w s.heap p.2 p.1)
    (pl : t.plain = true) (ld : w.params.followText "set-order" = true ∨ t.led = true) {wanted M : Nat} (hw : SetTable.sizeAbove wanted - 1 = M) (W : Whole M) (m4 : Mask4 M) (hb : SetTable.sizeAbove wanted ≤ 512) (room : L.length * 5 < M * 3) {Q : Unit → Shared → Prop}
    (q : ∀ h' L' es' ep' t', Heap.SameBut a s.heap h' → SetH P w h' a L' es' ep' t' → L'.Perm L → Q () { s with heap := h' }) : wpAny (model P w) A (setRelay a wanted) Q E s := by
  have sl : es.size = L.length := by
    have e := congrArg List.length hr
    rw [Array.length_toList, List.length_map] at e
    exact e
  obtain ⟨t', order, e, pm, T, em, el, ep'⟩ := relaid_to t (hs := es.map (·.1)) (wanted := wanted) hw W (by rw [Array.size_map, sl]; omega)
  rw [Array.size_map, sl] at pm
  obtain ⟨r1, r2, r3⟩ := taken (P := P) (w := w) L es order.toList hr pm
  generalize (order.toList.filterMap fun i => L[i]?) = L2 at r1 r2 r3
  rw [← r3] at T
  have lst : (order.filterMap (es[·]?)).toList = L2.map (rw0 P w) := by rw [Array.toList_filterMap]; exact r1
  have s2 : (order.filterMap (es[·]?)).size = es.size := by
    have z := congrArg List.length lst
    rw [Array.length_toList, List.length_map, r2.length_eq, ← sl] at z
    exact z
  rw [setRelay_eq]
  refine wpAny_bind (wpAny_setState_of ho hd (fits_of hp hc hl) (wp_if_neg (by rw [sizeLine_eq]; omega) ?_))
  rw [e]
  refine wpAny_bind (wp_if_neg (by rw [s2]; simp) (wpAny_pure ?_))
  have sb : Heap.SameBut a s.heap (s.heap.update a (Obj.putSet (order.filterMap (es[·]?)) t')) := Heap.SameBut.update ..
  refine wpAny_storeSet_of ho hd (q _ L2 (order.filterMap (es[·]?)) (ep + 1) t' sb ⟨⟨_, store_at ho hd, ⟨hex.1, hex.2.1, hex.2.2⟩, rfl⟩, lst, T, (r2.map (·.2)).nodup_iff.mpr nd, fun p m => isK_other (key p (r2.mem_iff.mp m)) ho hd sb, ep'.trans pl, by rw [el]; exact ld, by rw [r2.length_eq, em]; exact room, by rw [em]; exact m4⟩ r2) (by rw [s2, sl, sizeLine_eq]; have := W.low; omega)
/-- one hall more -/
theorem add_H (R : SetH P w s.heap a L es ep t) {x : Addr} {h : Hall} (hx : IsK P w s.heap h x) (hu : A.units + 8 < cLine) (few : L.length + 1 ≤ 300) {Q : Bool → Shared → Prop}
    (q : ∀ b h' L' es' ep' t', Heap.SameBut a s.heap h' → SetH P w h' a L' es' ep' t' → (h ∈ L.map (·.2) → L' = L) → (h ∉ L.map (·.2) → L'.Perm ((x, h) :: L)) → Q b { s with heap := h' }) :
    wpAny (model P w) A (setAddHashed a (.ref x) (hn P w h)) Q E s := by
  obtain ⟨o, ho, hex, hd⟩ := R.ob
  have room := R.room
  unfold setAddHashed
  refine wpAny_holding ?_
  rw [show (100000 : Nat) = 99999 + 1 from rfl, setAddHashedIn_succ]
  refine wpAny_bind (wpAny_setState_of ho hd R.fits (wp_if_neg (by simp [byScan, Value.scannable]) (wpAny_bind (search_H R hx hu (fun m => wpAny_pure (q false s.heap L es ep t (Heap.SameBut.refl a s.heap) R (fun _ => rfl) fun z => absurd m z)) fun K m nK bK => wpAny_bind (wpAny_setState_of ho hd R.fits ?_)))))
  obtain ⟨g2, g3, g4⟩ := R.tab.put nK bK rfl
  have p1 : (t.put (wy P w t h K)).1.plain = true := R.plain
  have p2 : (t.put (wy P w t h K)).1.led = t.led := rfl
  have p3 : (t.put (wy P w t h K)).1.mask = t.mask := rfl
  have p4 : (t.put (wy P w t h K)).2 = SetTable.below t.place (wy P w t h K) := rfl
  dsimp only
  generalize t.put (wy P w t h K) = pt at g3 g4 p1 p2 p3 p4 ⊢
  obtain ⟨t1, p⟩ := pt
  dsimp only at g3 g4 p1 p2 p3 p4 ⊢
  rw [← p4] at g2 g3
  have er : (SetTable.insertAt es p (hn P w h, Value.ref x)).toList = (L.take p ++ (x, h) :: L.drop p).map (rw0 P w) := by
    rw [SetTable.toList_insertAt, R.rows, List.map_append, List.map_cons, List.map_take, List.map_drop]
  have eh : (L.map fun p => hn P w p.2).take p ++ hn P w h :: (L.map fun p => hn P w p.2).drop p = (L.take p ++ (x, h) :: L.drop p).map fun p => hn P w p.2 := by
    rw [List.map_append, List.map_cons, List.map_take, List.map_drop]
  rw [eh] at g3
  rw [List.length_map] at g4
  have pm := put_perm L p (x, h)
  have l1 : (L.take p ++ (x, h) :: L.drop p).length = L.length + 1 := pm.length_eq
  have nd1 : ((L.take p ++ (x, h) :: L.drop p).map (·.2)).Nodup := (pm.map (·.2)).nodup_iff.mpr (List.nodup_cons.mpr ⟨m, R.nd⟩)
  have es1 : (SetTable.insertAt es p (hn P w h, Value.ref x)).size = L.length + 1 := by
    have z := congrArg List.length er
    rw [Array.length_toList, List.length_map, l1] at z
    exact z
  have el := R.len
  generalize SetTable.insertAt es p (hn P w h, Value.ref x) = esN at er es1 ⊢
  generalize L.take p ++ (x, h) :: L.drop p = LN at er pm l1 nd1 g3
  refine wp_if_pos p1 (wpAny_bind (says_hash (P := P) (w := w) _ _ 8 s hx.1 (numK_H h) hx.2 _ _ _ ?_))
  simp only [if_true]
  have sb : Heap.SameBut a s.heap (s.heap.update a (Obj.putSet esN t1)) := Heap.SameBut.update ..
  have ho1 := store_at (es' := esN) (t' := t1) ho hd
  refine wpAny_bind (wpAny_storeSet_of ho hd ?_ (by rw [es1, sizeLine_eq]; omega))
  generalize s.heap.update a (Obj.putSet esN t1) = h1 at sb ho1 ⊢
  have key1 : ∀ p ∈ LN, IsK P w h1 p.2 p.1 := fun p hp => by
    rcases List.mem_cons.mp (pm.mem_iff.mp hp) with e | hp
    · rw [e]
      exact isK_other hx ho hd sb
    · exact isK_other (R.key p hp) ho hd sb
  have full : t1.tooFull = decide ((L.length + 1) * 5 ≥ t.mask * 3) := by
    unfold SetTable.tooFull
    rw [g4, p3]
  by_cases big : (L.length + 1) * 5 ≥ t.mask * 3
  · have four : (t.mask = 7 ∧ L.length = 4) ∨ (t.mask = 31 ∧ L.length = 18) ∨ (t.mask = 127 ∧ L.length = 76) := by
      rcases R.mask with e | e | e | e <;> rw [e] at big room <;> omega
    have go : ∀ M, SetTable.sizeAbove (SetTable.grown (L.length + 1)) = M + 1 → Whole M → Mask4 M → (L.length + 1) * 5 < M * 3 →
        wpAny (model P w) A (setRelay a (SetTable.grown (L.length + 1))) (fun _ s' => wpAny (model P w) A (pure true) Q E s') E { s with heap := h1 } := fun M z1 z2 z3 z4 =>
      relay_H (L := LN) (s := { s with heap := h1 }) ho1 ⟨hex.1, hex.2.1, hex.2.2⟩ rfl er (by rw [es1, g3.same, List.length_map, l1]) g3.clean (by rw [es1, p3]; omega) nd1 key1 p1 (by rw [p2]; exact R.led) (by rw [z1]; rfl) z2 z3 (by rw [z1]; have := z2.low; omega) (by rw [l1]; exact z4)
        fun h2 L2 es2 ep2 t2 sb2 R2 pm2 => wpAny_pure (q true h2 L2 es2 ep2 t2 (sb.trans sb2) R2 (fun z => absurd z m) fun _ => pm2.trans pm)
    rw [full, decide_eq_true big, el]
    refine wp_if_pos (by decide) (wpAny_bind ?_)
    rcases four with ⟨_, z⟩ | ⟨_, z⟩ | ⟨_, z⟩
    · exact go 31 (by rw [z]; exact above4) (whole_of (.inr (.inl rfl))) (.inr (.inl rfl)) (by omega)
    · exact go 127 (by rw [z]; exact above18) (whole_of (.inr (.inr rfl))) (.inr (.inr (.inl rfl))) (by omega)
    · exact go 511 (by rw [z]; exact above76) whole511 (.inr (.inr (.inr rfl))) (by omega)
  · rw [full, decide_eq_false big]
    refine wp_if_neg (by decide) (wpAny_pure (q true h1 LN esN (ep + 1) t1 sb ⟨⟨_, ho1, ⟨hex.1, hex.2.1, hex.2.2⟩, rfl⟩, er, g3, nd1, key1, p1, by rw [p2]; exact R.led, by rw [l1, p3]; omega, by rw [p3]; exact R.mask⟩ (fun z => absurd z m) fun _ => pm))
end
end TF
set_option autoImplicit false
set_option Elab.async false
set_option maxRecDepth 100000
set_option linter.all false
namespace TF
open PySem L2 PyProof.Rows

/-- what is kept of the first i -/
structure Kept (ks : List (Addr × Hall)) (i : Nat) (L : List (Addr × Hall)) : Prop where
  sub : ∀ p ∈ L, p ∈ ks
  all : ∀ p ∈ ks.take i, p.2 ∈ L.map (·.2)
  len : L.length ≤ i
theorem take_one {α : Type} {l : List α} {i : Nat} {x : α} (h : l[i]? = some x) : l.take (i + 1) = l.take i ++ [x] := by
  rw [List.take_add_one, h]
  rfl
theorem Kept.next {ks L L' : List (Addr × Hall)} {i : Nat} {x : Addr × Hall} (g : Kept ks i L) (e : ks[i]? = some x) (h1 : x.2 ∈ L.map (·.2) → L' = L) (h2 : x.2 ∉ L.map (·.2) → L'.Perm (x :: L)) : Kept ks (i + 1) L' := by
  by_cases m : x.2 ∈ L.map (·.2)
  · rw [h1 m]
    refine ⟨g.sub, fun p hp => ?_, Nat.le_succ_of_le g.len⟩
    rw [take_one e] at hp
    rcases List.mem_append.mp hp with hp | hp
    · exact g.all p hp
    · rw [List.mem_singleton.mp hp]; exact m
  · have pm := h2 m
    refine ⟨fun p hp => ?_, fun p hp => ?_, ?_⟩
    · rcases List.mem_cons.mp (pm.mem_iff.mp hp) with q | hp
      · rw [q]; exact List.mem_of_getElem? e
      · exact g.sub p hp
    · rw [take_one e] at hp
      refine (pm.map (·.2)).mem_iff.mpr ?_
      rcases List.mem_append.mp hp with hp | hp
      · exact List.mem_cons_of_mem _ (g.all p hp)
      · rw [List.mem_singleton.mp hp]; exact List.mem_cons_self
    · rw [pm.length_eq, List.length_cons]
      exact Nat.succ_le_succ g.len
section
variable {P : Program} {w : World} {A : Around} {E : Value → Shared → Prop}
theorem SetH.stay {h h' : Heap} {a : Addr} {L : List (Addr × Hall)} {es : Array (Int × Value)} {ep : Nat} {t : SetTable} (R : SetH P w h a L es ep t) (ha : ∀ o, h.get? a = some o → h'.get? a = some o) (hk : ∀ p ∈ L, IsK P w h' p.2 p.1) : SetH P w h' a L es ep t := by
  obtain ⟨o, ho, r⟩ := R.ob
  exact ⟨⟨o, ha o ho, r⟩, R.rows, R.tab, R.nd, hk, R.plain, R.led, R.room, R.mask⟩
abbrev empty0 (w : World) : Obj := { cls := .type "set", dict := none, data := .set #[] 0 (.fresh 0 0 (!w.params.followText "set-order")) }
theorem setH_empty {h : Heap} {a : Addr} (ho : h.get? a = some (empty0 w)) : SetH P w h a [] #[] 0 (.fresh 0 0 (!w.params.followText "set-order")) where
  ob := ⟨_, ho, ⟨rfl, rfl, rfl⟩, rfl⟩
  rows := rfl
  tab := ⟨List.Pairwise.nil, rfl, rfl, whole_of (.inl rfl), (by intro x hx; cases hx), (by intro i h j hi; simp at hi)⟩
  nd := List.nodup_nil
  key := by intro p hp; cases hp
  plain := rfl
  led := by
    show _ ∨ (!w.params.followText "set-order") = true
    cases w.params.followText "set-order"
    · exact .inr rfl
    · exact .inl rfl
  room := by
    show 0 * 5 < 7 * 3
    decide
  mask := .inl rfl

/-- the loop of set.update, over halls -/
theorem update_H {I : Addr} {fp wr : List Addr} {G : Array GenState → Array GenState → Prop} {n : Nat} {Pv : Nat → Value → Prop} {St : Nat → Shared → Prop} {R : Result → Shared → Prop}
    (W : WalksS P w A.in1 I fp wr G n Pv St) (S : Addr) (hS : S ∉ fp) (ks : List (Addr × Hall)) (en : n = ks.length) (few : ks.length ≤ 299) (hv : ∀ i v, Pv i v → ∃ p, ks[i]? = some p ∧ v = .ref p.1)
    (h0 : Heap) (hk : ∀ p ∈ ks, IsK P w h0 p.2 p.1) (hS0 : h0.get? S = none) (hw0 : ∀ b ∈ wr, h0.get? b = none) (hu : A.in1.units + 8 < cLine) :
    ∀ (k i : Nat) (s : Shared), n - i = k → i ≤ n → St i s → (∀ b o, h0.get? b = some o → s.heap.get? b = some o) → (∃ L es ep t, SetH P w s.heap S L es ep t ∧ Kept ks i L) →
      (∀ s' L es ep t, Moved (S :: wr) G s s' → SetH P w s'.heap S L es ep t → Kept ks n L → (∀ b o, h0.get? b = some o → s'.heap.get? b = some o) → R (.ok (.ret .none)) s') →
      codeAny (model P w) A (.builtin "set.update.loop" ⟨[.ref S, .ref I], []⟩) R s := by
  have Sw : S ∉ wr := fun m => hS (W.sub _ m)
  have wide : ∀ b ∈ wr, b ∈ S :: wr := fun b m => List.mem_cons_of_mem _ m
  have stays : ∀ {s s' : Shared}, Moved wr G s s' → (∀ b o, h0.get? b = some o → s.heap.get? b = some o) → ∀ b o, h0.get? b = some o → s'.heap.get? b = some o := fun mv kp b o e =>
    mv.heap b o (fun m => by rw [hw0 b m] at e; cases e) (kp b o e)
  have keys : ∀ {L : List (Addr × Hall)} {i : Nat} {h' : Heap}, Kept ks i L → (∀ b o, h0.get? b = some o → h'.get? b = some o) → ∀ p ∈ L, IsK P w h' p.2 p.1 := fun g kp p m => isK_kept (hk p (g.sub p m)) kp
  intro k
  induction k with
  | zero =>
    rintro i s ek hi st kp ⟨L, es, ep, t, T, g⟩ hR
    obtain rfl : i = n := by omega
    refine codeAny_builtin F.entry_set_update_loop ?_
    rw [Around.under_plainId F.plain_set_update_loop _]
    show wpAny _ A.in1 (pyNext (.ref I) >>= _) _ _ s
    exact wpAny_bind (W.done s _ _ st fun s' mv => wpAny_pure (hR s' L es ep t (mv.mono wide) (T.stay (fun o e => mv.heap S o Sw e) (keys g (stays mv kp))) g (stays mv kp)))
  | succ k ih =>
    rintro i s ek hi st kp ⟨L, es, ep, t, T, g⟩ hR
    have lt : i < n := by omega
    refine codeAny_builtin F.entry_set_update_loop ?_
    rw [Around.under_plainId F.plain_set_update_loop _]
    show wpAny _ A.in1 (pyNext (.ref I) >>= _) _ _ s
    refine wpAny_bind (W.item i s _ _ lt st fun v s' hP st' mv => ?_)
    obtain ⟨p, hp, rfl⟩ := hv i v hP
    have kp' := stays mv kp
    have hx : IsK P w s'.heap p.2 p.1 := isK_kept (hk p (List.mem_of_getElem? hp)) kp'
    show wpAny _ A.in1 (holding [Value.ref p.1] (setAdd S (.ref p.1)) >>= _) _ _ s'
    refine wpAny_bind (wpAny_holding ?_)
    unfold setAdd
    refine wpAny_holding (wpAny_bind ((nestedKind P w).pyHash (show A.in1.units + 8 < cLine from hu) hx ?_))
    refine add_H (s := { s' with toks := s'.toks + (nestedKind P w).draws (kH p.2) }) (T.stay (fun o e => mv.heap S o Sw e) (keys g kp')) hx hu (by have := g.len; omega) fun b h' L' es' ep' t' sb T' c1 c2 => ?_
    have g' := g.next hp c1 c2
    have kp2 : ∀ b o, h0.get? b = some o → h'.get? b = some o := fun b o e => (sb.2 b (by rintro rfl; rw [hS0] at e; cases e)).trans (kp' b o e)
    refine wpAny_pure ⟨plainId_quiet F.plain_set_update_loop _, ih (i + 1) _ (by omega) lt (W.frame _ s' _ _ st' (Nat.le_add_right _ _) fun b m o e => ?_) kp2 ⟨L', es', ep', t', T', g'⟩ fun s2 L2 es2 ep2 t2 mv2 T2 g2 kp3 => ?_⟩
    · rw [sb.2 b (by rintro rfl; exact hS m)]
      exact e
    · refine hR s2 L2 es2 ep2 t2 (Moved.trans W.gtrans ((mv.mono wide).then_heap (Nat.le_add_right _ _) fun b o m e => ?_) mv2) T2 g2 kp3
      rw [sb.2 b (by rintro rfl; exact m List.mem_cons_self)]
      exact e
set_option maxHeartbeats 3200000 in
/-- set(xs), xs a list of halls -/
theorem call_set_H {s : Shared} {l : Addr} {items : Array Value} (ks : List (Addr × Hall)) {Q : Value → Shared → Prop} (hh : A.handled = none) (hl : s.heap.IsList l items) (hit : items.toList = ks.map fun p => Value.ref p.1)
    (hk : ∀ p ∈ ks, IsK P w s.heap p.2 p.1) (few : ks.length ≤ 299) (hu : A.units + 12 < cLine)
    (q : ∀ (h' : Heap) (tk : Nat) L es ep t, SetH P w h' s.heap.objs.size L es ep t → Kept ks ks.length L → (∀ b o, s.heap.get? b = some o → h'.get? b = some o) → Q (.ref s.heap.objs.size) { s with heap := h', toks := tk }) :
    wpAny (model P w) A (call (.type "set") [.ref l]) Q E s := by
  have isz : items.size = ks.length := by
    have e := congrArg List.length hit
    rw [Array.length_toList, List.length_map] at e
    exact e
  obtain ⟨c, tl, hmro⟩ := F.called_set.mro
  have hmade := F.called_set.made
  have hsub := F.called_set.sub
  refine wpAny_call (codeAny_of_tree ?_)
  show wpAny _ _ (callAny (.type "set") _) _ _ _
  refine wpAny_pure ⟨Code.quiet_builtin _ (by decide +kernel), codeAny_builtin F.entry_type_call ?_⟩
  rw [Around.under_plain (weight_type_call_type "set" [.ref l] []) rfl]
  have h1 := F.called_set.notType
  have h2 := F.called_set.canCreate
  have hct := F.typeCall_set_1 (.ref l)
  repeat (any_goals (first | assumption | wp_step))
  refine codeAny_mono (code_set_led1 (.ref l) (E := E) (Q₁ := fun obj s₁ => obj = .ref s.heap.objs.size ∧ s₁ = { s with heap := s.heap.push (empty0 w) }) ⟨rfl, rfl⟩) fun r s₁ hr => ?_
  cases r with
  | error e => exact hr
  | ok fl =>
    cases fl with
    | ret obj =>
      obtain ⟨rfl, rfl⟩ := hr
      have hS : (s.heap.push (empty0 w)).get? s.heap.objs.size = some (empty0 w) := Heap.get?_push_size _ rfl
      have hT : Shared.TypeIs { s with heap := s.heap.push (empty0 w) } (.ref s.heap.objs.size) "set" := ⟨_, hS, rfl⟩
      have hli := F.called_set.init.lookup
      have hbi := F.called_set.init.bind (.ref s.heap.objs.size)
      repeat (any_goals (first | assumption | wp_step))
      refine codeAny_mono (codeAny_call_builtin (R := wants (fun r s₂ => r = .none ∧ ∃ h' tk L es ep t, s₂ = { s with heap := h', toks := tk } ∧ SetH P w h' s.heap.objs.size L es ep t ∧ Kept ks ks.length L ∧
          (∀ b o, s.heap.get? b = some o → h'.get? b = some o)) E) F.called_set.init.plain F.entry_set_init (check_set_init_1 hT ?_)) fun r₂ s₂ hr₂ => ?_
      · obtain ⟨ol, hol, hcl, nl, hdl⟩ := hl
        obtain ⟨ocls, odict, odata, oslots⟩ := ol
        simp only at hcl hdl
        subst hcl; subst hdl
        have hol' : (s.heap.push (empty0 w)).get? l = some { cls := .type "list", dict := odict, data := .seq items nl, slots := oslots } := Heap.get?_push_of_some _ hol
        have hsls := F.sub_list_set
        have hslf := F.sub_list_frozenset
        have hne : (Value.type "list" == Value.type "dict") = false := by decide
        have hl1 : (s.heap.push (empty0 w)).IsList l items := ⟨_, hol', rfl, nl, rfl⟩
        unfold Builtin.«set.__init__» noKeywords Builtin.Frozenset.updateFrom
        generalize hPI : pyIter = PI
        wp_walk
        subst hPI
        refine wpAny_pyIter_list hl1 (wpAny_bind (wpAny_runValue ?_))
        have lS : l < s.heap.objs.size := Heap.lt_size hol
        have none3 : A.in1.in1.in1.handled = none := by simp [hh]
        have z1 : (s.heap.push (empty0 w)).objs.size = s.heap.objs.size + 1 := Heap.size_push ..
        have fresh : ∀ b, s.heap.objs.size ≤ b → s.heap.get? b = none := fun b hb => by
          cases e : s.heap.get? b with
          | none => rfl
          | some o => exact absurd (Heap.lt_size e) (Nat.not_lt.mpr hb)
        have vals : ∀ (i : Nat) (v : Value), items[i]? = some v → ∃ p, ks[i]? = some p ∧ v = .ref p.1 := fun i v e => by
          have e1 : (ks.map fun p => Value.ref p.1)[i]? = some v := by rw [← hit, Array.getElem?_toList]; exact e
          rw [List.getElem?_map] at e1
          obtain ⟨p, hp, e2⟩ := Option.map_eq_some_iff.mp e1
          exact ⟨p, hp, e2.symm⟩
        have lI : l ≠ (s.heap.push (empty0 w)).objs.size := by rw [z1]; exact Nat.ne_of_lt (Nat.lt_succ_of_lt lS)
        refine update_H ((Walks.list none3 _ l lI items).toS) s.heap.objs.size (by rw [z1]; simp only [List.mem_cons, List.not_mem_nil, or_false, not_or]; exact ⟨Nat.ne_of_lt (Nat.lt_succ_self _), Nat.ne_of_gt lS⟩) ks isz few vals s.heap hk (fresh _ (Nat.le_refl _))
          (fun b m => fresh b (by rw [List.mem_singleton.mp m, z1]; exact Nat.le_succ _)) (show A.units + 1 + 1 + 1 + 8 < cLine by omega) (items.size - 0) 0 _ (Nat.sub_zero _ ▸ rfl) (Nat.zero_le _)
          ⟨⟨_, Heap.get?_push_size _ rfl, rfl, rfl⟩, (hl1.push _)⟩ (fun b o e => Heap.get?_push_of_some _ (Heap.get?_push_of_some _ e))
          ⟨[], #[], 0, _, setH_empty (Heap.get?_push_of_some _ hS), ⟨(by intro p m; cases m), (by intro p m; simp at m), Nat.le_refl _⟩⟩ ?_
        intro s' L es ep t mv T g kp
        obtain ⟨h', g2, d', tk', os'⟩ := s'
        have eg : g2 = s.gens := mv.gens
        have ed : d' = s.drawn := mv.drawn
        have eo : os' = s.os := mv.os
        subst eg; subst ed; subst eo
        rw [isz] at g
        exact wpAny_pure (wpAny_pure ⟨rfl, h', tk', L, es, ep, t, rfl, T, g, kp⟩)
      · cases r₂ with
        | error e => exact hr₂
        | ok fl₂ =>
          cases fl₂ with
          | ret r =>
            obtain ⟨rfl, h', tk, L, es, ep, t, rfl, T, g, kp⟩ := hr₂
            repeat (any_goals (first | assumption | wp_step))
            exact q _ _ _ _ _ _ T g kp
          | _ => exact hr₂.elim
    | _ => exact hr.elim
end
end TF
set_option autoImplicit false
set_option Elab.async false
set_option maxRecDepth 100000
set_option linter.all false
namespace TF
open PySem L2 PyProof.Rows

/-- halls with their places -/
theorem placed {K : PySem.W.Frag} {H : Hp} : ∀ {xs : List V} {hs : List Hall}, DpAll K H xs (hs.map dH) → ∃ ks : List (Addr × Hall), xs = ks.map (fun p => V.ref p.1) ∧ ks.map (·.2) = hs ∧ ∀ p ∈ ks, HlV K H (.ref p.1) p.2
  | _, [], d => by
    have d' : DpAll K H _ [] := d
    cases d'
    exact ⟨[], rfl, rfl, by intro p m; cases m⟩
  | _, h :: hs, d => by
    have d' : DpAll K H _ (dH h :: hs.map dH) := d
    cases d' with
    | cons q t =>
      obtain ⟨ks, e1, e2, e3⟩ := placed t
      obtain ⟨a, e⟩ := hl_ref q
      refine ⟨(a, h) :: ks, by rw [e, e1]; rfl, by rw [List.map_cons, e2], fun p m => ?_⟩
      rcases List.mem_cons.mp m with z | z
      · rw [z]
        exact e ▸ q
      · exact e3 p z
theorem vals_refs : ∀ ks : List (Addr × Hall), Vals (ks.map fun p => V.ref p.1) (ks.map fun p => Value.ref p.1)
  | [] => .nil
  | p :: ks => .cons rfl (vals_refs ks)
theorem refs_vals : ∀ {ks : List (Addr × Hall)} {us : List Value}, Vals (ks.map fun p => V.ref p.1) us → us = ks.map fun p => Value.ref p.1
  | [], _, v => by
    cases v
    rfl
  | p :: ks, _, v => by
    cases v with
    | cons r t =>
      rw [refs_vals t]
      cases r
      rfl
theorem dps_hl {K : PySem.W.Frag} {H : Hp} : ∀ {ks : List (Addr × Hall)}, (∀ p ∈ ks, HlV K H (.ref p.1) p.2) → DpAll K H (ks.map fun p => V.ref p.1) ((ks.map (·.2)).map dH)
  | [], _ => .nil
  | p :: ks, h => .cons (h p List.mem_cons_self) (dps_hl fun q m => h q (List.mem_cons_of_mem _ m))

/-- at a stands a set of the halls of L -/
structure NSet (P : Program) (w : World) (K : PySem.W.Frag) (H : Hp) (a : Addr) (L : List (Addr × Hall)) : Prop where
  ex : ∃ (o : Obj) (es : Array (Int × Value)) (ep : Nat) (t : SetTable), H a = some (rawO a o) ∧ o.ExactSet ∧ o.data = .set es ep t ∧ es.toList = L.map (fun p => (hn P w p.2, Value.ref p.1)) ∧ Tb t (L.map fun p => hn P w p.2) ∧ t.plain = true ∧
    (w.params.followText "set-order" = true ∨ t.led = true) ∧ L.length * 5 < t.mask * 3 ∧ Mask4 t.mask
  nd : (L.map (·.2)).Nodup
  hl : ∀ p ∈ L, HlV K H (.ref p.1) p.2
section
variable {X : Cx}
def rSetH (P : Program) (w : World) (K : PySem.W.Frag) : List V → Hp → VK → Prop := fun vs H Q => ∃ (l : Addr) (xs : List V) (hs : List Hall), vs = [.ref l] ∧ SqL K H l xs ∧ DpAll K H xs (hs.map dH) ∧ hs.length ≤ 299 ∧
  ∀ (a : Addr) (o : Obj) (L : List (Addr × Hall)), H a = none → NSet P w K (upd H a (rawO a o)) a L → (∀ h, h ∈ L.map (·.2) ↔ h ∈ hs) → Q (.ref a) (upd H a (rawO a o))
theorem cr_setH (hc : X.calm = true) (hu : X.A.units + 16 < cLine) : CallR X (.type "set") (rSetH X.prog X.w X.K) := by
  intro pins s σ H vs us Q I r h
  obtain ⟨l, xs, hs, rfl, hl, hd, few, q⟩ := h
  rw [Vals.ref1 r]
  obtain ⟨ks, rfl, e2, e3⟩ := placed hd
  obtain ⟨its, rv, pl, hz⟩ := I.list hl
  have fr : H s.heap.objs.size = none := I.hok.fresh (Nat.le_refl _)
  refine call_set_H (P := X.prog) (w := X.w) ks (I.ok.hd hc) pl.isList (by rw [refs_vals rv]) (fun p m => hl_key I (e3 p m)) (by rw [← List.length_map (f := fun p : Addr × Hall => p.2), e2]; exact few) (by omega) fun h' tk L es ep t R g kp => ?_
  obtain ⟨o, ho, hex, hdat⟩ := R.ob
  refine ⟨.ref s.heap.objs.size, _, I.laid (t' := tk) kp (Nat.le_refl _) (rawO_ok ho), rfl, q _ o L fr ⟨⟨o, es, ep, t, upd_same, hex, hdat, R.rows, R.tab, R.plain, R.led, R.room, R.mask⟩, R.nd, fun p m => (Tp.new fr).hl (e3 p (g.sub p m))⟩ fun h => ?_⟩
  rw [← e2]
  constructor
  · intro m
    obtain ⟨p, hp, rfl⟩ := List.mem_map.mp m
    exact List.mem_map.mpr ⟨p, g.sub p hp, rfl⟩
  · intro m
    obtain ⟨p, hp, rfl⟩ := List.mem_map.mp m
    exact g.all p (by rw [List.take_length]; exact hp)
/-- sorted(set) -/
def rSortS (P : Program) (w : World) (K : PySem.W.Frag) : List V → Hp → VK → Prop := fun vs H Q => ∃ (a : Addr) (L : List (Addr × Hall)), vs = [.ref a] ∧ NSet P w K H a L ∧ outS K dH (L.map (·.2)) H Q
theorem cr_sortS (hc : X.calm = true) (hu : X.A.units + 16 < cLine) : CallR X (.builtin "sorted") (rSortS X.prog X.w X.K) := by
  intro pins s σ H vs us Q I r h
  obtain ⟨a, L, rfl, N, q⟩ := h
  rw [Vals.ref1 r]
  obtain ⟨o, es, ep, t, g1, g2, g3, g4, g5, g6, g7, g8, g9⟩ := N.ex
  have go := rawO_get I.hok g1
  have sz : es.size = L.length := by
    have e := congrArg List.length g4
    rw [Array.length_toList, List.length_map] at e
    exact e
  have ts : t.place.size = es.size := by
    have e := g5.same
    rw [List.length_map] at e
    rw [e, sz]
  have low := g5.whole.low
  have bound : L.length < 307 := by omega
  refine Calls.call_function_entry (Q := EP X pins σ Q) kind_sorted plain_sorted entry_sorted (args_sorted1 _) ?_
  unfold Builtin.«sorted»
  refine wpAny_bind (m := checkCount "sorted" 1 1 _) (wpAny_pure (wpAny_bind (collect_set (A := X.A.in1) (I.ok.hd hc) ⟨o, go, g2.1, g3⟩ (fits_of ts g5.clean (by rw [sz]; omega)) (by rw [sz]; unfold scanBound; omega) g5.up g7 fun s' out kp _ eg eo pm => ?_)))
  have J : Inv X pins σ H s' := I.call' (ch := []) eo (Un.kept kp) (I.hok.kept kp) (by rw [eg]; exact I.bare) (by intro b m; cases m)
  have er : es.toList.map (·.2) = L.map fun p => Value.ref p.1 := by rw [g4, List.map_map]; rfl
  rw [er] at pm
  -- the values as places of rows
  have ord : ∀ us : List Value, (∀ u ∈ us, ∃ p ∈ L, u = Value.ref p.1) → ∃ M : List (Addr × Hall), us = M.map (fun p => Value.ref p.1) ∧ ∀ p ∈ M, p ∈ L := by
    intro us
    induction us with
    | nil => exact fun _ => ⟨[], rfl, by intro p m; cases m⟩
    | cons u us ih =>
      intro hu'
      obtain ⟨p, hp, e⟩ := hu' u List.mem_cons_self
      obtain ⟨M, e1, e2⟩ := ih fun v hv => hu' v (List.mem_cons_of_mem _ hv)
      refine ⟨p :: M, by rw [e, e1]; rfl, fun z hz => ?_⟩
      rcases List.mem_cons.mp hz with y | y
      · rw [y]; exact hp
      · exact e2 z y
  obtain ⟨M, eM, sM⟩ := ord out fun u hu' => by
    obtain ⟨p, hp, e⟩ := List.mem_map.mp (pm.mem_iff.mp hu')
    exact ⟨p, hp, e.symm⟩
  have one : ∀ p ∈ L, ∀ z ∈ L, p.1 = z.1 → p = z := fun p hp z hz e => by
    have k1 := hl_key I (N.hl p hp)
    have k2 := hl_key I (N.hl z hz)
    rw [e] at k1
    exact Prod.ext e (kH_inj ((nestedKind X.prog X.w).inj k1 k2))
  have nL : L.Nodup := nodup_of_map N.nd
  have nR : (L.map fun p => Value.ref p.1).Nodup := nodup_map nL fun p hp z hz e => one p hp z hz (by injection e)
  have pM : M.Perm L := by
    rw [eM] at pm
    refine (List.perm_ext_iff_of_nodup (nodup_of_map (pm.nodup_iff.mpr nR)) nL).mpr fun p => ⟨sM p, fun hp => ?_⟩
    obtain ⟨z, hz, e⟩ := List.mem_map.mp (pm.mem_iff.mpr (List.mem_map.mpr ⟨p, hp, rfl⟩))
    have e' : z.1 = p.1 := by injection e
    rw [← one z (sM z hz) p hp e']
    exact hz
  have v : Vals (M.map fun p => V.ref p.1) out := by rw [eM]; exact vals_refs M
  have q' : outS X.K dH (M.map (·.2)) H Q := fun p ys hp hlen hd => by
    refine q p ys hp (by rw [hlen, List.length_map, List.length_map, pM.length_eq]) ?_
    have e : srt dH (M.map (·.2)) = srt dH (L.map (·.2)) := sortH_eq (pM.map _)
    rw [← e]
    exact hd
  exact wpAny_bind (wpAny_mono (sort_gathered ord_H (A := X.A.in1) (show X.A.units + 1 + 7 < cLine by omega) (R := fun l s2 => EP X pins σ Q l s2) (E := fun e s1 => X.xe e s1) J v (dps_hl fun p hp => N.hl p (sM p hp)) (by rw [List.length_map, pM.length_eq, sizeLine_eq]; omega) q' fun p s' z => z)
    (fun l s1 h1 => wpAny_bind (wpAny_mono h1 (fun _ s2 h2 => wpAny_pure ⟨_, rfl, h2⟩) fun _ _ z => z)) fun _ _ z => z)
end
end TF
set_option autoImplicit false
set_option Elab.async false
set_option maxRecDepth 100000
set_option linter.all false
namespace TF
open PySem L2 PyProof.Rows

/-! ### looks as texts -/
def cd : Lk → Nat
  | .O => 46
  | .X => 88
  | .Y => 89
  | .Z => 90
theorem cd_inj {a b : Lk} (h : cd a = cd b) : a = b := by
  revert h
  cases a <;> cases b <;> decide
def sg (a : Lk) : Str := ⟨#[cd a]⟩
def txt (l : List Lk) : Str := ⟨(l.map cd).toArray⟩
theorem sg_inj {a b : Lk} (h : sg a = sg b) : a = b := by
  have e : (#[cd a] : Array Nat) = #[cd b] := congrArg Str.cps h
  have e' : cd a = cd b := by simpa using e
  exact cd_inj e'
theorem txt_inj {l m : List Lk} (h : txt l = txt m) : l = m := by
  have e : (l.map cd).toArray = (m.map cd).toArray := congrArg Str.cps h
  have e' : l.map cd = m.map cd := by simpa using e
  clear h e
  induction l generalizing m with
  | nil =>
    cases m with
    | nil => rfl
    | cons _ _ => cases e'
  | cons a l ih =>
    cases m with
    | nil => cases e'
    | cons b m =>
      have q := List.cons.inj e'
      rw [cd_inj q.1, ih q.2]
theorem txt_len (l : List Lk) : (txt l).length = l.length := by
  show (l.map cd).toArray.size = l.length
  simp
theorem txt_size (l : List Lk) : (txt l).cps.size = l.length := txt_len l
theorem txt_at {l : List Lk} {i c : Nat} (h : (txt l).cps[i]? = some c) : ∃ a, l[i]? = some a ∧ (⟨#[c]⟩ : Str) = sg a := by
  have e : (l.map cd)[i]? = some c := by
    have q : (l.map cd).toArray[i]? = some c := h
    simpa using q
  rw [List.getElem?_map] at e
  obtain ⟨a, ea, ec⟩ := Option.map_eq_some_iff.mp e
  exact ⟨a, ea, by rw [← ec]; rfl⟩
theorem dec_sg (a b : Lk) : decide (V.str (sg a) = V.str (sg b)) = decide (a = b) := by
  by_cases h : a = b
  · subst h; simp
  · rw [decide_eq_false h]
    exact decide_eq_false fun q => h (sg_inj (V.str.inj q))
theorem dec_txt (a b : List Lk) : decide (V.str (txt a) = V.str (txt b)) = decide (a = b) := by
  by_cases h : a = b
  · subst h; simp
  · rw [decide_eq_false h]
    exact decide_eq_false fun q => h (txt_inj (V.str.inj q))
theorem txt_app (l m : List Lk) : txt l ++ txt m = txt (l ++ m) := by
  show (⟨(l.map cd).toArray ++ (m.map cd).toArray⟩ : Str) = ⟨((l ++ m).map cd).toArray⟩
  rw [List.map_append, ← List.append_toArray]
theorem txt_snoc (l : List Lk) (a : Lk) : txt l ++ sg a = txt (l ++ [a]) := txt_app l [a]

section
variable {X : Cx}
/-! ### zip of two texts -/
def ItzS (x y : Str) : It :=
  ⟨fun i _ => i < min x.cps.size y.cps.size,
    fun i H v H' => ∃ T c d, v = .ref T ∧ H T = none ∧ H' = upd H T (.tup [.str ⟨#[c]⟩, .str ⟨#[d]⟩]) ∧ x.cps[i]? = some c ∧ y.cps[i]? = some d,
    fun i _ => i = min x.cps.size y.cps.size⟩
theorem turn_zipS {P : Program} {w : World} {K : PySem.W.Frag} {elts : List Expr} {kk : Nat} {tpos : Pos} {x y : Str} {t u : Tok} {z TI TO i1 i2 : Addr} (S : ZipSep2 z TI TO i1 i2 [i1] [i2]) :
    Turn P w K (.Tuple elts kk tpos) (ItzS x y) (z :: TI :: TO :: ([i1] ++ [i2])) z
      (fun i h => IsZip h z TI TO .none ∧ IsTupOf2 h TI (.ref i1) (.ref i2) ∧ (∃ a1 a2, IsTupOf2 h TO a1 a2) ∧ h.IsStrIter i1 (strIterType x) x t i ∧ h.IsStrIter i2 (strIterType y) y u i) where
  mem := List.mem_cons_self
  obj := fun i h st b hb => by
    obtain ⟨h1, h2, ⟨a1, a2, h3⟩, ⟨o4, g4, _, d4⟩, ⟨o5, g5, _, d5⟩⟩ := st
    have cases5 : b = z ∨ b = TI ∨ b = TO ∨ b = i1 ∨ b = i2 := by simpa using hb
    rcases cases5 with e | e | e | e | e <;> subst e
    · exact ⟨_, h1, by intro v q; cases q⟩
    · exact ⟨_, h2, by intro v q; cases q⟩
    · exact ⟨_, h3, by intro v q; cases q⟩
    · exact ⟨o4, g4, by intro v q; rw [d4] at q; cases q⟩
    · exact ⟨o5, g5, by intro v q; rw [d5] at q; cases q⟩
  keep := fun i h h' st k => by
    obtain ⟨h1, h2, ⟨a1, a2, h3⟩, ⟨o4, g4, r4⟩, ⟨o5, g5, r5⟩⟩ := st
    exact ⟨k z (by simp) _ h1, k TI (by simp) _ h2, ⟨a1, a2, k TO (by simp) _ h3⟩, ⟨o4, k i1 (by simp) _ g4, r4⟩, ⟨o5, k i2 (by simp) _ g5, r5⟩⟩
  item := by
    intro X hP hw hK hc i pins s σ H E I hf st hg
    subst hP hw hK
    have hh : X.A.in1.handled = none := I.ok.hd hc
    refine (GoesN.zip2 (prog := X.prog) (w := X.w) (A := X.A) S (Draws.text hh i1 x t) (Draws.text hh i2 y u)).goes i s _ E hg st fun v h' tk Y st' kk htk => ?_
    obtain ⟨T, v1, v2, rfl, hT, ⟨c, u1, hx, rfl⟩, ⟨d, u2, hy, rfl⟩, isT⟩ := Y
    have new : ObjOk X.prog X.w (upd H T (.tup [.str ⟨#[c]⟩, .str ⟨#[d]⟩])) h' T (.tup [.str ⟨#[c]⟩, .str ⟨#[d]⟩]) := ⟨by show 2 ≤ sizeLine; decide, [.str ⟨#[c]⟩ u1, .str ⟨#[d]⟩ u2], .cons ⟨_, rfl⟩ (.cons ⟨_, rfl⟩ .nil), isT⟩
    refine ⟨.ref T, _, I.turnedNew (t' := tk) (ch := z :: TI :: TO :: ([i1] ++ [i2])) (fun b o nb e => kk b o (fun m => nb ?_) e) hf hT new, rfl, ⟨T, c, d, rfl, I.hok.fresh hT, rfl, hx, hy⟩, st', fun b hb => ?_⟩
    · have m' : b = z ∨ b = TO ∨ b = i1 ∨ b = i2 := by simpa using m
      rcases m' with e | e | e | e <;> subst e <;> simp
    · obtain ⟨o, ho, _⟩ : ∃ o, s.heap.get? b = some o ∧ True := by
        obtain ⟨h1, h2, ⟨a1, a2, h3⟩, ⟨o4, g4, _, d4⟩, ⟨o5, g5, _, d5⟩⟩ := st
        have cases5 : b = z ∨ b = TI ∨ b = TO ∨ b = i1 ∨ b = i2 := by simpa using hb
        rcases cases5 with e | e | e | e | e <;> subst e
        · exact ⟨_, h1, trivial⟩
        · exact ⟨_, h2, trivial⟩
        · exact ⟨_, h3, trivial⟩
        · exact ⟨_, g4, trivial⟩
        · exact ⟨_, g5, trivial⟩
      rw [upd_ne (Nat.ne_of_lt (Nat.lt_of_lt_of_le (Heap.lt_size ho) hT))]
      exact (hf b hb).1
  done := by
    intro X hP hw hK hc i pins s σ H E I hf st hg
    subst hP hw hK
    have hh : X.A.in1.handled = none := I.ok.hd hc
    have ei : i = min x.cps.size y.cps.size := hg
    subst ei
    refine (GoesN.zip2 (prog := X.prog) (w := X.w) (A := X.A) (elts := elts) (x1 := kk) (pos := tpos) S (Draws.text hh i1 x t) (Draws.text hh i2 y u)).stops s _ E st fun h' tk kk htk => ?_
    refine I.turnedL (t' := tk) (ch := z :: TI :: TO :: ([i1] ++ [i2])) (fun b o nb e => kk b o (fun m => nb ?_) e) hf
    have m' : b = z ∨ b = TO ∨ b = i1 ∨ b = i2 := by simpa using m
    rcases m' with e | e | e | e <;> subst e <;> simp
  self := fun A i s Q E st h => wpAny_pyIter_zip st.1 h
def iZipS (ta : TA) : TI := fun σ H R => ta σ H fun vs H1 => ∃ x y : Str, vs = [.str x, .str y] ∧ R (ItzS x y) H1
theorem pi_zipS {e e2 : Expr} {ta : TA} {p pos tpos : Pos} {elts : List Expr} {kk : Nat} (hg : Gl X "zip") (hm : X.mg "zip" = none) (ha : PA X [e, e2] ta)
    (hs : starEach [e, e2] X.env = (false, eval e X.env) :: starEach [e2] X.env := by rfl) (hpl : (backTo pos (starEach [e2] X.env)).any (·.1) = false := by rfl) :
    PI X (.Tuple elts kk tpos) (.Call (.Name "zip" p) [e, e2] [] pos) (iZipS ta) := by
  refine ⟨fun pins s σ H R I h => ?_⟩
  refine Call_ (ld_blt I hg hm boot_zip (callWith_type1 (thn (ha.run pos pins s σ H _ I h) fun us s1 ⟨vs, H1, I1, r1, x, y, ex, q⟩ => ?_) hs hpl))
  subst ex
  obtain ⟨v1, v2, rfl, ⟨t, rfl⟩, ⟨u, rfl⟩⟩ := vals2 r1
  refine zip_begins2 (begins_text x t) (begins_text y u) trivial trivial fun h' hz hTI hTO g1 g2 hsz hk => wpAny_pyIter_zip hz ?_
  have I2 : Inv X pins σ H1 { s1 with heap := h' } := I1.kept (t' := s1.toks) hk
  refine ⟨s1.heap.objs.size + 4, _, _, _, H1, rfl, I2, turn_zipS (x := x) (y := y) (t := t) (u := u) (zip_sep2 (N := s1.heap.objs.size) (fp1 := []) (fp2 := []) (by intro b m; cases m) (by intro b m; cases m)), ⟨hz, hTI, ⟨_, _, hTO⟩, ⟨_, g1, rfl, rfl⟩, ⟨_, g2, rfl, rfl⟩⟩, fun b hb => ?_, q⟩
  have cases5 : b = s1.heap.objs.size + 4 ∨ b = s1.heap.objs.size + 2 ∨ b = s1.heap.objs.size + 3 ∨ b = s1.heap.objs.size ∨ b = s1.heap.objs.size + 1 := by simpa using hb
  have le : s1.heap.objs.size ≤ b := by
    rcases cases5 with z | z | z | z | z <;> rw [z]
    · exact Nat.le_add_right _ _
    · exact Nat.le_add_right _ _
    · exact Nat.le_add_right _ _
    · exact Nat.le_refl _
    · exact Nat.le_add_right _ _
  exact I1.fpOk le (I1.hok.fresh le)
/-- two texts of looks, of one length -/
theorem walk_zipS {l m : List Lk} (e : l.length = m.length) : Walk (ItzS (txt l) (txt m)) l.length (fun _ => True)
    (fun i H v H' => ∃ T a b, v = .ref T ∧ H T = none ∧ H' = upd H T (.tup [.str (sg a), .str (sg b)]) ∧ l[i]? = some a ∧ m[i]? = some b) := by
  have es : min (txt l).cps.size (txt m).cps.size = l.length := by rw [txt_size, txt_size, e, Nat.min_self]
  refine ⟨fun i H hi _ => by show i < min _ _; rw [es]; exact hi, fun H _ => es.symm, fun i H v H' hi _ y => ?_⟩
  obtain ⟨T, c, d, h1, h2, h3, h4, h5⟩ := y
  obtain ⟨a, ea, e1⟩ := txt_at h4
  obtain ⟨b, eb, e2⟩ := txt_at h5
  exact ⟨T, a, b, h1, h2, by rw [h3, e1, e2], ea, eb⟩

/-! ### in a tuple of data; a list against the empty one; texts -/
def rInT (K : PySem.W.Frag) (neg : Bool) : R2 := fun x y H Q => ∃ d ds, Dp K H x d ∧ Dp K H y (.tuple ds) ∧ SeqAt.shaped d = true ∧ SeqAt.shaped (.tuple ds) = true ∧ Q (.bl (if neg = true then !ds.any fun z => PyData.eqv z d else ds.any fun z => PyData.eqv z d)) H
theorem shaped_lay {d : PyData} (h : SeqAt.shaped d = true) : d.canLay0 = true ∧ d.depth ≤ 64 := by
  have h' : (d.canLay0 && decide (d.depth ≤ 64)) = true := h
  rw [Bool.and_eq_true, decide_eq_true_eq] at h'
  exact h'
theorem op_inT (hu : X.A.units + 66 < cLine) : OpR X (compareOp .In) (rInT X.K false) := by
  intro pins s σ H x y v u Q I rx ry h
  obtain ⟨d, ds, h1, h2, s1, s2, q⟩ := h
  obtain ⟨l1, r1⟩ := Dp.reads I d x v h1 rx
  obtain ⟨l2, r2⟩ := Dp.reads I (.tuple ds) y u h2 ry
  have a1 := shaped_lay s1
  have a2 := shaped_lay s2
  exact SeqAt.in_tuple_reads r2 r1 (by simpa [PyData.canLay0] using a2.1) a1.1 (by have := Nat.min_le_right (PyData.depthAll ds) d.depth; omega) ⟨.bl _, H, I, rfl, q⟩
theorem op_notInT (hu : X.A.units + 66 < cLine) : OpR X (compareOp .NotIn) (rInT X.K true) := by
  intro pins s σ H x y v u Q I rx ry h
  obtain ⟨d, ds, h1, h2, s1, s2, q⟩ := h
  obtain ⟨l1, r1⟩ := Dp.reads I d x v h1 rx
  obtain ⟨l2, r2⟩ := Dp.reads I (.tuple ds) y u h2 ry
  have a1 := shaped_lay s1
  have a2 := shaped_lay s2
  exact SeqAt.notIn_tuple_reads r2 r1 (by simpa [PyData.canLay0] using a2.1) a1.1 (by have := Nat.min_le_right (PyData.depthAll ds) d.depth; omega) ⟨.bl _, H, I, rfl, q⟩
end
end TF
set_option autoImplicit false
set_option Elab.async false
set_option maxRecDepth 100000
set_option linter.all false
namespace TF
open PySem L2 PyProof.Rows
section
variable {X : Cx}
/-- xs == [], xs != [] -/
def rNil (K : PySem.W.Frag) (eq : Bool) : R2 := fun x y H Q => ∃ (a b : Addr) (xs : List V), x = .ref a ∧ y = .ref b ∧ SqL K H a xs ∧ SqL K H b [] ∧ Q (.bl (if eq = true then xs.isEmpty else !xs.isEmpty)) H
theorem op_eqNil (hu : X.A.units < cLine) : OpR X (compareOp .Eq) (rNil X.K true) := by
  intro pins s σ H x y v u Q I rx ry h
  obtain ⟨a, b, xs, rfl, rfl, h1, h2, q⟩ := h
  cases rx
  cases ry
  obtain ⟨its, rv, pl, _⟩ := I.list h1
  obtain ⟨its2, rv2, pl2, _⟩ := I.list h2
  cases rv2
  cases rv with
  | nil => exact SeqAt.RcAt.lists (e := fun _ => true) pl.isList pl2.isList rfl hu (fun j h1 _ => absurd h1 (Nat.not_lt_zero _)) _ _ _ _ ⟨.bl _, H, I, rfl, q⟩
  | cons r t => exact SeqAt.RcAt.lists_lengths pl.isList pl2.isList (by simp) hu _ _ _ _ ⟨.bl _, H, I, rfl, q⟩
theorem op_neNil (hu : X.A.units < cLine) : OpR X (compareOp .NotEq) (rNil X.K false) := by
  intro pins s σ H x y v u Q I rx ry h
  obtain ⟨a, b, xs, rfl, rfl, h1, h2, q⟩ := h
  cases rx
  cases ry
  obtain ⟨its, rv, pl, _⟩ := I.list h1
  obtain ⟨its2, rv2, pl2, _⟩ := I.list h2
  cases rv2
  cases rv with
  | nil => exact SeqAt.RcNeAt.lists (e := fun _ => true) pl.isList pl2.isList rfl hu (fun j h1 _ => absurd h1 (Nat.not_lt_zero _)) _ _ _ _ ⟨.bl _, H, I, rfl, q⟩
  | cons r t => exact SeqAt.RcNeAt.lists_lengths pl.isList pl2.isList (by simp) hu _ _ _ _ ⟨.bl _, H, I, rfl, q⟩
/-- 'Z' * n -/
def rMulS : R2 := fun x y H Q => ∃ (a : Lk) (n : Nat), x = .str (sg a) ∧ y = .int n ∧ 1 ≤ n ∧ n ≤ 8 ∧ Q (.str (txt (List.replicate n a))) H
theorem glue_rep (c : Nat) : ∀ (n : Nat) (acc : Array Nat), (List.replicate n #[c]).foldl (fun x1 x2 => x1 ++ x2) acc = acc ++ (List.replicate n c).toArray
  | 0, acc => by simp
  | n + 1, acc => by
    rw [List.replicate_succ, List.foldl_cons, glue_rep c n, List.replicate_succ]
    apply Array.toList_inj.mp
    simp
theorem op_mulS : OpR X (binaryOp .Mult) rMulS := by
  intro pins s σ H x y v u Q I rx ry h
  obtain ⟨a, n, rfl, rfl, h1, h2, q⟩ := h
  obtain ⟨t, rfl⟩ := rx
  obtain ⟨t', rfl⟩ := ry
  have one : (sg a).length = 1 := rfl
  refine P.mul_str (by rw [decide_eq_false (by omega), decide_eq_false (by omega)]; rfl) (fun _ _ => ?_) (fun _ _ => ?_) ?_
  · rw [one]
    have : (1 : Int) ≤ (2 ^ 63 - 1) / (n : Int) := Int.le_ediv_of_mul_le (by omega) (by omega)
    omega
  · have e : (n : Int).toNat = n := Int.toNat_natCast n
    rw [one, e, Nat.one_mul]
    have : ∀ k, k ≤ 8 → Builtin.Str.tooLong k = false := by decide
    exact this n h2
  · rw [if_neg (by omega)]
    by_cases e : n = 1
    · subst e
      exact ⟨.str (txt [a]), H, I, ⟨t, rfl⟩, q⟩
    · have ne : ¬ (((n : Int) == 1 || (sg a).length == 0) = true) := by
        rw [one]
        simp
        omega
      rw [if_neg ne]
      have et : (⟨(List.replicate (n : Int).toNat (sg a).cps).foldl (fun x1 x2 => x1 ++ x2) #[]⟩ : Str) = txt (List.replicate n a) := by
        rw [Int.toNat_natCast]
        show (⟨(List.replicate n #[cd a]).foldl (fun x1 x2 => x1 ++ x2) #[]⟩ : Str) = ⟨((List.replicate n a).map cd).toArray⟩
        rw [glue_rep, List.map_replicate]
        simp
      rw [et]
      refine ⟨?_, ⟨.str _, H, I.tok _, ⟨_, rfl⟩, q⟩⟩
      rw [txt_len, List.length_replicate, sizeLine_eq]
      omega
/-- list(text) -/
def rListT : List V → Hp → VK → Prop := fun vs H Q => ∃ l : List Lk, vs = [.str (txt l)] ∧ l.length ≤ 8 ∧ ∀ p, H p = none → Q (.ref p) (upd H p (.lst (l.map fun a => V.str (sg a))))
theorem call_listT (hc : X.calm = true) : CallR X (.type "list") rListT := by
  intro pins s σ H xs us Q I r h
  obtain ⟨l, rfl, h8, q⟩ := h
  obtain ⟨u, rfl, ⟨t, rfl⟩⟩ := vals1 r
  have z : (txt l).cps.size = l.length := txt_size l
  refine call_list_str (hn := by rw [z, sizeLine_eq]; omega) (I.ok.hd hc) (txt l) t fun h' tk acc c hk hS ha => ?_
  have v : Vals (l.map fun a => V.str (sg a)) acc.toList := by
    have ln : acc.toList.length = l.length := by rw [Array.length_toList, ha.1, z]
    have at_ : ∀ (i : Nat) (w : Value), acc.toList[i]? = some w → ∃ a u, l[i]? = some a ∧ w = .str (sg a) u := fun i w e => by
      obtain ⟨c, u, e1, e2⟩ := ha.2 i w (by rw [← Array.getElem?_toList]; exact e)
      obtain ⟨a, ea, es⟩ := txt_at e1
      exact ⟨a, u, ea, by rw [e2, es]⟩
    generalize acc.toList = ws at ln at_
    clear ha z q h8 hS r
    induction l generalizing ws with
    | nil =>
      cases ws with
      | nil => exact .nil
      | cons _ _ => cases ln
    | cons a l ih =>
      cases ws with
      | nil => cases ln
      | cons w ws =>
        obtain ⟨a', u, e1, e2⟩ := at_ 0 w rfl
        have ea : a = a' := Option.some.inj e1
        subst ea
        exact .cons ⟨u, e2⟩ (ih _ (by simpa using ln) fun i w' e => at_ (i + 1) w' (by simpa using e))
  have new : ObjOk X.prog X.w (upd H s.heap.objs.size (.lst (l.map fun a => V.str (sg a)))) h' s.heap.objs.size (.lst (l.map fun a => V.str (sg a))) := ⟨by rw [List.length_map, sizeLine_eq]; omega, acc.toList, c, v, by rw [Array.toArray_toList]; exact hS⟩
  exact ⟨.ref s.heap.objs.size, _, I.laid (t' := tk) hk (Nat.le_refl _) new, rfl, q _ (I.hok.fresh (Nat.le_refl _))⟩
end
end TF
set_option autoImplicit false
set_option Elab.async false
set_option maxRecDepth 100000
namespace TF
open PySem L2 PyProof.Rows

/-! ### the program's texts by places, what stands behind its top -/
def top (i : Nat) : Stmt := PySem.Challenge.pw_turnfriends_k15_whole_classes.main.body.getD i (.Pass ⟨0, 0, 0, 0⟩)
structure Def (K : PySem.W.Frag) (mg : Str → Option Value) (x : Str) (i : Nat) (ps : List Str) where
  f : Addr
  fd : FuncData
  F : Fun K x x (top i) f fd
  m : mg x = some (.ref f)
  b : Binds K fd ps []
structure Pg (K : PySem.W.Frag) (mg : Str → Option Value) where
  isInt : Def K mg "is_integer" 7 ["value"]
  isFrom : Def K mg "is_from" 8 ["value", "low", "high"]
  isPair : Def K mg "is_pair_of" 9 ["n", "value"]
  isHall : Def K mg "is_hall" 10 ["value"]
  needHall : Def K mg "need_hall" 11 ["value"]
  arePair : Def K mg "are_pair" 12 ["hall", "x", "y"]
  friends : Def K mg "friends_of" 13 ["hall", "x"]
  behind : Def K mg "behind_turn" 14 ["hall", "x"]
  sumOf : Def K mg "sum_of" 17 ["one", "other"]
  firstStep : Def K mg "first_step" 20 ["hall"]
  allSteps : Def K mg "all_steps" 21 ["hall"]
  needHalls : Def K mg "need_halls" 23 ["hall", "other"]
  changeOf : Def K mg "change_of" 24 ["step"]
  answersTo : Def K mg "answers_to" 25 ["hall", "other"]
  countAns : Def K mg "count_answers" 26 ["hall", "other"]
  membersOf : Def K mg "members_of" 28 ["hall"]
  members : Def K mg "members" 29 ["hall"]
  numIn : Def K mg "number_in_class" 30 ["hall"]
  countMem : Def K mg "count_members" 31 ["hall"]
  leastMem : Def K mg "least_member" 32 ["hall"]
  memberAt : Def K mg "member_at" 33 ["hall", "number"]
  numberOf : Def K mg "number_of" 34 ["hall"]
  lTaken : Def K mg "_law_taken" 36 ["_law_row", "_law_many"]
  lAlike : Def K mg "_law_alike" 37 ["_law_found", "_law_due"]
  lPairs : Def K mg "_law_pairs" 38 ["_law_n"]
  lHall : Def K mg "_law_hall" 39 ["_law_row", "_law_most"]
  lFriends : Def K mg "_law_friends" 40 ["_law_hall_here", "_law_x"]
  lTurn : Def K mg "_law_turn" 41 ["_law_hall_here", "_law_x"]
  lClass : Def K mg "_law_class" 42 ["_law_hall_here"]
  lSum : Def K mg "_law_sum" 43 ["_law_one", "_law_other"]
  lOwn : Def K mg "_law_own" 44 ["_law_hall_here", "_law_x"]
  lRoom : Def K mg "_law_room" 45 ["_law_hall_here"]
  lChoices : Def K mg "_law_choices" 46 ["_law_n"]
  lOver : Def K mg "_law_over" 47 ["_law_rows", "_law_choice"]
  lLaw : Def K mg "law" 48 ["_law_script"]
  C : Addr
  cl : Cls K C
  mC : mg "Step" = some (.ref C)
  nc : NoAttr K C "choice"
  nb : NoAttr K C "bases"
  nh : NoAttr K C "hall"
  fI : Addr
  dI : FuncData
  FI : Fun K "__init__" "Step.__init__" (inClass (top 19) 0) fI dI
  bI : Binds K dI ["self", "choice", "bases", "hall"] []
  M : Mk K C fI
  fT : Addr
  dT : FuncData
  FT : Fun K "third" "Step.third" (inClass (top 19) 1) fT dT
  bT : Binds K dT ["self", "x"] []
  mT : Meth K C "third" fT
  zlen : mg "len" = none
  zisinstance : mg "isinstance" = none
  zint : mg "int" = none
  zbool : mg "bool" = none
  ztuple : mg "tuple" = none
  zlist : mg "list" = none
  zdict : mg "dict" = none
  zstr : mg "str" = none
  zall : mg "all" = none
  zmin : mg "min" = none
  zmax : mg "max" = none
  zrange : mg "range" = none
  zsorted : mg "sorted" = none
  zzip : mg "zip" = none
  zset : mg "set" = none
  gMost : ∃ t, mg "MOST_PEOPLE" = some (.int 8 t)
  gLooks : ∃ t, mg "LOOKS" = some (.str "XYZ" t)
theorem pe_def {X : Cx} {k : Nat} {x : Str} {i : Nat} {ps : List Str} {sp : Sp} {e : Expr} {es : List Expr} {p pos : Pos} {t : TA} (D : Def X.K X.mg x i ps) (F : FnOk X.prog X.w X.K X.mg X.base CX0 k D.f D.fd ps sp) (hr : Room k X.A) (ha : PA X (e :: es) t)
    (hg : Gl X x := by rfl) (hdb : (x == ("__debug__" : Str)) = false := by decide) (he : starEach (e :: es) X.env = (false, eval e X.env) :: starEach es X.env := by rfl) (hpl : (backTo pos (starEach es X.env)).any (·.1) = false := by rfl) :
    PE X (.Call (.Name x p) (e :: es) [] pos) (tCall sp [] E0 t) := pe_call F hr hg D.m D.F.kp D.b .nil pass0 ha hdb he hpl
theorem pe_bi {X : Cx} {id : String} {r : List V → Hp → VK → Prop} {x : Str} {e : Expr} {es : List Expr} {p pos : Pos} {t : TA} (hm : X.mg x = none) (hc : CallR X (.builtin id) r) (ha : PA X (e :: es) t)
    (hg : Gl X x := by rfl) (hv : bootBuiltins x = some (.builtin id) := by decide +kernel) (hn : x ≠ "__name__" := by decide) (hdb : (x == ("__debug__" : Str)) = false := by decide) (he : starEach (e :: es) X.env = (false, eval e X.env) :: starEach es X.env := by rfl) (hpl : (backTo pos (starEach es X.env)).any (·.1) = false := by rfl) :
    PE X (.Call (.Name x p) (e :: es) [] pos) (tCB r t) := pe_callB hc hg hm hv ha hn hdb he hpl
theorem pe_ty {X : Cx} {id : String} {r : List V → Hp → VK → Prop} {x : Str} {e : Expr} {es : List Expr} {p pos : Pos} {t : TA} (hm : X.mg x = none) (hc : CallR X (.type id) r) (ha : PA X (e :: es) t)
    (hg : Gl X x := by rfl) (hv : bootBuiltins x = some (.type id) := by decide +kernel) (hn : x ≠ "__name__" := by decide) (hdb : (x == ("__debug__" : Str)) = false := by decide) (he : starEach (e :: es) X.env = (false, eval e X.env) :: starEach es X.env := by rfl) (hpl : (backTo pos (starEach es X.env)).any (·.1) = false := by rfl) :
    PE X (.Call (.Name x p) (e :: es) [] pos) (tCB r t) := pe_callTy hc hg hm hv ha hn hdb he hpl
/-- a built-in class as a value -/
theorem pe_cls {X : Cx} {x : Str} {pos : Pos} (id : String) (hm : X.mg x = none) (hg : Gl X x := by rfl) (hv : bootBuiltins x = some (.type id) := by decide +kernel) (hn : x ≠ "__name__" := by decide) (hdb : (x == ("__debug__" : Str)) = false := by decide) : PE X (.Name x pos) (tC (.ty id)) := pe_bltn (v := .ty id) hg hm hv rfl hn hdb
theorem tyx_tup {K : PySem.W.Frag} {H : Hp} {a : Addr} {xs : List V} (h : SqT K H a xs) : TyX K H (.ref a) (.type "tuple") := by
  rcases h with (h | ⟨o, h⟩) | ⟨o, its, n, h1, h2, _⟩
  · exact .base (.tup h)
  · exact .fTuple h
  · exact .kTuple h1 h2
theorem same_put {H H' : Hp} {D : Addr} {o : HO} (s : Same H H') (h : H D = none) : Same H (upd H' D o) := fun b q e => by
  rw [upd_ne (ne_of_none e h)]
  exact s b q e
theorem same_new {H : Hp} {D : Addr} {o : HO} (h : H D = none) : Same H (upd H D o) := same_put (Same.refl H) h
theorem q_true {Q : VK} {H : Hp} {c : Prop} [Decidable c] (h : c) (q : Q (.bl true) H) : Q (.bl (decide c)) H := by
  rw [decide_eq_true h]
  exact q
theorem q_dec {Q : VK} {H : Hp} {b b' : Bool} (h : b = b') (q : Q (.bl b') H) : Q (.bl b) H := by
  rw [h]
  exact q
theorem bl_true {c : Prop} [Decidable c] (h : c) : V.bl (decide c) = V.bl true := congrArg V.bl (decide_eq_true h)
theorem bl_false {c : Prop} [Decidable c] (h : ¬ c) : V.bl (decide c) = V.bl false := congrArg V.bl (decide_eq_false h)
theorem room_u {A : Around} {k : Nat} (hr : Room k A) : A.units + 66 < cLine := by have := hr.un; omega
end TF
set_option autoImplicit false
set_option Elab.async false
set_option maxRecDepth 100000
namespace TF
open PySem L2 PyProof.Rows
section
variable {P : Program} {w : World} {K : PySem.W.Frag} {mg : Str → Option Value} {base : Heap}

def spIsInt : Sp := fun vs H Q _ => ∃ i : Int, vs = [.int i] ∧ Q (.bl true) H
theorem sc7 : FnScope ["value"] ["value"] (defScope (top 7)) := ⟨rfl, rfl, rfl, by decide +kernel, rfl, by decide +kernel, by decide +kernel⟩
theorem ok_isInt (G : Pg K mg) : FnOk P w K mg base CX0 1 G.isInt.f G.isInt.fd ["value"] spIsInt := by
  refine G.isInt.F.ok sc7 (fun vs H Q E h => ?_) (fun cdv A outer s H vs Q E hr h => ?_)
  · obtain ⟨i, rfl, _⟩ := h
    rfl
  obtain ⟨i, rfl, q⟩ := h
  refine ⟨_, pss_one (ps_ret (pe_and (pe_bi G.zisinstance call_isi (pa_cons (pv 0) (pa_cons (pe_cls "int" G.zint) pa_nil))) (pe_one (pe_not (pe_bi G.zisinstance call_isi (pa_cons (pv 0) (pa_cons (pe_cls "bool" G.zbool) pa_nil))))))), ?_⟩
  refine ⟨_, rfl, _, .ty "int", .type "int", .type "int", true, rfl, .ty _, .base (.int _), kit_ty (by decide +kernel), true, rfl, iteT ?_⟩
  exact ⟨_, rfl, _, .ty "bool", .type "int", .type "bool", false, rfl, .ty _, .base (.int _), kit_ty (by decide +kernel), false, rfl, q⟩

def spIsFrom : Sp := fun vs H Q _ => ∃ v lo hi : Int, vs = [.int v, .int lo, .int hi] ∧ lo ≤ v ∧ v ≤ hi ∧ Q (.bl true) H
theorem sc8 : FnScope ["value", "low", "high"] ["value", "low", "high"] (defScope (top 8)) := ⟨rfl, rfl, rfl, by decide +kernel, rfl, by decide +kernel, by decide +kernel⟩
theorem ok_isFrom (G : Pg K mg) : FnOk P w K mg base CX0 2 G.isFrom.f G.isFrom.fd ["value", "low", "high"] spIsFrom := by
  refine G.isFrom.F.ok sc8 (fun vs H Q E h => ?_) (fun cdv A outer s H vs Q E hr h => ?_)
  · obtain ⟨v, lo, hi, rfl, _⟩ := h
    rfl
  obtain ⟨v, lo, hi, rfl, h1, h2, q⟩ := h
  refine ⟨_, pss_one (ps_ret (pe_and (pe_def G.isInt (ok_isInt G) hr (pa_cons (pv 0) pa_nil)) (pe_one (pe_chain op_le op_le (pv 1) (pv 0) (pv 2))))), ?_⟩
  refine ⟨_, rfl, v, rfl, true, rfl, iteT ?_⟩
  refine ⟨_, rfl, _, rfl, _, _, rfl, rfl, true, bl_true h1, iteT ?_⟩
  refine ⟨_, rfl, _, _, rfl, rfl, ?_⟩
  exact q_true h2 q

def spIsPair (K : PySem.W.Frag) : Sp := fun vs H Q _ => ∃ (n : Nat) (v : V) (p : Nat × Nat), vs = [.int n, v] ∧ PrV K H v p ∧ p.1 < p.2 ∧ p.2 < n ∧ ∀ H', Same H H' → Q (.bl true) H'
theorem sc9 : FnScope ["n", "value", "part"] ["n", "value"] (defScope (top 9)) := ⟨rfl, rfl, rfl, by decide +kernel, rfl, by decide +kernel, by decide +kernel⟩
theorem ok_isPair (G : Pg K mg) : FnOk P w K mg base CX0 3 G.isPair.f G.isPair.fd ["n", "value"] (spIsPair K) := by
  refine G.isPair.F.ok sc9 (fun vs H Q E h => ?_) (fun cdv A outer s H vs Q E hr h => ?_)
  · obtain ⟨n, v, p, rfl, _⟩ := h
    rfl
  obtain ⟨n, v, p, rfl, hp, h1, h2, q⟩ := h
  obtain ⟨a, rfl, sa⟩ := prV_open hp
  refine ⟨_, pss_cons (ps_if (PW.pt (pw_or (pt_not (pt_val (pe_bi G.zisinstance call_isi (pa_cons (pv 1) (pa_cons (pe_cls "tuple" G.ztuple) pa_nil)))))
      (pw_or (pt_cmpR op_ne (pe_bi G.zlen call_len_seq (pa_cons (pv 1) pa_nil)) pe_int (nomark _))
      (pw_or1 (pt_not (pt_val (pe_bi G.zall (cr_all rfl) (pa_cons (pe_lc (own := [("part", 2)]) (g := gName 2) (tt := tYes) rfl sc9.nd (pi_tup (pv 1)) (blkOk_by (N := ["n", "value", "part"]) (sc := defScope (top 9)) (by decide +kernel))
        (fun _ _ _ _ _ => pg_name (i := 2) sc9.nd rfl (Or.inl rfl)) (fun _ _ _ _ _ => pts_nil) (fun _ _ _ _ _ => pe_def G.isFrom (ok_isFrom G) hr (pa_cons (pv 2) (pa_cons pe_int (pa_cons (pe_op op_sub (pv 0) pe_int) pa_nil))))) pa_nil))))))))
      pss_never pss_nil) (pss_one (ps_ret (pe_cmpR op_lt (pe_ix ix_tup (pv 1) pe_int (fun _ _ => rfl)) (pe_ix ix_tup (pv 1) pe_int (fun _ _ => rfl)) (nomark _)))), ?_⟩
  refine ⟨_, rfl, _, .ty "tuple", .type "tuple", .type "tuple", true, rfl, .ty _, tyx_tup sa, kit_ty (by decide +kernel), true, rfl, iteF ?_⟩
  refine ⟨_, rfl, a, _, rfl, .inr sa, rfl, _, rfl, iteF ?_⟩
  refine ⟨_, rfl, a, rfl, ⟨_, sa⟩, fun D hD => lc_tup (K := K) (a := a) (xs := [.int p.1, .int p.2]) (fun i H' => Same H H' ∧ H' D = some (.lst ((List.replicate i true).map V.bl))) ⟨same_new hD, upd_same⟩ (fun i H' _ q => same_t q.1 sa) ?_ ?_⟩
  · rintro i x H' hx ⟨s1, e1⟩
    have hb : ∃ z : Nat, x = .int z ∧ z < n := by
      match i, hx with
      | 0, hx => exact ⟨p.1, (Option.some.inj hx).symm, by omega⟩
      | 1, hx => exact ⟨p.2, (Option.some.inj hx).symm, by omega⟩
      | k + 2, hx => simp at hx
    obtain ⟨z, rfl, hz⟩ := hb
    refine ⟨rfl, _, rfl, _, rfl, _, _, rfl, rfl, z, 0, n - 1, rfl, by omega, by omega, ?_⟩
    refine ⟨_, e1, ?_, same_put s1 hD, ?_⟩
    · have : i < 2 := (List.getElem?_eq_some_iff.mp hx).1
      rw [List.length_map, List.length_replicate]
      exact Nat.lt_of_lt_of_le this (by decide)
    · rw [upd_same, List.replicate_succ']
      simp
  · rintro H' ⟨s1, e1⟩
    refine ⟨D, _, rfl, SqL.of e1, true, rfl, iteF ?_⟩
    refine ⟨_, rfl, a, _, _, .int p.1, rfl, rfl, same_t s1 sa, atI_nat (j := 0) rfl, _, rfl, a, _, _, .int p.2, rfl, rfl, same_t s1 sa, atI_nat (j := 1) rfl, _, _, rfl, rfl, ?_⟩
    exact q_true (by omega) (q _ s1)
end
end TF
set_option autoImplicit false
set_option Elab.async false
set_option maxRecDepth 100000
namespace TF
open PySem L2 PyProof.Rows
def Okh (h : Hall) : Prop := Can h ∧ 1 ≤ h.1 ∧ h.1 ≤ 5
theorem Okh.few {h : Hall} (o : Okh h) : h.2.length ≤ 10 := o.1.few o.2.2
theorem walk_zipT {K : PySem.W.Frag} {a b : Addr} {xs ys : List V} {n : Nat} (hn : n = min xs.length ys.length) : Walk (RZ.ItzT K a b) n (fun H => SqT K H a xs ∧ SqT K H b ys) (YPair (fun i => xs[i]?) (fun i => ys[i]?)) := by
  subst hn
  refine ⟨fun i _ hi q => ?_, fun _ q => ⟨xs, ys, q.1, q.2, by omega⟩, fun i H v H' _ q y => ?_⟩
  · have h1 : i < xs.length := by omega
    have h2 : i < ys.length := by omega
    exact ⟨xs, ys, xs[i], ys[i], q.1, q.2, by simp [h1], by simp [h2]⟩
  · obtain ⟨T, x, z, h1, h2, h3, h4, h5⟩ := y
    exact ⟨T, x, z, h1, h2, h3, h4 xs q.1, h5 ys q.2⟩
theorem sl_both {K : PySem.W.Frag} {H : Hp} {b : Addr} {qs : List V} {lo hi : Option Int} {Q : VK} (sb : SqT K H b qs) (k : ∀ b' H1, Same H H1 → SqT K H1 b' (cutV qs lo hi) → Q (.ref b') H1) : rSlA K (.ref b) lo hi H Q := by
  refine ⟨b, qs, rfl, sb, fun hw => k b H (Same.refl H) ?_, fun _ p hp => k p _ (same_new hp) (SqT.of upd_same)⟩
  have e : cutV qs lo hi = qs := by
    unfold cutV
    rw [hw.1, hw.2, List.drop_zero, Nat.sub_zero, List.take_length]
  rw [e]
  exact sb
theorem cut_tail (qs : List V) : cutV qs (some 1) none = qs.drop 1 := by
  unfold cutV
  rw [HT.sIx_none, show (1 : Int) = ((1 : Nat) : Int) from rfl, HT.sIx_nat]
  cases qs with
  | nil => rfl
  | cons x xs =>
    rw [show min 1 (x :: xs).length = 1 by simp, List.take_of_length_le (by rw [List.length_drop]; omega)]
theorem pr_at {K : PySem.W.Frag} {H : Hp} {qs : List V} {ps : List (Nat × Nat)} {i : Nat} {x : V} (hq : DpAll K H qs (ps.map dP)) (hx : qs[i]? = some x) : ∃ p, ps[i]? = some p ∧ PrV K H x p := by
  obtain ⟨d, h1, h2⟩ := dps_get hq hx
  rw [List.getElem?_map] at h1
  cases e : ps[i]? with
  | none => rw [e] at h1; cases h1
  | some p =>
    rw [e] at h1
    cases h1
    exact ⟨p, rfl, h2⟩
theorem asc_of {h : Hall} (c : Can h) {i : Nat} {p q : Nat × Nat} (hp : h.2[i]? = some p) (hq : h.2[i + 1]? = some q) : HT.lexLt [(p.1 : Int), p.2] [(q.1 : Int), q.2] = true := by
  have A : h.2.Pairwise fun p q => leP p q = true := by
    rw [c]
    exact (allPairs_le h.1).filter _
  have N : h.2.Nodup := by
    rw [c]
    exact nodup_filter (allPairs_nodup h.1)
  obtain ⟨hi, rfl⟩ := List.getElem?_eq_some_iff.mp hp
  obtain ⟨hj, rfl⟩ := List.getElem?_eq_some_iff.mp hq
  have a := List.pairwise_iff_getElem.mp A i (i + 1) hi hj (Nat.lt_succ_self i)
  have b := List.pairwise_iff_getElem.mp N i (i + 1) hi hj (Nat.lt_succ_self i)
  rw [leP_eq] at a
  have a' := of_decide_eq_true a
  generalize h.2[i] = p at *
  generalize h.2[i + 1] = q at *
  rw [HT.lexLt_cons, HT.lexLt_cons]
  by_cases e : (p.1 : Int) = q.1
  · rw [if_pos e]
    have : p.2 ≠ q.2 := fun z => b (Prod.ext (by omega) z)
    rw [if_neg (by omega)]
    exact decide_eq_true (by omega)
  · rw [if_neg e]
    exact decide_eq_true (by omega)
section
variable {P : Program} {w : World} {K : PySem.W.Frag} {mg : Str → Option Value} {base : Heap}

def spIsHall (K : PySem.W.Frag) : Sp := fun vs H Q _ => ∃ (v : V) (h : Hall), vs = [v] ∧ HlV K H v h ∧ Okh h ∧ ∀ H', Same H H' → Q (.bl true) H'
abbrev N10 : List Str := ["value", "n", "pairs", "pair", "one", "other"]
theorem sc10 : FnScope N10 ["value"] (defScope (top 10)) := ⟨rfl, rfl, rfl, by decide +kernel, rfl, by decide +kernel, by decide +kernel⟩
theorem ok_isHall (G : Pg K mg) : FnOk P w K mg base CX0 4 G.isHall.f G.isHall.fd ["value"] (spIsHall K) := by
  refine G.isHall.F.ok sc10 (fun vs H Q E h => ?_) (fun cdv A outer s H vs Q E hr h => ?_)
  · obtain ⟨v, h, rfl, _⟩ := h
    rfl
  obtain ⟨v, h, rfl, hp, O, q⟩ := h
  obtain ⟨a, b, qs, rfl, sa, sb, hq⟩ := hlV_open hp
  obtain ⟨tM, hM⟩ := G.gMost
  have hr2 : Room 2 _ := hr.mono (by decide)
  have len : qs.length = h.2.length := by rw [dps_len hq, List.length_map]
  have few := O.few
  refine ⟨_, pss_cons (ps_if (PW.pt (pw_or (pt_not (pt_val (pe_bi G.zisinstance call_isi (pa_cons (pv 0) (pa_cons (pe_cls "tuple" G.ztuple) pa_nil)))))
      (pw_or (pt_cmpR op_ne (pe_bi G.zlen call_len_seq (pa_cons (pv 0) pa_nil)) pe_int (nomark _))
      (pw_or1 (pt_not (pt_val (pe_def G.isFrom (ok_isFrom G) hr2 (pa_cons (pe_ix ix_tup (pv 0) pe_int (fun _ _ => rfl)) (pa_cons pe_int (pa_cons (pe_glob (v := .int 8) rfl hM ⟨_, rfl⟩) pa_nil)))))))))) pss_never pss_nil)
    (pss_cons (ps_asg (pv 0) (pg_tup rfl (pgs_cons (pg_name (i := 1) sc10.nd rfl (Or.inr rfl)) (pgs_cons (pg_name (i := 2) sc10.nd rfl (Or.inl rfl)) pgs_nil))))
    (pss_cons (ps_if (PW.pt (pw_or (pt_not (pt_val (pe_bi G.zisinstance call_isi (pa_cons (pv 2) (pa_cons (pe_cls "tuple" G.ztuple) pa_nil)))))
      (pw_or1 (pt_not (pt_val (pe_bi G.zall (cr_all rfl) (pa_cons (pe_lc (own := [("pair", 3)]) (g := gName 3) (tt := tYes) rfl sc10.nd (pi_tup (pv 2)) (blkOk_by (N := N10) (sc := defScope (top 10)) (by decide +kernel))
        (fun _ _ _ _ _ => pg_name (i := 3) sc10.nd rfl (Or.inl rfl)) (fun _ _ _ _ _ => pts_nil) (fun _ _ _ _ _ => pe_def G.isPair (ok_isPair G) hr (pa_cons (pv 1) (pa_cons (pv 3) pa_nil)))) pa_nil))))))) pss_never pss_nil)
    (pss_one (ps_ret (pe_bi G.zall (cr_all rfl) (pa_cons (pe_lc (own := [("one", 4), ("other", 5)]) (g := gTup K 2 (gCons (gName 4) (gCons (gName 5) gNil))) (tt := tYes) rfl sc10.nd (RZ.pi_zipA rfl G.zzip (pa_cons (pv 2) (pa_cons (pe_slice sl_tupA (pv 2) (po_some pe_int) po_none) pa_nil)))
        (blkOk_by (N := N10) (sc := defScope (top 10)) (by decide +kernel)) (fun _ _ _ _ _ => pg_tup rfl (pgs_cons (pg_name (i := 4) sc10.nd rfl (Or.inl rfl)) (pgs_cons (pg_name (i := 5) sc10.nd rfl (Or.inl rfl)) pgs_nil))) (fun _ _ _ _ _ => pts_nil)
        (fun _ _ _ _ _ => pe_cmpR (r := rLtT K) (op_ltT hr.units0) (pv 4) (pv 5) (nomark _))) pa_nil)))))), ?_⟩
  refine ⟨_, rfl, _, .ty "tuple", .type "tuple", .type "tuple", true, rfl, .ty _, tyx_tup sa, kit_ty (by decide +kernel), true, rfl, iteF ?_⟩
  refine ⟨_, rfl, a, _, rfl, .inr sa, rfl, _, rfl, iteF ?_⟩
  refine ⟨_, rfl, a, _, _, .int h.1, rfl, rfl, sa, atI_nat (j := 0) rfl, h.1, 1, 8, rfl, by have := O.2.1; omega, by have := O.2.2; omega, true, rfl, iteF ?_⟩
  refine ⟨_, rfl, a, _, rfl, sa, rfl, _, _, rfl, _, _, rfl, rfl, ?_⟩
  refine ⟨_, rfl, _, .ty "tuple", .type "tuple", .type "tuple", true, rfl, .ty _, tyx_tup sb, kit_ty (by decide +kernel), true, rfl, iteF ?_⟩
  refine ⟨_, rfl, b, rfl, ⟨_, sb⟩, fun D hD => lc_tup (K := K) (a := b) (xs := qs) (fun i H' => Same H H' ∧ H' D = some (.lst ((List.replicate i true).map V.bl))) ⟨same_new hD, upd_same⟩ (fun i H' _ q => same_t q.1 sb) ?_ ?_⟩
  · rintro i x H' hx ⟨s1, e1⟩
    obtain ⟨p, hp1, hp2⟩ := pr_at hq hx
    have lt := O.1.mem (List.mem_of_getElem? hp1)
    refine ⟨rfl, _, rfl, _, rfl, h.1, x, p, rfl, dp_same s1 _ _ hp2, lt.1, lt.2, fun H2 s2 => ?_⟩
    refine ⟨_, s2 _ _ e1, ?_, same_put (s1.trans s2) hD, ?_⟩
    · have : i < qs.length := (List.getElem?_eq_some_iff.mp hx).1
      rw [List.length_map, List.length_replicate]
      exact small1000 (by omega)
    · rw [upd_same, List.replicate_succ']
      simp
  rintro H1 ⟨s1, e1⟩
  refine ⟨D, _, rfl, SqL.of e1, true, by simp, iteF ?_⟩
  have sb1 := same_t s1 sb
  refine ⟨_, rfl, _, rfl, 1, rfl, ?_⟩
  simp only [tNoPart]
  refine sl_both (lo := some 1) (hi := none) sb1 fun b' H2 s2 sb2 => ?_
  rw [cut_tail] at sb2
  refine ⟨b, b', _, _, rfl, .inr ⟨same_t s2 sb1, sb2, fun D hD => lc_it (walk_zipT rfl) (fun i H' => Same H2 H' ∧ H' D = some (.lst ((List.replicate i true).map V.bl))) ⟨same_new hD, upd_same⟩ (fun i H' _ q => ⟨same_t q.1 (same_t s2 sb1), same_t q.1 sb2⟩) ?_ ?_⟩⟩
  · rintro i x H' H'' hi ⟨s3, e3⟩ ⟨T, x1, x2, rfl, hT, rfl, hx1, hx2⟩
    have hx2 : qs[i + 1]? = some x2 := by
      have : (qs.drop 1)[i]? = some x2 := hx2
      rw [List.getElem?_drop, Nat.add_comm] at this
      exact this
    obtain ⟨p, hp1, hp2⟩ := pr_at hq hx1
    obtain ⟨p', hp3, hp4⟩ := pr_at hq hx2
    obtain ⟨c, rfl, sc⟩ := prV_open hp2
    obtain ⟨c', rfl, sc'⟩ := prV_open hp4
    have s4 : Same H (upd H' T (.tup [.ref c, .ref c'])) := same_put (s1.trans (s2.trans s3)) ((s1.trans (s2.trans s3)).free hT)
    refine ⟨T, _, rfl, SqT.of upd_same, rfl, _, _, rfl, _, _, rfl, rfl, rfl, ?_⟩
    refine ⟨_, rfl, _, rfl, c, c', [(p.1 : Int), p.2], [(p'.1 : Int), p'.2], rfl, rfl, same_t s4 sc, same_t s4 sc', ?_⟩
    rw [asc_of O.1 hp1 hp3]
    have nD : D ≠ T := ne_of_none e3 hT
    refine ⟨_, (upd_ne nD).trans e3, ?_, ?_, ?_⟩
    · have : i < qs.length := by omega
      rw [List.length_map, List.length_replicate]
      exact small1000 (by omega)
    · exact same_put (same_put s3 (s3.free hT)) hD
    · rw [upd_same, List.replicate_succ']
      simp
  · rintro H4 ⟨s3, e3⟩
    refine ⟨D, _, rfl, SqL.of e3, ?_⟩
    rw [show (List.replicate _ true).all id = true by simp]
    exact q _ (s1.trans (s2.trans s3))

def spNeedHall (K : PySem.W.Frag) : Sp := fun vs H Q _ => ∃ (v : V) (h : Hall), vs = [v] ∧ HlV K H v h ∧ Okh h ∧ ∀ H', Same H H' → Q .non H'
theorem sc11 : FnScope ["value"] ["value"] (defScope (top 11)) := ⟨rfl, rfl, rfl, by decide +kernel, rfl, by decide +kernel, by decide +kernel⟩
theorem ok_needHall (G : Pg K mg) : FnOk P w K mg base CX0 5 G.needHall.f G.needHall.fd ["value"] (spNeedHall K) := by
  refine G.needHall.F.ok sc11 (fun vs H Q E h => ?_) (fun cdv A outer s H vs Q E hr h => ?_)
  · obtain ⟨v, h, rfl, _⟩ := h
    rfl
  obtain ⟨v, h, rfl, hp, O, q⟩ := h
  refine ⟨_, pss_one (ps_if (pt_not (pt_val (pe_def G.isHall (ok_isHall G) hr (pa_cons (pv 0) pa_nil)))) pss_never pss_nil), ?_⟩
  exact ⟨_, rfl, v, h, rfl, hp, O, fun H' s => ⟨true, rfl, iteF (q _ s)⟩⟩
def spNeedHalls (K : PySem.W.Frag) : Sp := fun vs H Q _ => ∃ (v u : V) (h g : Hall), vs = [v, u] ∧ HlV K H v h ∧ HlV K H u g ∧ Okh h ∧ Okh g ∧ h.1 = g.1 ∧ ∀ H', Same H H' → Q .non H'
theorem sc23 : FnScope ["hall", "other"] ["hall", "other"] (defScope (top 23)) := ⟨rfl, rfl, rfl, by decide +kernel, rfl, by decide +kernel, by decide +kernel⟩
theorem ok_needHalls (G : Pg K mg) : FnOk P w K mg base CX0 6 G.needHalls.f G.needHalls.fd ["hall", "other"] (spNeedHalls K) := by
  refine G.needHalls.F.ok sc23 (fun vs H Q E h => ?_) (fun cdv A outer s H vs Q E hr h => ?_)
  · obtain ⟨v, u, h, g, rfl, _⟩ := h
    rfl
  obtain ⟨v, u, h, g, rfl, hp, hg, O, O', en, q⟩ := h
  refine ⟨_, pss_cons (ps_expr (pe_def G.needHall (ok_needHall G) hr (pa_cons (pv 0) pa_nil))) (pss_cons (ps_expr (pe_def G.needHall (ok_needHall G) hr (pa_cons (pv 1) pa_nil)))
    (pss_one (ps_if (pt_cmpR op_ne (pe_ix ix_tup (pv 0) pe_int (fun _ _ => rfl)) (pe_ix ix_tup (pv 1) pe_int (fun _ _ => rfl)) (nomark _)) pss_never pss_nil))), ?_⟩
  refine ⟨_, rfl, v, h, rfl, hp, O, fun H1 s1 => ⟨_, rfl, u, g, rfl, dp_same s1 _ _ hg, O', fun H2 s2 => ?_⟩⟩
  obtain ⟨a, b, qs, rfl, sa, sb, _⟩ := hlV_open hp
  obtain ⟨a', b', qs', rfl, sa', sb', _⟩ := hlV_open hg
  have s3 := s1.trans s2
  refine ⟨_, rfl, a, _, _, .int h.1, rfl, rfl, same_t s3 sa, atI_nat (j := 0) rfl, _, rfl, a', _, _, .int g.1, rfl, rfl, same_t s3 sa', atI_nat (j := 0) rfl, rfl, _, rfl, ?_⟩
  rw [en]
  refine iteNS ?_ ?_
  · simp
  · exact q _ s3
end
end TF
set_option autoImplicit false
set_option Elab.async false
set_option maxRecDepth 100000
namespace TF
open PySem L2 PyProof.Rows
theorem min_nat (x y : Nat) : (if (y : Int) < (x : Int) then (y : Int) else (x : Int)) = ((min x y : Nat) : Int) := by
  by_cases h : (y : Int) < (x : Int)
  · rw [if_pos h, Nat.min_eq_right (by omega)]
  · rw [if_neg h, Nat.min_eq_left (by omega)]
theorem max_nat (x y : Nat) : (if (y : Int) > (x : Int) then (y : Int) else (x : Int)) = ((max x y : Nat) : Int) := by
  by_cases h : (y : Int) > (x : Int)
  · rw [if_pos h, Nat.max_eq_right (by omega)]
  · rw [if_neg h, Nat.max_eq_left (by omega)]
section
variable {P : Program} {w : World} {K : PySem.W.Frag} {mg : Str → Option Value} {base : Heap}
/-- (min(x, y), max(x, y)) in the pairs of a hall -/
theorem look_pair {H : Hp} {x y : Nat} {h : Hall} {a b : Addr} {qs : List V} {Q : VK} (sa : SqT K H a [.int h.1, .ref b]) (sb : SqT K H b qs) (hq : DpAll K H qs (h.2.map dP)) (q : ∀ H', Same H H' → Q (.bl (adj h x y)) H') {p : Addr} (hp : H p = none) :
    rInT K false (.ref p) (.ref b) (upd H p (.tup [.int (if (y : Int) < (x : Int) then (y : Int) else x), .int (if (y : Int) > (x : Int) then (y : Int) else x)])) Q := by
  rw [min_nat, max_nat]
  refine ⟨dP (min x y, max x y), h.2.map dP, prV_of (SqT.of upd_same), .tup (same_t (same_new hp) sb) (dps_same (same_new hp) _ _ hq), dP_shaped _, dPs_shaped _, ?_⟩
  rw [if_neg Bool.false_ne_true, any_dP]
  exact q _ (same_new hp)

def spArePair (K : PySem.W.Frag) : Sp := fun vs H Q _ => ∃ (v : V) (h : Hall) (x y : Nat), vs = [v, .int x, .int y] ∧ HlV K H v h ∧ ∀ H', Same H H' → Q (.bl (adj h x y)) H'
theorem sc12 : FnScope ["hall", "x", "y"] ["hall", "x", "y"] (defScope (top 12)) := ⟨rfl, rfl, rfl, by decide +kernel, rfl, by decide +kernel, by decide +kernel⟩
theorem ok_arePair (G : Pg K mg) : FnOk P w K mg base CX0 1 G.arePair.f G.arePair.fd ["hall", "x", "y"] (spArePair K) := by
  refine G.arePair.F.ok sc12 (fun vs H Q E h => ?_) (fun cdv A outer s H vs Q E hr h => ?_)
  · obtain ⟨v, h, x, y, rfl, _⟩ := h
    rfl
  obtain ⟨v, h, x, y, rfl, hp, q⟩ := h
  obtain ⟨a, b, qs, rfl, sa, sb, hq⟩ := hlV_open hp
  refine ⟨_, pss_one (ps_ret (pe_cmpR (op_inT (room_u hr)) (pe_tup (pa_cons (pe_bi G.zmin (call_min2 rfl) (pa_cons (pv 1) (pa_cons (pv 2) pa_nil))) (pa_cons (pe_bi G.zmax (call_max2 rfl) (pa_cons (pv 1) (pa_cons (pv 2) pa_nil))) pa_nil))) (pe_ix ix_tup (pv 0) pe_int (fun _ _ => rfl)) (by rfl))), ?_⟩
  refine ⟨_, rfl, _, rfl, (x : Int), (y : Int), rfl, _, rfl, _, rfl, (x : Int), (y : Int), rfl, by show 2 ≤ sizeLine; decide, fun p hp => ?_⟩
  exact ⟨_, rfl, a, _, _, .ref b, rfl, rfl, same_t (same_new hp) sa, atI_nat (j := 1) rfl, look_pair sa sb hq q hp⟩

def frs (h : Hall) (x : Nat) : List Nat := (List.range h.1).filter fun y => adj h x y
def spFriends (K : PySem.W.Frag) : Sp := fun vs H Q _ => ∃ (v : V) (h : Hall) (x : Nat), vs = [v, .int x] ∧ HlV K H v h ∧ h.1 ≤ 5 ∧ ∀ H' l, Same H H' → H l = none → H' l = some (.lst ((frs h x).map fun y : Nat => V.int y)) → Q (.ref l) H'
abbrev N13 : List Str := ["hall", "x", "y"]
theorem sc13 : FnScope N13 ["hall", "x"] (defScope (top 13)) := ⟨rfl, rfl, rfl, by decide +kernel, rfl, by decide +kernel, by decide +kernel⟩
theorem frs_succ (h : Hall) (x i : Nat) : (List.range (i + 1)).filter (fun y => adj h x y) = (List.range i).filter (fun y => adj h x y) ++ (if adj h x i = true then [i] else []) := by
  rw [List.range_succ, List.filter_append, List.filter_cons, List.filter_nil]
theorem ok_friends (G : Pg K mg) : FnOk P w K mg base CX0 2 G.friends.f G.friends.fd ["hall", "x"] (spFriends K) := by
  refine G.friends.F.ok sc13 (fun vs H Q E h => ?_) (fun cdv A outer s H vs Q E hr h => ?_)
  · obtain ⟨v, h, x, rfl, _⟩ := h
    rfl
  obtain ⟨v, h, x, rfl, hp, h5, q⟩ := h
  obtain ⟨a, b, qs, rfl, sa, sb, hq⟩ := hlV_open hp
  refine ⟨_, pss_one (ps_ret (pe_lc (own := [("y", 2)]) (g := gName 2) rfl sc13.nd (pi_range1 rfl G.zrange (pa_cons (pe_ix ix_tup (pv 0) pe_int (fun _ _ => rfl)) pa_nil)) (blkOk_by (N := N13) (sc := defScope (top 13)) (by decide +kernel))
    (fun _ _ _ _ _ => pg_name (i := 2) sc13.nd rfl (Or.inl rfl)) (fun _ _ _ _ _ => pts_one (pt_val (pe_def G.arePair (ok_arePair G) hr (pa_cons (pv 0) (pa_cons (pv 1) (pa_cons (pv 2) pa_nil)))))) (fun _ _ _ _ _ => pv 2))), ?_⟩
  refine ⟨_, rfl, a, _, _, .int h.1, rfl, rfl, sa, atI_nat (j := 0) rfl, h.1, rfl, by omega, by omega, fun D hD => lc_range (lo := 0) (n := h.1) (fun i H' => Same H H' ∧ H' D = some (.lst (((List.range i).filter fun y => adj h x y).map fun y : Nat => V.int y))) ⟨same_new hD, upd_same⟩ ?_ ?_⟩
  · rintro i H' hi ⟨s1, e1⟩
    rw [Int.zero_add]
    refine ⟨rfl, _, rfl, _, rfl, _, rfl, .ref a, h, x, i, rfl, dp_same s1 _ _ hp, fun H2 s2 => ⟨_, rfl, ?_⟩⟩
    rw [frs_succ]
    cases hc : adj h x i with
    | true =>
      refine iteT ⟨_, rfl, _, s2 _ _ e1, ?_, same_put (s1.trans s2) hD, ?_⟩
      · rw [List.length_map]
        refine small1000 (Nat.le_trans (List.length_filter_le _ _) ?_)
        rw [List.length_range]
        omega
      · rw [upd_same, if_pos rfl, List.map_append]
        rfl
    | false =>
      refine iteF ⟨s1.trans s2, ?_⟩
      rw [if_neg Bool.false_ne_true, List.append_nil]
      exact s2 _ _ e1
  · rintro H' ⟨s1, e1⟩
    exact q _ _ s1 hD e1
end
end TF
set_option autoImplicit false
set_option Elab.async false
set_option maxRecDepth 100000
namespace TF
open PySem L2 PyProof.Rows
theorem room_v {A : Around} {k : Nat} (hr : Room k A) : A.units + 65 < cLine := by have := hr.un; omega
theorem room_w {A : Around} {k : Nat} (hr : Room k A) : A.units + 16 < cLine := by have := hr.un; omega
theorem room_x {A : Around} {k : Nat} (hr : Room k A) : A.units + 8 < cLine := by have := hr.un; omega
/-- any walk, its turns told by Pv -/
theorem lc_out {J : It} {n : Nat} {G : Hp → Prop} {Y : Nat → Hp → V → Hp → Prop} (w : Walk J n G Y) {F : V → Hp → (Hp → Prop) → Prop} {H0 : Hp} {Qd : Hp → Prop} (Pv : Nat → Hp → Prop) (h0 : Pv 0 H0) (hG : ∀ i H, i ≤ n → Pv i H → G H)
    (hs : ∀ i x H H', i < n → Pv i H → Y i H x H' → F x H' (Pv (i + 1))) (hd : ∀ H, Pv n H → Qd H) :
    ∃ W : Nat → Nat → Hp → Prop, (∃ m, W 0 m H0) ∧ ∀ i m H, W i m H → (J.stop i H ∧ Qd H) ∨ (J.go i H ∧ ∃ Nx : Hp → Prop, (∀ H', Nx H' → ∃ m', m' < m ∧ W (i + 1) m' H') ∧ ∀ x H', J.yld i H x H' → F x H' Nx) := by
  refine ⟨fun i m H => m = n - i ∧ i ≤ n ∧ Pv i H, ⟨n, by simp, Nat.zero_le _, h0⟩, ?_⟩
  rintro i m H ⟨rfl, hi, p⟩
  have q := hG i H hi p
  by_cases hlt : i < n
  · exact .inr ⟨w.goes i H hlt q, Pv (i + 1), fun H' p' => ⟨n - (i + 1), by omega, rfl, hlt, p'⟩, fun x H' y => hs i x H H' hlt p (w.yields i H x H' hlt q y)⟩
  · have e : i = n := by omega
    subst e
    exact .inl ⟨w.stops H q, hd H p⟩
theorem map_at {α : Type} {f : α → V} {l : List α} {i : Nat} {y : V} (h : (l.map f)[i]? = some y) : ∃ a, l[i]? = some a ∧ y = f a := by
  rw [List.getElem?_map] at h
  cases e : l[i]? with
  | none => rw [e] at h; cases h
  | some a =>
    rw [e] at h
    exact ⟨a, rfl, (Option.some.inj h).symm⟩
theorem take_next {α : Type} {l : List α} {i : Nat} {a : α} (h : l[i]? = some a) : l.take (i + 1) = l.take i ++ [a] := by rw [List.take_add_one, h]; rfl
theorem flt_next {α : Type} {f : α → Bool} {l : List α} {i : Nat} {a : α} (h : l[i]? = some a) : (l.take (i + 1)).filter f = (l.take i).filter f ++ (if f a = true then [a] else []) := by
  rw [take_next h, List.filter_append, List.filter_cons, List.filter_nil]
theorem prs_put {K : PySem.W.Frag} {H : Hp} {D : Addr} {acc xs : List V} {ps : List (Nat × Nat)} (e : H D = some (.lst acc)) (d : DpAll K H xs (ps.map dP)) {ys : List V} : DpAll K (upd H D (.lst ys)) xs (ps.map dP) :=
  (Tp.upd e (fun _ z => nomatch z) (fun _ _ z => nomatch z)).prs d
theorem hls_put {K : PySem.W.Frag} {H : Hp} {D : Addr} {acc xs : List V} {hs : List Hall} (e : H D = some (.lst acc)) (d : DpAll K H xs (hs.map dH)) {ys : List V} : DpAll K (upd H D (.lst ys)) xs (hs.map dH) :=
  (Tp.upd e (fun _ z => nomatch z) (fun _ _ z => nomatch z)).hls d
/-- what a list of pairs holds, told at D -/
def PrL (K : PySem.W.Frag) (H : Hp) (D : Addr) (ps : List (Nat × Nat)) : Prop := ∃ acc, H D = some (.lst acc) ∧ DpAll K H acc (ps.map dP)
theorem PrL.len {K : PySem.W.Frag} {H : Hp} {acc : List V} {ps : List (Nat × Nat)} (d : DpAll K H acc (ps.map dP)) : acc.length = ps.length := by rw [dps_len d, List.length_map]
theorem PrL.same {K : PySem.W.Frag} {H H' : Hp} {D : Addr} {ps : List (Nat × Nat)} (p : PrL K H D ps) (s : Same H H') : PrL K H' D ps := ⟨p.choose, s _ _ p.choose_spec.1, dps_same s _ _ p.choose_spec.2⟩
theorem PrL.add {K : PySem.W.Frag} {H : Hp} {D : Addr} {ps : List (Nat × Nat)} {acc : List V} {v : V} {p : Nat × Nat} (e : H D = some (.lst acc)) (d : DpAll K H acc (ps.map dP)) (hv : PrV K H v p) : PrL K (upd H D (.lst (acc ++ [v]))) D (ps ++ [p]) := by
  refine ⟨_, upd_same, ?_⟩
  have : DpAll K H (acc ++ [v]) ((ps ++ [p]).map dP) := by
    rw [List.map_append]
    exact dps_app d (dps_one hv)
  exact prs_put e this
theorem PrL.none {K : PySem.W.Frag} {H : Hp} {D : Addr} : PrL K (upd H D (.lst [])) D [] := ⟨_, upd_same, .nil⟩
def near2 (L : List Nat) : List (Nat × Nat) := L.flatMap fun o => (L.filter fun p => decide (o < p)).map fun p => (o, p)
theorem mem_near2 {L : List Nat} {p : Nat × Nat} : p ∈ near2 L ↔ p.1 ∈ L ∧ p.2 ∈ L ∧ p.1 < p.2 := by
  unfold near2
  rw [List.mem_flatMap]
  constructor
  · rintro ⟨o, ho, hp⟩
    obtain ⟨q, hq, rfl⟩ := List.mem_map.mp hp
    have := List.mem_filter.mp hq
    exact ⟨ho, this.1, of_decide_eq_true this.2⟩
  · rintro ⟨h1, h2, h3⟩
    exact ⟨p.1, h1, List.mem_map.mpr ⟨p.2, List.mem_filter.mpr ⟨h2, decide_eq_true h3⟩, rfl⟩⟩
theorem near2_nodup {L : List Nat} (nd : L.Nodup) : (near2 L).Nodup := by
  unfold near2
  refine List.pairwise_flatMap.mpr ⟨fun x _ => ?_, ?_⟩
  · refine List.pairwise_map.mpr (List.Pairwise.imp (fun {a b} h e => h ?_) (nodup_filter nd))
    exact congrArg Prod.snd e
  · refine List.Pairwise.imp (fun {a b} h p hp q hq e => h ?_) nd
    obtain ⟨y, _, rfl⟩ := List.mem_map.mp hp
    obtain ⟨z, _, rfl⟩ := List.mem_map.mp hq
    exact congrArg Prod.fst e
theorem mem_frs {h : Hall} {x y : Nat} : y ∈ frs h x ↔ y < h.1 ∧ adj h x y = true := by
  unfold frs
  rw [List.mem_filter, List.mem_range]
theorem frs_nodup (h : Hall) (x : Nat) : (frs h x).Nodup := nodup_filter List.nodup_range
theorem frs_len (h : Hall) (x : Nat) : (frs h x).length ≤ h.1 := by
  have := List.length_filter_le (fun y => adj h x y) (List.range h.1)
  rw [List.length_range] at this
  exact this
/-- the pairs behind a turn -/
theorem turn_sorted {h : Hall} (c : Can h) (x : Nat) : sortP ((h.2.filter fun p => !decide (p ∈ near2 (frs h x))) ++ (near2 (frs h x)).filter fun p => !decide (p ∈ h.2)) = (turn h x).2 := by
  have N : h.2.Nodup := by
    rw [c]
    exact nodup_filter (allPairs_nodup h.1)
  have M : ∀ p, p ∈ near2 (frs h x) → p.1 < p.2 ∧ p.2 < h.1 := fun p hp => by
    have q := mem_near2.mp hp
    exact ⟨q.2.2, (mem_frs.mp q.2.1).1⟩
  rw [sortP_eq (n := h.1)]
  · show (allPairs h.1).filter _ = (allPairs h.1).filter _
    refine List.filter_congr fun p hp => ?_
    have lt := mem_allPairs.mp hp
    have e : decide (p ∈ near2 (frs h x)) = (adj h x p.1 && adj h x p.2) := by
      rw [Bool.eq_iff_iff, decide_eq_true_eq, Bool.and_eq_true, mem_near2, mem_frs, mem_frs]
      exact ⟨fun q => ⟨q.1.2, q.2.1.2⟩, fun q => ⟨⟨by omega, q.1⟩, ⟨lt.2, q.2⟩, lt.1⟩⟩
    rw [← e, Bool.eq_iff_iff, decide_eq_true_eq, List.mem_append, List.mem_filter, List.mem_filter]
    by_cases h1 : p ∈ h.2 <;> by_cases h2 : p ∈ near2 (frs h x) <;> simp [h1, h2]
  · refine List.nodup_append.mpr ⟨nodup_filter N, nodup_filter (near2_nodup (frs_nodup h x)), ?_⟩
    intro p hp q hq e
    subst e
    have h1 := (List.mem_filter.mp hp).1
    have h2 := (List.mem_filter.mp hq).2
    rw [decide_eq_true h1] at h2
    cases h2
  · intro p hp
    rcases List.mem_append.mp hp with q | q
    · exact c.mem (List.mem_filter.mp q).1
    · exact M p (List.mem_filter.mp q).1
section
variable {P : Program} {w : World} {K : PySem.W.Frag} {mg : Str → Option Value} {base : Heap}
def spBehind (K : PySem.W.Frag) : Sp := fun vs H Q _ => ∃ (v : V) (h : Hall) (x : Nat), vs = [v, .int x] ∧ HlV K H v h ∧ Okh h ∧ ∀ H' u, Same H H' → HlV K H' u (turn h x) → Q u H'
abbrev N14 : List Str := ["hall", "x", "circle", "within", "kept", "one", "other", "pair"]
theorem sc14 : FnScope N14 ["hall", "x"] (defScope (top 14)) := ⟨rfl, rfl, rfl, by decide +kernel, rfl, by decide +kernel, by decide +kernel⟩
theorem ok_behind (G : Pg K mg) : FnOk P w K mg base CX0 3 G.behind.f G.behind.fd ["hall", "x"] (spBehind K) := by
  refine G.behind.F.ok sc14 (fun vs H Q E h => ?_) (fun cdv A outer s H vs Q E hr h => ?_)
  · obtain ⟨v, h, x, rfl, _⟩ := h
    rfl
  obtain ⟨v, h, x, rfl, hp, O, q⟩ := h
  obtain ⟨a, b, qs, rfl, sa, sb, hq⟩ := hlV_open hp
  have len : qs.length = h.2.length := PrL.len hq
  have few := O.few
  refine ⟨_, pss_cons (ps_set (i := 2) sc14.nd rfl (Or.inr rfl) (pe_def G.friends (ok_friends G) hr (pa_cons (pv 0) (pa_cons (pv 1) pa_nil))))
    (pss_cons (ps_set (i := 3) sc14.nd rfl (Or.inr rfl) (pe_lc2 (own := [("one", 5), ("other", 6)]) (vs1 := [6]) (g := gName 5) (g1 := gName 6) (tt := tYes) (wi1 := iList K (tVar 2)) rfl sc14.nd (pi_list (pv 2)) (blkOk_by (N := N14) (sc := defScope (top 14)) (by decide +kernel)) (by decide)
      (fun _ _ _ _ _ => pg_name (i := 5) sc14.nd rfl (Or.inl rfl)) (fun _ _ _ _ _ => pts_nil) (fun _ _ _ _ _ => pi_list (pv 2)) (fun _ _ _ _ _ => pg_name (i := 6) sc14.nd rfl (Or.inl rfl)) (fun _ _ _ _ _ => pts_one (pt_cmpR op_lt (pv 5) (pv 6) (nomark _)))
      (fun _ _ _ _ _ => pe_tup (pa_cons (pv 5) (pa_cons (pv 6) pa_nil)))))
    (pss_cons (ps_setLc (i := 4) (own := [("pair", 7)]) (g := gName 7) rfl sc14.nd rfl rfl (sw_true rfl rfl rfl (by decide +kernel)) (pi_tup (pe_ix ix_tup (pv 0) pe_int (fun _ _ => rfl))) (blkOk_by (N := N14) (sc := defScope (top 14)) (by decide +kernel))
      (fun _ _ _ _ _ => pg_name (i := 7) sc14.nd rfl (Or.inl rfl)) (fun _ _ _ _ _ => pts_one (pt_cmpR (r := rNotInD K) (op_notInD (room_v hr)) (pv 7) (pv 3) (by rfl))) (fun _ _ _ _ _ => pv 7))
    (pss_one (ps_ret (pe_tup (pa_cons (pe_ix ix_tup (pv 0) pe_int (fun _ _ => rfl)) (pa_cons (pe_ty G.ztuple call_tuple_of (pa_cons (pe_bi G.zsorted (cr_sortG ord_P (room_x hr)) (pa_cons (pe_op op_cat (pv 4)
      (pe_lc (own := [("pair", 7)]) (g := gName 7) rfl sc14.nd (pi_list (pv 3)) (blkOk_by (N := N14) (sc := defScope (top 14)) (by decide +kernel))
      (fun _ _ _ _ _ => pg_name (i := 7) sc14.nd rfl (Or.inl rfl)) (fun _ _ _ _ _ => pts_one (pt_cmpR (r := rInT K true) (op_notInT (room_u hr)) (pv 7) (pe_ix (r := rIxT K) ix_tup (pv 0) pe_int (fun _ _ => rfl)) (by rfl))) (fun _ _ _ _ _ => pv 7))) pa_nil)) pa_nil)) pa_nil))))))), ?_⟩
  refine ⟨_, rfl, _, rfl, .ref a, h, x, rfl, hp, O.2.2, fun H1 l s1 nl e1 => ?_⟩
  have fl : (frs h x).length ≤ 5 := Nat.le_trans (frs_len h x) O.2.2
  refine ⟨_, rfl, l, rfl, ⟨_, SqL.of e1⟩, fun D hD => lc_out (walk_list (K := K) (a := l) (xs := (frs h x).map fun y : Nat => V.int y))
    (fun i H' => Same H1 H' ∧ PrL K H' D (((frs h x).take i).flatMap fun o => ((frs h x).filter fun p => decide (o < p)).map fun p => (o, p)) ∧ (((frs h x).take i).flatMap fun o => ((frs h x).filter fun p => decide (o < p)).map fun p => (o, p)).length ≤ 5 * i)
    ⟨same_new hD, PrL.none, Nat.zero_le _⟩ (fun i H' _ p => SqL.of (p.1 _ _ e1)) ?_ ?_⟩
  · rintro i y _ H' hi ⟨s2, p2, l2⟩ ⟨rfl, hy⟩
    obtain ⟨o, ho, rfl⟩ := map_at hy
    have ev : (((frs h x).take (i + 1)).flatMap fun o => ((frs h x).filter fun p => decide (o < p)).map fun p => (o, p)) = (((frs h x).take i).flatMap fun o => ((frs h x).filter fun p => decide (o < p)).map fun p => (o, p)) ++ ((frs h x).filter fun p => decide (o < p)).map fun p => (o, p) := by
      rw [take_next ho, List.flatMap_append, List.flatMap_singleton]
    generalize (((frs h x).take i).flatMap fun o => ((frs h x).filter fun p => decide (o < p)).map fun p => (o, p)) = B at p2 l2 ev
    refine ⟨rfl, _, rfl, l, rfl, ⟨_, SqL.of (s2 _ _ e1)⟩, lc_out (walk_list (K := K) (a := l) (xs := (frs h x).map fun y : Nat => V.int y))
      (fun j H' => Same H1 H' ∧ PrL K H' D (B ++ (((frs h x).take j).filter fun p => decide (o < p)).map fun p => (o, p)) ∧ (B ++ (((frs h x).take j).filter fun p => decide (o < p)).map fun p => (o, p)).length ≤ 5 * i + j)
      ⟨s2, by simpa using p2, by simpa using l2⟩ (fun i H' _ p => SqL.of (p.1 _ _ e1)) ?_ ?_⟩
    · rintro j y _ H3 hj ⟨s3, ⟨acc, e3, d3⟩, l3⟩ ⟨rfl, hy⟩
      obtain ⟨o', ho', rfl⟩ := map_at hy
      refine ⟨rfl, _, rfl, _, rfl, _, _, rfl, rfl, _, rfl, ?_⟩
      rw [flt_next ho', List.map_append, ← List.append_assoc]
      have le : acc.length ≤ 5 * i + j := by rw [PrL.len d3]; exact l3
      have hi5 : i < 5 := by rw [List.length_map] at hi; omega
      have hj5 : j < 5 := by rw [List.length_map] at hj; omega
      by_cases c : o < o'
      · rw [decide_eq_true (show (o : Int) < o' by omega), if_pos (decide_eq_true c)]
        refine ⟨_, rfl, _, rfl, by show 2 ≤ sizeLine; decide, fun t ht => ?_⟩
        have nt : D ≠ t := ne_of_none e3 ht
        have s4 : Same H3 (upd H3 t (.tup [.int o, .int o'])) := same_new ht
        refine ⟨acc, s4 _ _ e3, small1000 (by omega), same_put (s3.trans s4) hD, ?_, ?_⟩
        · exact PrL.add (s4 _ _ e3) (dps_same s4 _ _ d3) (prV_of (SqT.of upd_same))
        · rw [List.length_append]
          show _ + 1 ≤ _
          omega
      · rw [decide_eq_false (show ¬ (o : Int) < o' by omega), if_neg (by rw [decide_eq_false c]; exact Bool.false_ne_true)]
        rw [List.map_nil, List.append_nil]
        exact ⟨s3, ⟨acc, e3, d3⟩, by omega⟩
    · rintro H3 ⟨s3, p3, l3⟩
      rw [List.length_map, List.take_length] at p3 l3
      show Same H1 H3 ∧ PrL K H3 D (((frs h x).take (i + 1)).flatMap _) ∧ (((frs h x).take (i + 1)).flatMap _).length ≤ 5 * (i + 1)
      rw [ev]
      exact ⟨s3, p3, by omega⟩
  · rintro H2 ⟨s2, p2, l2⟩
    rw [List.length_map, List.take_length] at p2 l2
    have W25 : (near2 (frs h x)).length ≤ 25 := by
      show ((frs h x).flatMap _).length ≤ 25
      omega
    have p2 : PrL K H2 D (near2 (frs h x)) := p2
    obtain ⟨acc, e2, d2⟩ := p2
    have s12 := s1.trans s2
    refine ⟨_, rfl, a, _, _, .ref b, rfl, rfl, same_t s12 sa, atI_nat (j := 1) rfl, b, rfl, ⟨_, same_t s12 sb⟩, fun D2 hD2 => lc_out (walk_tup (K := K) (a := b) (xs := qs))
      (fun i H' => Same H2 H' ∧ PrL K H' D2 ((h.2.take i).filter fun p => !decide (p ∈ near2 (frs h x)))) ⟨same_new hD2, PrL.none⟩ (fun i H' _ p => same_t (s12.trans p.1) sb) ?_ ?_⟩
    · rintro i y _ H' hi ⟨s3, ⟨acc3, e3, d3⟩⟩ ⟨rfl, hy⟩
      obtain ⟨p, hp1, hp2⟩ := pr_at hq hy
      have hv : PrV K H' y p := dp_same (s12.trans s3) _ _ hp2
      refine ⟨rfl, _, rfl, _, rfl, dP p, (near2 (frs h x)).map dP, hv, .lst (SqL.of (s3 _ _ e2)) (dps_same s3 _ _ d2), dP_shaped _, dPs_shapedL _, _, rfl, ?_⟩
      rw [any_dP, flt_next hp1]
      cases c : decide (p ∈ near2 (frs h x)) with
      | false =>
        refine iteT ⟨_, rfl, acc3, e3, ?_, same_put s3 hD2, PrL.add e3 d3 hv⟩
        rw [PrL.len d3]
        refine small1000 (Nat.le_trans (List.length_filter_le _ _) ?_)
        rw [List.length_take]
        omega
      | true =>
        refine iteF ⟨s3, acc3, e3, ?_⟩
        rw [if_neg (by simp), List.append_nil]
        exact d3
    · rintro H3 ⟨s3, p3⟩
      rw [len, List.take_length] at p3
      obtain ⟨acc3, e3, d3⟩ := p3
      have s13 := s12.trans s3
      have d2' := dps_same s3 _ _ d2
      refine ⟨_, rfl, a, _, _, .int h.1, rfl, rfl, same_t s13 sa, atI_nat (j := 0) rfl, _, rfl, ?_⟩
      refine ⟨_, rfl, D, rfl, ⟨_, SqL.of (s3 _ _ e2)⟩, fun D3 hD3 => lc_out (walk_list (K := K) (a := D) (xs := acc))
        (fun i H' => Same H3 H' ∧ PrL K H' D3 (((near2 (frs h x)).take i).filter fun p => !decide (p ∈ h.2))) ⟨same_new hD3, PrL.none⟩ (fun i H' _ p => SqL.of (p.1 _ _ (s3 _ _ e2))) ?_ ?_⟩
      · rintro i y _ H' hi ⟨s4, ⟨acc4, e4, d4⟩⟩ ⟨rfl, hy⟩
        obtain ⟨p, hp1, hp2⟩ := pr_at d2' hy
        have hv : PrV K H' y p := dp_same s4 _ _ hp2
        have s14 := s13.trans s4
        refine ⟨rfl, _, rfl, _, rfl, a, _, _, .ref b, rfl, rfl, same_t s14 sa, atI_nat (j := 1) rfl, dP p, h.2.map dP, hv, .tup (same_t s14 sb) (dps_same s14 _ _ hq), dP_shaped _, dPs_shaped _, _, rfl, ?_⟩
        rw [if_pos rfl, any_dP, flt_next hp1]
        cases c : decide (p ∈ h.2) with
        | false =>
          refine iteT ⟨_, rfl, acc4, e4, ?_, same_put s4 hD3, PrL.add e4 d4 hv⟩
          rw [PrL.len d4]
          refine small1000 (Nat.le_trans (List.length_filter_le _ _) ?_)
          rw [List.length_take]
          omega
        | true =>
          refine iteF ⟨s4, acc4, e4, ?_⟩
          rw [if_neg (by simp), List.append_nil]
          exact d4
      · rintro H4 ⟨s4, p4⟩
        rw [PrL.len d2, List.take_length] at p4
        obtain ⟨acc4, e4, d4⟩ := p4
        have f1 : acc3.length ≤ 10 := by
          rw [PrL.len d3]
          exact Nat.le_trans (List.length_filter_le _ _) few
        have f2 : acc4.length ≤ 25 := by
          rw [PrL.len d4]
          exact Nat.le_trans (List.length_filter_le _ _) W25
        refine ⟨D2, D3, acc3, acc4, rfl, rfl, s4 _ _ e3, e4, Nat.le_of_lt (small1000 (by omega)), fun l5 h5 => ?_⟩
        have s5 : Same H4 (upd H4 l5 (.lst (acc3 ++ acc4))) := same_new h5
        refine ⟨l5, acc3 ++ acc4, (h.2.filter fun p => !decide (p ∈ near2 (frs h x))) ++ (near2 (frs h x)).filter fun p => !decide (p ∈ h.2), rfl, SqL.of upd_same, ?_, fun l6 ys h6 ly d6 => ?_⟩
        · rw [List.map_append]
          exact dps_app (dps_same (s4.trans s5) _ _ d3) (dps_same s5 _ _ d4)
        · have s6 := s5.trans (same_new (o := .lst ys) h6)
          refine ⟨l6, ys, rfl, .inl ⟨SqL.of upd_same, fun t ht => ?_⟩⟩
          have s7 := s6.trans (same_new (o := .tup ys) ht)
          refine ⟨by show 2 ≤ sizeLine; decide, fun t2 ht2 => ?_⟩
          have s8 := s7.trans (same_new (o := .tup [.int h.1, .ref t]) ht2)
          refine q _ _ (s13.trans (s4.trans s8)) ?_
          have e : turn h x = (h.1, sortP ((h.2.filter fun p => !decide (p ∈ near2 (frs h x))) ++ (near2 (frs h x)).filter fun p => !decide (p ∈ h.2))) := by
            rw [turn_sorted O.1]
            rfl
          rw [e]
          refine hlV_of (SqT.of upd_same) (same_t (same_new ht2) (SqT.of upd_same)) ?_
          exact dps_same ((same_new (o := .lst ys) h6).trans ((same_new (o := .tup ys) ht).trans (same_new ht2))) _ _ d6
end
end TF
set_option autoImplicit false
set_option Elab.async false
set_option maxRecDepth 100000
namespace TF
open PySem L2 PyProof.Rows
def upPairs (n k : Nat) : List (Nat × Nat) := (List.range k).flatMap fun x => (List.range' (x + 1) (n - (x + 1))).map fun y => (x, y)
theorem up_next (n k : Nat) : upPairs n (k + 1) = upPairs n k ++ (List.range' (k + 1) (n - (k + 1))).map fun y => (k, y) := by
  unfold upPairs
  rw [List.range_succ, List.flatMap_append, List.flatMap_singleton]
theorem up_len {n : Nat} (h : n ≤ 5) : ∀ k, (upPairs n k).length ≤ 5 * k
  | 0 => Nat.le_refl _
  | k + 1 => by
    rw [up_next, List.length_append, List.length_map, List.length_range']
    have := up_len h k
    omega
theorem inV_nat (L : List Nat) (x : Nat) : inV (.int x) (L.map fun y : Nat => V.int y) = decide (x ∈ L) := by
  unfold inV
  rw [List.any_map]
  induction L with
  | nil => simp
  | cons y L ih =>
    rw [List.any_cons, ih]
    show (((y : Int) == (x : Int)) || _) = _
    rw [nat_beq]
    by_cases h1 : y = x
    · subst h1; simp
    · by_cases h2 : x ∈ L <;> simp [h1, h2, Ne.symm h1]
theorem flat_nats (L : List Nat) : (L.map fun y : Nat => V.int y).all flatV = true := by
  rw [List.all_map]
  exact List.all_eq_true.mpr fun _ _ => rfl
theorem ne_bl {m k : Bool} {Q1 Q2 : Prop} (h1 : (m != k) = true → Q1) (h2 : (m != k) = false → Q2) : if (!decide (V.bl m = V.bl k)) = true then Q1 else Q2 := by
  cases m <;> cases k <;> first | exact h1 rfl | exact h2 rfl
theorem flt_len {α : Type} {f : α → Bool} {l : List α} {i : Nat} : ((l.take i).filter f).length ≤ l.length := by
  refine Nat.le_trans (List.length_filter_le _ _) ?_
  rw [List.length_take]
  omega
section
variable {P : Program} {w : World} {K : PySem.W.Frag} {mg : Str → Option Value} {base : Heap}
def spPairs (K : PySem.W.Frag) : Sp := fun vs H Q _ => ∃ n : Nat, vs = [.int n] ∧ n ≤ 5 ∧ ∀ H' D, Same H H' → H D = none → PrL K H' D (allPairs n) → Q (.ref D) H'
abbrev N38 : List Str := ["_law_n", "_law_found", "_law_x", "_law_y"]
theorem sc38 : FnScope N38 ["_law_n"] (defScope (top 38)) := ⟨rfl, rfl, rfl, by decide +kernel, rfl, by decide +kernel, by decide +kernel⟩
theorem ok_lPairs (G : Pg K mg) : FnOk P w K mg base CX0 1 G.lPairs.f G.lPairs.fd ["_law_n"] (spPairs K) := by
  refine G.lPairs.F.ok sc38 (fun vs H Q E h => ?_) (fun cdv A outer s H vs Q E hr h => ?_)
  · obtain ⟨n, rfl, _⟩ := h
    rfl
  obtain ⟨n, rfl, h5, q⟩ := h
  refine ⟨_, pss_cons (ps_set (i := 1) sc38.nd rfl (Or.inl rfl) (pe_lst pa_nil))
    (pss_cons (ps_for PassesOwn.never rfl (pi_range1 rfl G.zrange (pa_cons (pv 0) pa_nil)) (pg_name (i := 2) sc38.nd rfl (Or.inr rfl))
      (pss_one (ps_set (i := 1) sc38.nd rfl (Or.inl rfl) (pe_op op_cat (pv 1) (pe_lc (own := [("_law_y", 3)]) (g := gName 3) (tt := tYes) rfl sc38.nd (pi_range2 rfl G.zrange (pa_cons (pe_op op_add (pv 2) pe_int) (pa_cons (pv 0) pa_nil)))
        (blkOk_by (N := N38) (sc := defScope (top 38)) (by decide +kernel)) (fun _ _ _ _ _ => pg_name (i := 3) sc38.nd rfl (Or.inl rfl)) (fun _ _ _ _ _ => pts_nil) (fun _ _ _ _ _ => pe_tup (pa_cons (pv 2) (pa_cons (pv 3) pa_nil))))))))
    (pss_one (ps_ret (pv 1)))), ?_⟩
  refine ⟨Nat.zero_le _, fun l0 h0 => ?_⟩
  refine ⟨_, rfl, (n : Int), rfl, by omega, by omega, for_range (lo := 0) (n := n) (fun i σ H' => ∃ (D : Addr) (v : Option V), σ = [some (.int n), some (.ref D), v, none] ∧ Same H H' ∧ H D = none ∧ PrL K H' D (upPairs n i))
    ⟨l0, none, rfl, same_new h0, h0, PrL.none⟩ ?_ ?_⟩
  · rintro i σ H1 hi ⟨D, v, rfl, s1, nD, acc, e1, d1⟩
    have la : acc.length ≤ 5 * i := by
      rw [PrL.len d1]
      exact up_len h5 i
    refine ⟨_, rfl, _, rfl, _, _, rfl, rfl, _, rfl, _, _, rfl, by omega, fun D2 hD2 => lc_out walk_range
      (fun j H' => Same H1 H' ∧ PrL K H' D2 (((List.range' (i + 1) j)).map fun y => (i, y))) ⟨same_new hD2, PrL.none⟩ (fun _ _ _ _ => trivial) ?_ ?_⟩
    · rintro j y _ H2 hj ⟨s2, acc2, e2, d2⟩ ⟨rfl, rfl⟩
      refine ⟨rfl, _, rfl, _, rfl, by show 2 ≤ sizeLine; decide, fun t ht => ?_⟩
      have st : Same H2 (upd H2 t (.tup [.int (0 + i), .int (0 + (i : Int) + 1 + j)])) := same_new ht
      have jn : j < n - (i + 1) := by omega
      refine ⟨acc2, st _ _ e2, ?_, same_put (s2.trans st) hD2, ?_⟩
      · rw [PrL.len d2, List.length_map, List.length_range']
        exact small1000 (by omega)
      · rw [List.range'_concat, List.map_append]
        refine PrL.add (st _ _ e2) (dps_same st _ _ d2) (prV_of (p := (i, i + 1 + 1 * j)) ?_)
        have ei : (0 : Int) + (i : Int) = (i : Nat) := by omega
        have ej : (0 : Int) + (i : Int) + 1 + (j : Int) = ((i + 1 + 1 * j : Nat) : Int) := by omega
        show SqT K (upd H2 t (.tup [.int (0 + (i : Int)), .int (0 + (i : Int) + 1 + (j : Int))])) t [.int ((i : Nat) : Int), .int ((i + 1 + 1 * j : Nat) : Int)]
        rw [ej, ei]
        exact SqT.of upd_same
    · rintro H2 ⟨s2, acc2, e2, d2⟩
      have ec : ((n : Int) - ((0 : Int) + (i : Int) + 1)).toNat = n - (i + 1) := by omega
      rw [ec] at d2
      have l2 : acc2.length ≤ 5 := by
        rw [PrL.len d2, List.length_map, List.length_range']
        omega
      refine ⟨D, D2, acc, acc2, rfl, rfl, s2 _ _ e1, e2, Nat.le_of_lt (small1000 (by omega)), fun p hp => ?_⟩
      have s12 := s1.trans s2
      refine ⟨p, _, rfl, same_put s12 (s12.free hp), s12.free hp, _, upd_same, ?_⟩
      rw [up_next, List.map_append]
      exact dps_same (same_new hp) _ _ (dps_app (dps_same s2 _ _ d1) d2)
  · rintro σ H1 ⟨D, v, rfl, s1, nD, p1⟩
    exact ⟨_, rfl, q _ _ s1 nD p1⟩

abbrev N40 : List Str := ["_law_hall_here", "_law_x", "_law_y"]
theorem sc40 : FnScope N40 ["_law_hall_here", "_law_x"] (defScope (top 40)) := ⟨rfl, rfl, rfl, by decide +kernel, rfl, by decide +kernel, by decide +kernel⟩
theorem ok_lFriends (G : Pg K mg) : FnOk P w K mg base CX0 1 G.lFriends.f G.lFriends.fd ["_law_hall_here", "_law_x"] (spFriends K) := by
  refine G.lFriends.F.ok sc40 (fun vs H Q E h => ?_) (fun cdv A outer s H vs Q E hr h => ?_)
  · obtain ⟨v, h, x, rfl, _⟩ := h
    rfl
  obtain ⟨v, h, x, rfl, hp, h5, q⟩ := h
  obtain ⟨a, b, qs, rfl, sa, sb, hq⟩ := hlV_open hp
  refine ⟨_, pss_one (ps_ret (pe_lc (own := [("_law_y", 2)]) (g := gName 2) rfl sc40.nd (pi_range1 rfl G.zrange (pa_cons (pe_ix ix_tup (pv 0) pe_int (fun _ _ => rfl)) pa_nil)) (blkOk_by (N := N40) (sc := defScope (top 40)) (by decide +kernel))
    (fun _ _ _ _ _ => pg_name (i := 2) sc40.nd rfl (Or.inl rfl)) (fun _ _ _ _ _ => pts_one (pt_cmpR (r := rInT K false) (op_inT (room_u hr))
      (pe_tup (pa_cons (pe_bi G.zmin (call_min2 rfl) (pa_cons (pv 1) (pa_cons (pv 2) pa_nil))) (pa_cons (pe_bi G.zmax (call_max2 rfl) (pa_cons (pv 1) (pa_cons (pv 2) pa_nil))) pa_nil))) (pe_ix (r := rIxT K) ix_tup (pv 0) pe_int (fun _ _ => rfl)) (by rfl)))
    (fun _ _ _ _ _ => pv 2))), ?_⟩
  refine ⟨_, rfl, a, _, _, .int h.1, rfl, rfl, sa, atI_nat (j := 0) rfl, h.1, rfl, by omega, by omega, fun D hD => lc_range (lo := 0) (n := h.1) (fun i H' => Same H H' ∧ H' D = some (.lst (((List.range i).filter fun y => adj h x y).map fun y : Nat => V.int y))) ⟨same_new hD, upd_same⟩ ?_ ?_⟩
  · rintro i H' hi ⟨s1, e1⟩
    rw [Int.zero_add]
    refine ⟨rfl, _, rfl, _, rfl, (x : Int), (i : Int), rfl, _, rfl, _, rfl, (x : Int), (i : Int), rfl, by show 2 ≤ sizeLine; decide, fun p hp => ?_⟩
    refine ⟨_, rfl, a, _, _, .ref b, rfl, rfl, same_t (s1.trans (same_new hp)) sa, atI_nat (j := 1) rfl, look_pair (same_t s1 sa) (same_t s1 sb) (dps_same s1 _ _ hq) (fun H2 s2 => ⟨_, rfl, ?_⟩) hp⟩
    rw [frs_succ]
    cases hc : adj h x i with
    | true =>
      refine iteT ⟨_, rfl, _, s2 _ _ e1, ?_, same_put (s1.trans s2) hD, ?_⟩
      · rw [List.length_map]
        refine small1000 (Nat.le_trans (List.length_filter_le _ _) ?_)
        rw [List.length_range]
        omega
      · rw [upd_same, if_pos rfl, List.map_append]
        rfl
    | false =>
      refine iteF ⟨s1.trans s2, ?_⟩
      rw [if_neg Bool.false_ne_true, List.append_nil]
      exact s2 _ _ e1
  · rintro H' ⟨s1, e1⟩
    exact q _ _ s1 hD e1

abbrev N41 : List Str := ["_law_hall_here", "_law_x", "_law_near", "_law_pairs_here", "_law_pair"]
theorem sc41 : FnScope N41 ["_law_hall_here", "_law_x"] (defScope (top 41)) := ⟨rfl, rfl, rfl, by decide +kernel, rfl, by decide +kernel, by decide +kernel⟩
theorem ok_lTurn (G : Pg K mg) : FnOk P w K mg base CX0 2 G.lTurn.f G.lTurn.fd ["_law_hall_here", "_law_x"] (spBehind K) := by
  refine G.lTurn.F.ok sc41 (fun vs H Q E h => ?_) (fun cdv A outer s H vs Q E hr h => ?_)
  · obtain ⟨v, h, x, rfl, _⟩ := h
    rfl
  obtain ⟨v, h, x, rfl, hp, O, q⟩ := h
  obtain ⟨a, b, qs, rfl, sa, sb, hq⟩ := hlV_open hp
  refine ⟨_, pss_cons (ps_par (by rfl) sc41.nd (i := 2) (j := 3) rfl rfl (by decide) rfl rfl (pa_cons (pe_def G.lFriends (ok_lFriends G) hr (pa_cons (pv 0) (pa_cons (pv 1) pa_nil))) (pa_cons (pe_lst pa_nil) pa_nil)) (by rfl))
    (pss_cons (ps_for PassesOwn.never rfl (pi_list (pe_def G.lPairs (ok_lPairs G) hr (pa_cons (pe_ix ix_tup (pv 0) pe_int (fun _ _ => rfl)) pa_nil))) (pg_name (i := 4) sc41.nd rfl (Or.inl rfl))
      (pss_one (ps_if (pt_cmpR op_ne (pe_cmpR (op_inT (room_u hr)) (pv 4) (pe_ix ix_tup (pv 0) pe_int (fun _ _ => rfl)) (by rfl))
        (pe_and (pe_cmpR op_in_seq (pe_ix ix_tup (pv 4) pe_int (fun _ _ => rfl)) (pv 2) (by rfl)) (pe_one (pe_cmpR op_in_seq (pe_ix ix_tup (pv 4) pe_int (fun _ _ => rfl)) (pv 2) (by rfl)))) (nomark _))
        (pss_one (ps_expr (pe_bm PySem.F.plainAttrs_list PySem.F.slot_list_append PySem.F.type_list_append mt_append (pv 3) (pa_cons (pv 4) pa_nil)))) pss_nil)))
    (pss_one (ps_ret (pe_tup (pa_cons (pe_ix ix_tup (pv 0) pe_int (fun _ _ => rfl)) (pa_cons (pe_ty G.ztuple call_tuple_of (pa_cons (pv 3) pa_nil)) pa_nil)))))), ?_⟩
  refine ⟨_, rfl, _, rfl, .ref a, h, x, rfl, hp, O.2.2, fun H1 l s1 nl e1 => ?_⟩
  refine ⟨Nat.zero_le _, fun D hD => ⟨_, _, rfl, ?_⟩⟩
  have s2 : Same H1 (upd H1 D (.lst [])) := same_new hD
  refine ⟨_, rfl, a, _, _, .int h.1, rfl, rfl, same_t (s1.trans s2) sa, atI_nat (j := 0) rfl, h.1, rfl, O.2.2, fun H3 R s3 nR pR => ?_⟩
  obtain ⟨rs, eR, dR⟩ := pR
  have nRD : R ≠ D := fun z => by
    rw [z, upd_same] at nR
    cases nR
  have few : (allPairs h.1).length ≤ 10 := pairs_len O.2.2
  have hf : ∀ p ∈ allPairs h.1, (decide (p.1 ∈ frs h x) && decide (p.2 ∈ frs h x)) = (adj h x p.1 && adj h x p.2) := fun p hp => by
    have lt := mem_allPairs.mp hp
    have e1 : decide (p.1 ∈ frs h x) = adj h x p.1 := by
      rw [Bool.eq_iff_iff, decide_eq_true_eq, mem_frs]
      exact ⟨fun q => q.2, fun q => ⟨by omega, q⟩⟩
    have e2 : decide (p.2 ∈ frs h x) = adj h x p.2 := by
      rw [Bool.eq_iff_iff, decide_eq_true_eq, mem_frs]
      exact ⟨fun q => q.2, fun q => ⟨by omega, q⟩⟩
    rw [e1, e2]
  refine ⟨R, rfl, ⟨_, SqL.of eR⟩, for_list (K := K) (a := R) (xs := rs) (fun i σ H' => ∃ v, σ = [some (.ref a), some (.int x), some (.ref l), some (.ref D), v] ∧ Same H1 H' ∧ H' R = some (.lst rs) ∧ DpAll K H' rs ((allPairs h.1).map dP) ∧
      PrL K H' D (((allPairs h.1).take i).filter fun p => decide (p ∈ h.2) != (adj h x p.1 && adj h x p.2)))
    ⟨none, rfl, s2.trans s3, eR, dR, _, s3 _ _ upd_same, .nil⟩ (fun i σ H' _ p => SqL.of p.choose_spec.2.2.1) ?_ ?_⟩
  · rintro i y σ H' hy ⟨v, rfl, s4, eR', dR', acc, e4, d4⟩
    obtain ⟨p, hp1, hp2⟩ := pr_at dR' hy
    obtain ⟨c, rfl, sc⟩ := prV_open hp2
    have s14 := s1.trans s4
    refine ⟨_, rfl, _, rfl, a, _, _, .ref b, rfl, rfl, same_t s14 sa, atI_nat (j := 1) rfl, dP p, h.2.map dP, hp2, .tup (same_t s14 sb) (dps_same s14 _ _ hq), dP_shaped _, dPs_shaped _, ?_⟩
    rw [if_neg Bool.false_ne_true, any_dP]
    have ek := hf p (List.mem_of_getElem? hp1)
    have hl : acc.length < sizeLine := by
      rw [PrL.len d4]
      exact small1000 (Nat.le_trans flt_len (by omega))
    have X1 : (decide (p ∈ h.2) != (adj h x p.1 && adj h x p.2)) = true → Same H1 (upd H' D (.lst (acc ++ [.ref c]))) ∧ upd H' D (.lst (acc ++ [.ref c])) R = some (.lst rs) ∧ DpAll K (upd H' D (.lst (acc ++ [.ref c]))) rs ((allPairs h.1).map dP) ∧
        PrL K (upd H' D (.lst (acc ++ [.ref c]))) D (((allPairs h.1).take (i + 1)).filter fun p => decide (p ∈ h.2) != (adj h x p.1 && adj h x p.2)) := fun hb => by
      refine ⟨same_put s4 hD, by rw [upd_ne nRD]; exact eR', prs_put e4 dR', ?_⟩
      rw [flt_next hp1, if_pos hb]
      exact PrL.add e4 d4 hp2
    have X2 : (decide (p ∈ h.2) != (adj h x p.1 && adj h x p.2)) = false → Same H1 H' ∧ H' R = some (.lst rs) ∧ DpAll K H' rs ((allPairs h.1).map dP) ∧
        PrL K H' D (((allPairs h.1).take (i + 1)).filter fun p => decide (p ∈ h.2) != (adj h x p.1 && adj h x p.2)) := fun hb => by
      refine ⟨s4, eR', dR', ?_⟩
      rw [flt_next hp1, if_neg (by rw [hb]; exact Bool.false_ne_true), List.append_nil]
      exact ⟨acc, e4, d4⟩
    refine ⟨_, rfl, c, _, _, .int p.1, rfl, rfl, sc, atI_nat (j := 0) rfl, _, rfl, l, _, rfl, .inl (SqL.of (s4 _ _ e1)), rfl, flat_nats _, ?_⟩
    rw [if_neg Bool.false_ne_true, inV_nat]
    refine ⟨_, rfl, ?_⟩
    cases ec : decide (p.1 ∈ frs h x) with
    | true =>
      refine iteT ⟨_, rfl, c, _, _, .int p.2, rfl, rfl, sc, atI_nat (j := 1) rfl, _, rfl, l, _, rfl, .inl (SqL.of (s4 _ _ e1)), rfl, flat_nats _, ?_⟩
      rw [if_neg Bool.false_ne_true, inV_nat]
      rw [ec, Bool.true_and] at ek
      rw [ek]
      refine ⟨rfl, _, rfl, ne_bl (fun hb => ?_) fun hb => ?_⟩
      · exact ⟨_, rfl, .inl ⟨rfl, _, SqL.of e4⟩, _, rfl, D, _, _, rfl, rfl, e4, hl, _, rfl, X1 hb⟩
      · exact ⟨_, rfl, X2 hb⟩
    | false =>
      rw [ec, Bool.false_and] at ek
      refine iteF ⟨rfl, _, rfl, ne_bl (fun hb => ?_) fun hb => ?_⟩
      · exact ⟨_, rfl, .inl ⟨rfl, _, SqL.of e4⟩, _, rfl, D, _, _, rfl, rfl, e4, hl, _, rfl, X1 (by rw [← ek]; exact hb)⟩
      · exact ⟨_, rfl, X2 (by rw [← ek]; exact hb)⟩
  · rintro σ H4 ⟨v, rfl, s4, _, _, acc, e4, d4⟩
    rw [PrL.len dR, List.take_length] at d4
    have s14 := s1.trans s4
    refine ⟨_, rfl, a, _, _, .int h.1, rfl, rfl, same_t s14 sa, atI_nat (j := 0) rfl, _, rfl, D, acc, rfl, .inl ⟨SqL.of e4, fun t ht => ⟨by show 2 ≤ sizeLine; decide, fun t2 ht2 => ?_⟩⟩⟩
    have s7 : Same H4 (upd H4 t (.tup acc)) := same_new ht
    have s8 := s7.trans (same_new (o := .tup [.int h.1, .ref t]) ht2)
    refine q _ _ (s14.trans s8) ?_
    exact hlV_of (n := h.1) (ps := (turn h x).2) (SqT.of upd_same) (same_t (same_new ht2) (SqT.of upd_same)) (dps_same s8 _ _ d4)
end
end TF
set_option autoImplicit false
set_option Elab.async false
set_option maxRecDepth 100000
namespace TF
open PySem L2 PyProof.Rows
theorem dot_sg : ("." : Str) = sg .O := by decide +kernel
theorem z_sg : ("Z" : Str) = sg .Z := by decide +kernel
theorem x_sg : ("X" : Str) = sg .X := by decide +kernel
theorem y_sg : ("Y" : Str) = sg .Y := by decide +kernel
theorem looks_txt : ("XYZ" : Str) = txt [.X, .Y, .Z] := by decide +kernel
theorem nil_txt : ("" : Str) = txt [] := by decide +kernel
theorem beq_sg (a b : Lk) : (sg a == sg b) = decide (a = b) := by
  by_cases h : a = b
  · subst h; simp
  · rw [decide_eq_false h]
    exact beq_eq_false_iff_ne.mpr fun q => h (sg_inj q)
def vS (a : Lk) : V := .str (sg a)
theorem inV_two (x a b : Lk) : inV (vS x) [vS a, vS b] = (decide (a = x) || decide (b = x)) := by
  show ((sg a == sg x) || ((sg b == sg x) || false)) = _
  rw [beq_sg, beq_sg, Bool.or_false]
theorem joinL_txt : ∀ l : List Lk, TL.joinL [] (l.map fun a => [cd a]) = l.map cd
  | [] => rfl
  | [a] => rfl
  | a :: b :: r => by
    show [cd a] ++ ([] ++ TL.joinL [] ((b :: r).map fun a => [cd a])) = _
    rw [joinL_txt (b :: r)]
    rfl
theorem join_txt (l : List Lk) : Txt.join "" (l.map sg) = txt l := by
  have e : TL.tl (Txt.join "" (l.map sg)) = TL.tl (txt l) := by
    rw [TL.join_eq, TL.tl_join]
    have : TL.tl ("" : Str) = [] := by decide +kernel
    rw [this, List.map_map]
    show TL.joinL [] (l.map fun a => [cd a]) = (l.map cd).toArray.toList
    rw [joinL_txt]
  show (⟨(Txt.join "" (l.map sg)).cps⟩ : Str) = ⟨(txt l).cps⟩
  have : (Txt.join "" (l.map sg)).cps = (txt l).cps := by
    have q : (Txt.join "" (l.map sg)).cps.toList = (txt l).cps.toList := e
    exact Array.toList_inj.mp q
  rw [this]
theorem sg_sum : ∀ l : List Lk, ((l.map sg).map (·.length)).sum = l.length
  | [] => rfl
  | a :: l => by
    show 1 + ((l.map sg).map (·.length)).sum = l.length + 1
    rw [sg_sum l]
    omega
theorem join_sq {K : PySem.W.Frag} {H : Hp} {p : Addr} {l : List Lk} (e : H p = some (.lst (l.map vS))) : SqL K H p ((l.map sg).map V.str) := SqL.of (by rw [List.map_map]; exact e)
theorem join_few {l : List Lk} (h8 : l.length ≤ 8) : ((l.map sg).map (·.length)).sum + (l.map sg).length * ("" : Str).length ≤ 16777216 := by
  rw [sg_sum]
  show _ + _ * 0 ≤ _
  omega
theorem eq_sg {a b : Lk} {Q1 Q2 : Prop} (h1 : a = b → Q1) (h2 : a ≠ b → Q2) : if decide (V.str (sg a) = V.str (sg b)) = true then Q1 else Q2 := by
  rw [dec_sg]
  by_cases h : a = b
  · rw [if_pos (decide_eq_true h)]
    exact h1 h
  · rw [if_neg (by rw [decide_eq_false h]; exact Bool.false_ne_true)]
    exact h2 h
theorem other_look {a b : Lk} (ha : a ≠ .O) (hb : b ≠ .O) (h : a ≠ b) : ([Lk.X, .Y, .Z].filter fun x => !(decide (a = x) || decide (b = x))) = [a + b] := by
  revert ha hb h
  cases a <;> cases b <;> decide
section
variable {P : Program} {w : World} {K : PySem.W.Frag} {mg : Str → Option Value} {base : Heap}
def spSum : Sp := fun vs H Q _ => ∃ a b : Lk, vs = [vS a, vS b] ∧ ∀ H', Same H H' → Q (vS (a + b)) H'
abbrev N17 : List Str := ["one", "other", "look"]
theorem sc17 : FnScope N17 ["one", "other"] (defScope (top 17)) := ⟨rfl, rfl, rfl, by decide +kernel, rfl, by decide +kernel, by decide +kernel⟩
theorem ok_sumOf (G : Pg K mg) : FnOk P w K mg base CX0 1 G.sumOf.f G.sumOf.fd ["one", "other"] spSum := by
  refine G.sumOf.F.ok sc17 (fun vs H Q E h => ?_) (fun cdv A outer s H vs Q E hr h => ?_)
  · obtain ⟨a, b, rfl, _⟩ := h
    rfl
  obtain ⟨a, b, rfl, q⟩ := h
  obtain ⟨tL, hL⟩ := G.gLooks
  refine ⟨_, pss_cons (ps_if (pt_cmpR op_eq (pv 0) pe_str (nomark _)) (pss_one (ps_ret (pv 1))) pss_nil)
    (pss_cons (ps_if (pt_cmpR op_eq (pv 1) pe_str (nomark _)) (pss_one (ps_ret (pv 0))) pss_nil)
    (pss_cons (ps_if (pt_cmpR op_eq (pv 0) (pv 1) (nomark _)) (pss_one (ps_ret pe_str)) pss_nil)
    (pss_one (ps_ret (pe_ix ix_list (pe_lc (own := [("look", 2)]) (g := gName 2) rfl sc17.nd (pi_str (pe_glob (v := .str "XYZ") rfl hL ⟨_, rfl⟩)) (blkOk_by (N := N17) (sc := defScope (top 17)) (by decide +kernel))
      (fun _ _ _ _ _ => pg_name (i := 2) sc17.nd rfl (Or.inl rfl)) (fun _ _ _ _ _ => pts_one (pt_cmpR (r := rIn K true) op_notIn_seq (pv 2) (pe_tup (pa_cons (pv 0) (pa_cons (pv 1) pa_nil))) (by rfl))) (fun _ _ _ _ _ => pv 2)) pe_int (fun _ _ => rfl)))))), ?_⟩
  rw [dot_sg]
  refine ⟨_, rfl, rfl, _, rfl, eq_sg (fun h1 => ⟨_, rfl, ?_⟩) fun h1 => ⟨_, rfl, rfl, _, rfl, eq_sg (fun h2 => ⟨_, rfl, ?_⟩) fun h2 => ⟨_, rfl, _, rfl, rfl, _, rfl, eq_sg (fun h3 => ?_) fun h3 => ?_⟩⟩⟩
  · have := q H (Same.refl H)
    rw [h1, lk_O_add] at this
    exact this
  · have := q H (Same.refl H)
    rw [h2, lk_add_O] at this
    exact this
  · have := q H (Same.refl H)
    rw [h3, lk_self] at this
    exact this
  · refine ⟨_, rfl, fun D hD => lc_out (walk_str (z := "XYZ")) (fun i H' => Same H H' ∧ H' D = some (.lst ((([Lk.X, .Y, .Z].take i).filter fun x => !(decide (a = x) || decide (b = x))).map vS))) ⟨same_new hD, upd_same⟩ (fun _ _ _ _ => trivial) ?_ ?_⟩
    · rintro i y _ H' hi ⟨s1, e1⟩ ⟨rfl, c, hc, rfl⟩
      rw [looks_txt] at hc
      obtain ⟨x, hx, ex⟩ := txt_at hc
      rw [ex]
      refine ⟨rfl, _, rfl, _, rfl, _, rfl, by show 2 ≤ sizeLine; decide, fun t ht => ?_⟩
      have s2 : Same H' (upd H' t (.tup [vS a, vS b])) := same_new ht
      refine ⟨t, _, rfl, .inr (SqT.of upd_same), rfl, rfl, _, rfl, ?_⟩
      show if (if true = true then !inV (vS x) [vS a, vS b] else _) = true then _ else _
      rw [if_pos rfl, inV_two]
      cases hf : !(decide (a = x) || decide (b = x)) with
      | true =>
        refine iteT ⟨_, rfl, _, s2 _ _ e1, ?_, same_put (s1.trans s2) hD, ?_⟩
        · rw [List.length_map]
          refine small1000 (Nat.le_trans flt_len ?_)
          decide
        · rw [upd_same, flt_next hx, if_pos hf, List.map_append]
          rfl
      | false =>
        refine iteF ⟨s1.trans s2, ?_⟩
        rw [flt_next hx, if_neg (by rw [hf]; exact Bool.false_ne_true), List.append_nil]
        exact s2 _ _ e1
    · rintro H1 ⟨s1, e1⟩
      have e1 : H1 D = some (.lst (([Lk.X, .Y, .Z].filter fun x => !(decide (a = x) || decide (b = x))).map vS)) := e1
      rw [other_look h1 h2 h3] at e1
      exact ⟨D, _, _, vS (a + b), rfl, rfl, SqL.of e1, atI_nat (j := 0) rfl, q _ s1⟩
end
end TF
set_option autoImplicit false
set_option Elab.async false
set_option maxRecDepth 100000
namespace TF
open PySem L2 PyProof.Rows
/-! ### steps as objects -/
def flds (c b : Str) (v : V) : List (Str × V) := putF "hall" v (putF "bases" (.str b) (putF "choice" (.str c) []))
theorem bh_ : ¬ (("bases" : Str) = "hall") := by decide +kernel
theorem ch_ : ¬ (("choice" : Str) = "hall") := by decide +kernel
theorem cb_ : ¬ (("choice" : Str) = "bases") := by decide +kernel
theorem flds_h (c b : Str) (v : V) : (flds c b v).lookup ("hall" : Str) = some v := by
  unfold flds
  rw [lookup_putF, if_pos rfl]
theorem flds_b (c b : Str) (v : V) : (flds c b v).lookup ("bases" : Str) = some (.str b) := by
  unfold flds
  rw [lookup_putF, if_neg bh_, lookup_putF, if_pos rfl]
theorem flds_c (c b : Str) (v : V) : (flds c b v).lookup ("choice" : Str) = some (.str c) := by
  unfold flds
  rw [lookup_putF, if_neg ch_, lookup_putF, if_neg cb_, lookup_putF, if_pos rfl]
theorem flds_no (c b : Str) (v : V) {m : Str} (h1 : ¬ m = "hall") (h2 : ¬ m = "bases") (h3 : ¬ m = "choice") : (flds c b v).lookup m = none := by
  unfold flds
  rw [lookup_putF, if_neg h1, lookup_putF, if_neg h2, lookup_putF, if_neg h3]
  rfl
theorem putF_len (f : Str) (v : V) : ∀ fs : List (Str × V), (putF f v fs).length ≤ fs.length + 1
  | [] => Nat.le_refl _
  | (g, x) :: r => by
    show (if g = f then (g, v) :: r else (g, x) :: putF f v r).length ≤ _
    by_cases h : g = f
    · rw [if_pos h]; simp
    · rw [if_neg h]
      have := putF_len f v r
      simp only [List.length_cons]
      omega
def StpAt (K : PySem.W.Frag) (C : Addr) (H : Hp) (p : Addr) (s : Stp) : Prop := ∃ dx v, H p = some (.ins C dx (flds (txt s.c) (txt s.b) v)) ∧ HlV K H v s.g
theorem StpAt.same {K : PySem.W.Frag} {C : Addr} {H H' : Hp} {p : Addr} {s : Stp} (h : StpAt K C H p s) (e : Same H H') : StpAt K C H' p s := by
  obtain ⟨dx, v, h1, h2⟩ := h
  exact ⟨dx, v, e _ _ h1, dp_same e _ _ h2⟩
theorem made_same {H H' : Hp} {C x dx : Addr} (hx : H x = none) (hd : H dx = none) (k : ∀ q, q ≠ x → H' q = (upd (upd H dx (.own x)) x (.ins C dx [])) q) : Same H H' := fun b o e => by
  have n1 := ne_of_none e hx
  rw [k b n1, upd_ne n1, upd_ne (ne_of_none e hd)]
  exact e
def foldB (c b : List Lk) (L : List Nat) : List Lk := L.foldl (fun B y => B.set y (gt B y + gt c y)) b
theorem foldB_len (c : List Lk) : ∀ (L : List Nat) (b : List Lk), (foldB c b L).length = b.length
  | [], _ => rfl
  | y :: L, b => by
    show (foldB c (b.set y _) L).length = _
    rw [foldB_len c L, List.length_set]
theorem foldB_gt (c : List Lk) : ∀ (L : List Nat) (b : List Lk) (z : Nat), L.Nodup → z < b.length → gt (foldB c b L) z = if z ∈ L then gt b z + gt c z else gt b z
  | [], b, z, _, _ => by simp [foldB]
  | y :: L, b, z, nd, hz => by
    have nd' := List.nodup_cons.mp nd
    show gt (foldB c (b.set y (gt b y + gt c y)) L) z = _
    rw [foldB_gt c L _ z nd'.2 (by rw [List.length_set]; exact hz)]
    by_cases e : y = z
    · subst e
      rw [if_neg nd'.1, gt_set_eq hz, if_pos (by simp)]
    · rw [gt_set_ne e]
      by_cases m : z ∈ L
      · rw [if_pos m, if_pos (by simp [m])]
      · rw [if_neg m, if_neg (by simp [m, Ne.symm e])]
theorem foldB_snoc (c b : List Lk) (L : List Nat) (y : Nat) : foldB c b (L ++ [y]) = (foldB c b L).set y (gt (foldB c b L) y + gt c y) := by
  unfold foldB
  rw [List.foldl_append]
  rfl
theorem foldB_all {s : Stp} (G : Good s) (x : Nat) : foldB s.c s.b (frs s.g x) = bases' s x := by
  refine gt_ext (by rw [foldB_len, show (bases' s x).length = s.g.1 from third_len (x := x) G, G.lb]) fun z hz => ?_
  rw [foldB_len, G.lb] at hz
  rw [foldB_gt _ _ _ _ (frs_nodup _ _) (by rw [G.lb]; exact hz), gt_bases G hz]
  by_cases a : adj s.g x z = true
  · rw [if_pos (mem_frs.mpr ⟨hz, a⟩), if_pos a]
  · rw [if_neg (fun m => a (mem_frs.mp m).2), if_neg a]
theorem lk_at {B : List Lk} {y : Nat} (h : y < B.length) : (B.map vS)[y]? = some (vS (gt B y)) := by
  rw [List.getElem?_map, List.getElem?_eq_getElem h]
  unfold gt
  rw [List.getD_eq_getElem?_getD, List.getElem?_eq_getElem h]
  rfl
theorem ixN_nat {n y : Nat} (h : y < n) : ixN n (y : Int) = some y := by
  unfold ixN
  rw [if_pos (by omega), if_pos (by omega)]
  simp
theorem set_vS (B : List Lk) (y : Nat) (a : Lk) : (B.map vS).set y (vS a) = (B.set y a).map vS := by rw [List.map_set]
section
variable {P : Program} {w : World} {K : PySem.W.Frag} {mg : Str → Option Value} {base : Heap}
def spInit (C : Addr) : Sp := fun vs H Q _ => ∃ (p dx : Addr) (c b : Str) (v : V), vs = [.ref p, .str c, .str b, v] ∧ H p = some (.ins C dx []) ∧ ∀ H' : Hp, H' p = some (.ins C dx (flds c b v)) → (∀ q, q ≠ p → H' q = H q) → Q .non H'
abbrev NI : List Str := ["self", "choice", "bases", "hall"]
theorem scI : FnScope NI NI (defScope (inClass (top 19) 0)) := ⟨rfl, rfl, rfl, by decide +kernel, rfl, by decide +kernel, by decide +kernel⟩
theorem ok_init (G : Pg K mg) : FnOk P w K mg base CX0 1 G.fI G.dI NI (spInit G.C) := by
  refine G.FI.ok scI (fun vs H Q E h => ?_) (fun cdv A outer s H vs Q E hr h => ?_)
  · obtain ⟨p, dx, c, b, v, rfl, _⟩ := h
    rfl
  obtain ⟨p, dx, c, b, v, rfl, hp, k⟩ := h
  refine ⟨_, pss_cons (ps_fld (pv 0) (pv 1) rfl) (pss_cons (ps_fld (pv 0) (pv 2) rfl) (pss_one (ps_fld (pv 0) (pv 3) rfl))), ?_⟩
  refine ⟨_, rfl, _, rfl, p, G.C, dx, [], rfl, hp, G.cl, G.nc, by decide, ?_⟩
  refine ⟨_, rfl, _, rfl, p, G.C, dx, _, rfl, upd_same, G.cl, G.nb, Nat.lt_of_le_of_lt (putF_len _ _ _) (by decide), ?_⟩
  refine ⟨_, rfl, _, rfl, p, G.C, dx, _, rfl, upd_same, G.cl, G.nh, Nat.lt_of_le_of_lt (Nat.le_trans (putF_len _ _ _) (Nat.succ_le_succ (putF_len _ _ _))) (by decide), ?_⟩
  exact k _ upd_same fun q nq => by rw [upd_ne nq, upd_ne nq, upd_ne nq]

def spFirst (K : PySem.W.Frag) (C : Addr) : Sp := fun vs H Q _ => ∃ (v : V) (h : Hall), vs = [v] ∧ HlV K H v h ∧ Okh h ∧ ∀ H' p, Same H H' → H p = none → StpAt K C H' p (start h) → Q (.ref p) H'
theorem sc20 : FnScope ["hall"] ["hall"] (defScope (top 20)) := ⟨rfl, rfl, rfl, by decide +kernel, rfl, by decide +kernel, by decide +kernel⟩
theorem ok_first (G : Pg K mg) : FnOk P w K mg base CX0 3 G.firstStep.f G.firstStep.fd ["hall"] (spFirst K G.C) := by
  refine G.firstStep.F.ok sc20 (fun vs H Q E h => ?_) (fun cdv A outer s H vs Q E hr h => ?_)
  · obtain ⟨v, h, rfl, _⟩ := h
    rfl
  obtain ⟨v, h, rfl, hp, O, q⟩ := h
  obtain ⟨a, b, qs, rfl, sa, sb, hq⟩ := hlV_open hp
  refine ⟨_, pss_one (ps_ret (pe_make G.M (ok_init G) hr rfl G.mC G.bI .nil pass0 (pa_cons (pe_op op_mulS pe_str (pe_ix ix_tup (pv 0) pe_int (fun _ _ => rfl))) (pa_cons (pe_op op_mulS pe_str (pe_ix ix_tup (pv 0) pe_int (fun _ _ => rfl))) (pa_cons (pv 0) pa_nil))))), ?_⟩
  refine ⟨_, rfl, a, _, _, .int h.1, rfl, rfl, sa, atI_nat (j := 0) rfl, .Z, h.1, congrArg V.str z_sg, rfl, O.2.1, Nat.le_trans O.2.2 (by decide), ?_⟩
  refine ⟨_, rfl, a, _, _, .int h.1, rfl, rfl, sa, atI_nat (j := 0) rfl, .X, h.1, congrArg V.str x_sg, rfl, O.2.1, Nat.le_trans O.2.2 (by decide), ?_⟩
  refine ⟨_, rfl, fun x dx hx hd ne => ?_⟩
  refine ⟨x, dx, _, _, _, rfl, upd_same, fun H' h1 h2 => ⟨rfl, ?_⟩⟩
  have s1 := made_same hx hd h2
  exact q _ _ s1 hx ⟨dx, _, h1, dp_same s1 _ _ hp⟩

def spThird (K : PySem.W.Frag) (C : Addr) : Sp := fun vs H Q _ => ∃ (p : Addr) (s : Stp) (x : Nat), vs = [.ref p, .int x] ∧ StpAt K C H p s ∧ Good s ∧ Okh s.g ∧ x < s.g.1 ∧ ∀ H' p', Same H H' → H p' = none → StpAt K C H' p' (third s x) → Q (.ref p') H'
abbrev NT : List Str := ["self", "x", "choice", "bases", "y"]
theorem scT : FnScope NT ["self", "x"] (defScope (inClass (top 19) 1)) := ⟨rfl, rfl, rfl, by decide +kernel, rfl, by decide +kernel, by decide +kernel⟩
theorem ok_third (G : Pg K mg) : FnOk P w K mg base CX0 4 G.fT G.dT ["self", "x"] (spThird K G.C) := by
  refine G.FT.ok scT (fun vs H Q E h => ?_) (fun cdv A outer s H vs Q E hr h => ?_)
  · obtain ⟨p, s, x, rfl, _⟩ := h
    rfl
  obtain ⟨p, t, x, rfl, ⟨dx, v, hp, hv⟩, Gd, O, hx, q⟩ := h
  have hr2 : Room 2 _ := hr.mono (by decide)
  have hr1 : Room 1 _ := hr.mono (by decide)
  refine ⟨_, pss_cons (ps_par (by rfl) scT.nd (i := 2) (j := 3) rfl rfl (by decide) rfl rfl (pa_cons (pe_ty G.zlist (call_listT rfl) (pa_cons (pe_fld (pv 0) rfl) pa_nil)) (pa_cons (pe_ty G.zlist (call_listT rfl) (pa_cons (pe_fld (pv 0) rfl) pa_nil)) pa_nil)) (by rfl))
    (pss_cons (ps_for PassesOwn.never rfl (pi_list (pe_def G.friends (ok_friends G) hr2 (pa_cons (pe_fld (pv 0) rfl) (pa_cons (pv 1) pa_nil)))) (pg_name (i := 4) scT.nd rfl (Or.inl rfl))
      (pss_one (ps_asg (pe_def G.sumOf (ok_sumOf G) hr1 (pa_cons (pe_ix ix_list (pv 3) (pv 4) (fun _ _ => rfl)) (pa_cons (pe_ix ix_list (pv 2) (pv 4) (fun _ _ => rfl)) pa_nil))) (pg_sub (pv 3) (pv 4) set_list))))
    (pss_cons (ps_asg (pe_def G.sumOf (ok_sumOf G) hr1 (pa_cons (pe_ix ix_list (pv 2) (pv 1) (fun _ _ => rfl)) (pa_cons (pe_ix ix_list (pv 3) (pv 1) (fun _ _ => rfl)) pa_nil))) (pg_sub (pv 2) (pv 1) set_list))
    (pss_one (ps_ret (pe_make G.M (ok_init G) hr2 rfl G.mC G.bI .nil pass0 (pa_cons (pe_join pe_str (pv 2)) (pa_cons (pe_join pe_str (pv 3)) (pa_cons (pe_def G.behind (ok_behind G) hr (pa_cons (pe_fld (pv 0) rfl) (pa_cons (pv 1) pa_nil))) pa_nil)))))))), ?_⟩
  have lc8 : t.c.length ≤ 8 := by rw [Gd.lc]; exact Nat.le_trans O.2.2 (by decide)
  have lb8 : t.b.length ≤ 8 := by rw [Gd.lb]; exact Nat.le_trans O.2.2 (by decide)
  refine ⟨_, rfl, p, G.C, dx, _, _, rfl, hp, G.cl, G.nc, flds_c _ _ _, t.c, rfl, lc8, fun l1 h1 => ?_⟩
  have s1 : Same H (upd H l1 (.lst (t.c.map vS))) := same_new h1
  refine ⟨_, rfl, p, G.C, dx, _, _, rfl, s1 _ _ hp, G.cl, G.nb, flds_b _ _ _, t.b, rfl, lb8, fun l2 h2 => ⟨_, _, rfl, ?_⟩⟩
  have s2 : Same (upd H l1 (.lst (t.c.map vS))) (upd (upd H l1 (.lst (t.c.map vS))) l2 (.lst (t.b.map vS))) := same_new h2
  have nl2 : H l2 = none := s1.free h2
  have s12 := s1.trans s2
  refine ⟨_, rfl, p, G.C, dx, _, _, rfl, s12 _ _ hp, G.cl, G.nh, flds_h _ _ _, _, rfl, v, t.g, x, rfl, dp_same s12 _ _ hv, O.2.2, fun H3 F s3 nF eF => ?_⟩
  have e1 : (upd (upd H l1 (.lst (t.c.map vS))) l2 (.lst (t.b.map vS))) l1 = some (.lst (t.c.map vS)) := s2 _ _ upd_same
  have n12 : l1 ≠ l2 := fun z => by
    rw [z] at h2
    rw [← z, upd_same] at h2
    cases h2
  have nF2 : F ≠ l2 := fun z => by
    rw [z, upd_same] at nF
    cases nF
  have s13 := s12.trans s3
  refine ⟨F, rfl, ⟨_, SqL.of eF⟩, for_list (K := K) (a := F) (xs := (frs t.g x).map fun y : Nat => V.int y)
    (fun i σ H' => ∃ v, σ = [some (.ref p), some (.int x), some (.ref l1), some (.ref l2), v] ∧ Same H H' ∧ H' l1 = some (.lst (t.c.map vS)) ∧ H' l2 = some (.lst ((foldB t.c t.b ((frs t.g x).take i)).map vS)) ∧ H' F = some (.lst ((frs t.g x).map fun y : Nat => V.int y)))
    ⟨none, rfl, s13, s3 _ _ e1, s3 _ _ upd_same, eF⟩ (fun i σ H' _ p => SqL.of p.choose_spec.2.2.2.2) ?_ ?_⟩
  · rintro i y σ H' hy ⟨u, rfl, s4, f1, f2, fF⟩
    obtain ⟨y, hy', rfl⟩ := map_at hy
    have yn := (mem_frs.mp (List.mem_of_getElem? hy')).1
    have yc : y < t.c.length := by rw [Gd.lc]; exact yn
    have yb : y < (foldB t.c t.b ((frs t.g x).take i)).length := by rw [foldB_len, Gd.lb]; exact yn
    refine ⟨_, rfl, _, rfl, l2, _, _, _, rfl, rfl, SqL.of f2, atI_nat (lk_at yb), _, rfl, _, rfl, l1, _, _, _, rfl, rfl, SqL.of f1, atI_nat (lk_at yc), _, _, rfl, fun H5 s5 => ?_⟩
    refine ⟨_, rfl, _, rfl, l2, _, _, y, rfl, rfl, s5 _ _ f2, ixN_nat (by rw [List.length_map]; exact yb), ?_⟩
    refine ⟨_, rfl, same_put (s4.trans s5) nl2, by rw [upd_ne n12]; exact s5 _ _ f1, ?_, by rw [upd_ne nF2]; exact s5 _ _ fF⟩
    rw [upd_same, take_next hy', foldB_snoc, set_vS]
  · rintro σ H4 ⟨u, rfl, s4, f1, f2, fF⟩
    rw [List.length_map, List.take_length, foldB_all Gd] at f2
    have lb : (bases' t x).length = t.g.1 := third_len (x := x) Gd
    have xc : x < t.c.length := by rw [Gd.lc]; exact hx
    have xb : x < (bases' t x).length := by rw [lb]; exact hx
    refine ⟨_, rfl, _, rfl, l1, _, _, _, rfl, rfl, SqL.of f1, atI_nat (lk_at xc), _, rfl, _, rfl, l2, _, _, _, rfl, rfl, SqL.of f2, atI_nat (lk_at xb), _, _, rfl, fun H5 s5 => ?_⟩
    refine ⟨_, rfl, _, rfl, l1, _, _, x, rfl, rfl, s5 _ _ f1, ixN_nat (by rw [List.length_map]; exact xc), ?_⟩
    rw [set_vS, show gt (bases' t x) x = gt t.b x from third_b_x Gd hx]
    have s45 := s4.trans s5
    have s6 : Same H (upd H5 l1 (.lst ((t.c.set x (gt t.c x + gt t.b x)).map vS))) := same_put s45 h1
    have g2 : (upd H5 l1 (.lst ((t.c.set x (gt t.c x + gt t.b x)).map vS))) l2 = some (.lst ((bases' t x).map vS)) := by
      rw [upd_ne (Ne.symm n12)]
      exact s5 _ _ f2
    refine ⟨⟨_, rfl⟩, _, rfl, _, l1, (t.c.set x (gt t.c x + gt t.b x)).map sg, rfl, rfl, .inl (join_sq upd_same), join_few (by rw [List.length_set]; exact lc8), ?_⟩
    refine ⟨⟨_, rfl⟩, _, rfl, _, l2, (bases' t x).map sg, rfl, rfl, .inl (join_sq g2), join_few (by rw [lb]; exact Nat.le_trans O.2.2 (by decide)), ?_⟩
    rw [join_txt, join_txt]
    refine ⟨_, rfl, p, G.C, dx, _, _, rfl, s6 _ _ hp, G.cl, G.nh, flds_h _ _ _, _, rfl, v, t.g, x, rfl, dp_same s6 _ _ hv, O, fun H7 u' s7 hu => ?_⟩
    intro z dz hz hd ne
    refine ⟨z, dz, _, _, _, rfl, upd_same, fun H' k1 k2 => ⟨rfl, ?_⟩⟩
    have s8 := made_same hz hd k2
    have s18 := s6.trans (s7.trans s8)
    exact q _ _ s18 ((s6.trans s7).free hz) ⟨dz, _, k1, dp_same s8 _ _ hu⟩
end
end TF
set_option autoImplicit false
set_option Elab.async false
set_option maxRecDepth 100000
namespace TF
open PySem L2 PyProof.Rows
/-! ### all steps as a dict -/
def kvs (S : List (Stp × Addr)) : List (Key × V) := S.map fun p => ((Sum.inr (txt p.1.c) : Key), V.ref p.2)
theorem kvs_app (S T : List (Stp × Addr)) : kvs (S ++ T) = kvs S ++ kvs T := List.map_append
theorem kvs_none : ∀ {S : List (Stp × Addr)} {c : List Lk}, c ∉ S.map (fun p => p.1.c) → valV (kvs S) (Sum.inr (txt c) : Key) = none
  | [], _, _ => rfl
  | p :: S, c, h => by
    rw [List.map_cons, List.mem_cons, not_or] at h
    show valV (_ :: kvs S) _ = none
    rw [valV_neg (fun e => h.1 (txt_inj (Sum.inr.inj e)).symm)]
    exact kvs_none h.2
theorem kvs_some : ∀ {S : List (Stp × Addr)} {c : List Lk}, c ∈ S.map (fun p => p.1.c) → ∃ p ∈ S, p.1.c = c ∧ valV (kvs S) (Sum.inr (txt c) : Key) = some (.ref p.2)
  | p :: S, c, h => by
    by_cases e : p.1.c = c
    · exact ⟨p, by simp, e, by subst e; exact valV_pos rfl⟩
    · rw [List.map_cons, List.mem_cons] at h
      rcases h with h | h
      · exact absurd h.symm e
      · obtain ⟨q, h1, h2, h3⟩ := kvs_some h
        refine ⟨q, by simp [h1], h2, ?_⟩
        show valV (_ :: kvs S) _ = _
        rw [valV_neg (fun z => e (txt_inj (Sum.inr.inj z)))]
        exact h3
theorem kvs_put {S : List (Stp × Addr)} {s : Stp} {a : Addr} (h : s.c ∉ S.map (fun p => p.1.c)) : putK (kvs S) (Sum.inr (txt s.c) : Key) (.ref a) = kvs (S ++ [(s, a)]) := by
  unfold putK
  rw [if_neg, kvs_app]
  · rfl
  · intro z
    obtain ⟨kv, h1, h2⟩ := List.any_eq_true.mp z
    obtain ⟨p, hp, rfl⟩ := List.mem_map.mp h1
    have e := txt_inj (Sum.inr.inj (of_decide_eq_true h2))
    exact h (List.mem_map.mpr ⟨p, hp, e⟩)
def StepsAt (K : PySem.W.Frag) (C : Addr) (H : Hp) (d : Addr) (S : List (Stp × Addr)) : Prop := H d = some (.dK (kvs S)) ∧ ∀ p ∈ S, StpAt K C H p.2 p.1
theorem StepsAt.same {K : PySem.W.Frag} {C : Addr} {H H' : Hp} {d : Addr} {S : List (Stp × Addr)} (h : StepsAt K C H d S) (e : Same H H') : StepsAt K C H' d S := ⟨e _ _ h.1, fun p hp => (h.2 p hp).same e⟩
theorem StpAt.put {K : PySem.W.Frag} {C : Addr} {H : Hp} {p d : Addr} {s : Stp} {o o' : HO} (h : StpAt K C H p s) (e : H d = some o) (h1 : ∀ xs, o ≠ .tup xs) (h2 : ∀ ob xs, o ≠ .frz ob (.tup xs)) (h3 : ∀ C dx fs, o ≠ .ins C dx fs) : StpAt K C (upd H d o') p s := by
  obtain ⟨dx, v, q1, q2⟩ := h
  have n : p ≠ d := fun z => by
    rw [z, e] at q1
    exact h3 _ _ _ (Option.some.inj q1)
  exact ⟨dx, v, by rw [upd_ne n]; exact q1, (Tp.upd e h1 h2).hl q2⟩
theorem StpAt.putD {K : PySem.W.Frag} {C : Addr} {H : Hp} {p d : Addr} {s : Stp} {ks : List (Key × V)} {o' : HO} (h : StpAt K C H p s) (e : H d = some (.dK ks)) : StpAt K C (upd H d o') p s :=
  h.put e (fun _ z => nomatch z) (fun _ _ z => nomatch z) (fun _ _ _ z => nomatch z)
theorem StpAt.putL {K : PySem.W.Frag} {C : Addr} {H : Hp} {p d : Addr} {s : Stp} {xs : List V} {o' : HO} (h : StpAt K C H p s) (e : H d = some (.lst xs)) : StpAt K C (upd H d o') p s :=
  h.put e (fun _ z => nomatch z) (fun _ _ z => nomatch z) (fun _ _ _ z => nomatch z)
def refs (T : List (Stp × Addr)) : List V := T.map fun p => V.ref p.2
def dLen (H : Hp) (d : Addr) : Nat := match H d with
  | some (.dK ks) => ks.length
  | _ => 0
def lLen (H : Hp) (l : Addr) : Nat := match H l with
  | some (.lst xs) => xs.length
  | _ => 0
theorem dLen_of {H : Hp} {d : Addr} {S : List (Stp × Addr)} (e : H d = some (.dK (kvs S))) : dLen H d = S.length := by
  unfold dLen
  rw [e]
  exact List.length_map _
theorem lLen_of {H : Hp} {l : Addr} {T : List (Stp × Addr)} (e : H l = some (.lst (refs T))) : lLen H l = T.length := by
  unfold lLen
  rw [e]
  exact List.length_map _
/-- what is found, what is still to be gone on from -/
structure Going (h : Hall) (S T : List (Stp × Addr)) : Prop where
  nd : (S.map fun p => p.1.c).Nodup
  reach : ∀ p ∈ S, ReachS h p.1
  first : start h ∈ S.map (·.1)
  sub : ∀ p ∈ T, p ∈ S
  le : T.length ≤ S.length
theorem Going.few {h : Hall} {S T : List (Stp × Addr)} (g : Going h S T) (O : Okh h) : S.length ≤ 243 := by
  have := few_steps O.1 O.2.2 (S := S.map (·.1)) (by rw [List.map_map]; exact g.nd) (fun s hs => by
    obtain ⟨p, hp, rfl⟩ := List.mem_map.mp hs
    exact g.reach p hp)
  rw [List.length_map] at this
  exact this
theorem Going.add {h : Hall} {S T : List (Stp × Addr)} (g : Going h S T) {s : Stp} {a : Addr} (hs : ReachS h s) (n : s.c ∉ S.map fun p => p.1.c) : Going h (S ++ [(s, a)]) (T ++ [(s, a)]) where
  nd := by
    rw [List.map_append]
    refine List.nodup_append.mpr ⟨g.nd, by simp, ?_⟩
    intro x hx y hy e
    have : y = s.c := by simpa using hy
    exact n (by rw [← this, ← e]; exact hx)
  reach := fun p hp => by
    rcases List.mem_append.mp hp with q | q
    · exact g.reach p q
    · have : p = (s, a) := by simpa using q
      rw [this]
      exact hs
  first := by
    rw [List.map_append]
    exact List.mem_append_left _ g.first
  sub := fun p hp => by
    rcases List.mem_append.mp hp with q | q
    · exact List.mem_append_left _ (g.sub p q)
    · exact List.mem_append_right _ q
  le := by
    rw [List.length_append, List.length_append]
    exact Nat.add_le_add_right g.le _
section
variable {P : Program} {w : World} {K : PySem.W.Frag} {mg : Str → Option Value} {base : Heap}
def spAll (K : PySem.W.Frag) (C : Addr) : Sp := fun vs H Q _ => ∃ (v : V) (h : Hall), vs = [v] ∧ HlV K H v h ∧ Okh h ∧ ∀ H' d S, Same H H' → H d = none → StepsAt K C H' d S → AllSteps h (S.map (·.1)) → Q (.ref d) H'
abbrev N21 : List Str := ["hall", "start", "found", "here", "step", "x", "other"]
theorem sc21 : FnScope N21 ["hall"] (defScope (top 21)) := ⟨rfl, rfl, rfl, by decide +kernel, rfl, by decide +kernel, by decide +kernel⟩
theorem ok_all (G : Pg K mg) : FnOk P w K mg base CX0 5 G.allSteps.f G.allSteps.fd ["hall"] (spAll K G.C) := by
  refine G.allSteps.F.ok sc21 (fun vs H Q E h => ?_) (fun cdv A outer s H vs Q E hr h => ?_)
  · obtain ⟨v, h, rfl, _⟩ := h
    rfl
  obtain ⟨v, h, rfl, hp, O, q⟩ := h
  obtain ⟨a, b, qs, rfl, sa, sb, hq⟩ := hlV_open hp
  have hr3 : Room 3 _ := hr.mono (by decide)
  have hu := hu_of hr
  refine ⟨_, pss_cons (ps_set (i := 1) sc21.nd rfl (Or.inl rfl) (pe_def G.firstStep (ok_first G) hr3 (pa_cons (pv 0) pa_nil)))
    (pss_cons (ps_par (by rfl) sc21.nd (i := 2) (j := 3) rfl rfl (by decide) rfl rfl (pa_cons (pe_disp (pps_cons (pe_fld (pv 1) rfl) (pv 1) pps_nil) (by rfl) (by rfl) (fun z => by cases z) (by decide)) (pa_cons (pe_lst (pa_cons (pv 1) pa_nil)) pa_nil)) (by rfl))
    (pss_cons (ps_while PassesOwn.never (pt_cmpR (op_neNil hr.units0) (pv 3) (pe_lst pa_nil) (nomark _))
      (pss_cons (ps_set (i := 4) sc21.nd rfl (Or.inl rfl) (pe_bm0 PySem.F.plainAttrs_list PySem.F.slot_list_pop PySem.F.type_list_pop mt_pop (pv 3)))
      (pss_one (ps_for PassesOwn.never rfl (pi_range1 rfl G.zrange (pa_cons (pe_ix ix_tup (pv 0) pe_int (fun _ _ => rfl)) pa_nil)) (pg_name (i := 5) sc21.nd rfl (Or.inl rfl))
        (pss_cons (ps_set (i := 6) sc21.nd rfl (Or.inl rfl) (pe_meth (pv 4) G.cl G.mT (ok_third G) hr G.bT .nil pass0 (pa_cons (pv 5) pa_nil)))
        (pss_one (ps_if (pt_cmp (pc_dnotin hu (pe_fld (pv 6) rfl) (pv 2))) (pss_cons (ps_dput hu (pv 2) (pe_fld (pv 6) rfl) (pv 6) rfl)
          (pss_one (ps_expr (pe_bm PySem.F.plainAttrs_list PySem.F.slot_list_append PySem.F.type_list_append mt_append (pv 3) (pa_cons (pv 6) pa_nil))))) pss_nil)))))))
    (pss_one (ps_ret (pv 2))))), ?_⟩
  refine ⟨_, rfl, .ref a, h, rfl, hp, O, fun H1 p1 s1 np1 st1 => ?_⟩
  intro d hd
  have sd : Same H1 (upd H1 d (.dK [])) := same_new hd
  obtain ⟨dx1, v1, i1, j1⟩ := id (st1.same sd)
  refine ⟨_, rfl, p1, G.C, dx1, _, _, rfl, i1, G.cl, G.nc, flds_c _ _ _, _, rfl, upd_same, [(Sum.inr (txt (start h).c), .ref p1)], rfl, Nat.le_of_ble_eq_true rfl, ?_⟩
  have e0 : mergeK [] [((Sum.inr (txt (start h).c) : Key), V.ref p1)] = kvs [(start h, p1)] := rfl
  rw [e0]
  have eu : upd (upd H1 d (.dK [])) d (.dK (kvs [(start h, p1)])) = upd H1 d (.dK (kvs [(start h, p1)])) := by
    funext q
    by_cases e : q = d
    · subst e; rw [upd_same, upd_same]
    · rw [upd_ne e, upd_ne e, upd_ne e]
  rw [eu]
  have sd' : Same H1 (upd H1 d (.dK (kvs [(start h, p1)]))) := same_new hd
  refine ⟨_, rfl, by show 1 ≤ sizeLine; decide, fun l hl => ⟨_, _, rfl, ?_⟩⟩
  have sl : Same (upd H1 d (.dK (kvs [(start h, p1)]))) (upd (upd H1 d (.dK (kvs [(start h, p1)]))) l (.lst [.ref p1])) := same_new hl
  have ndl : d ≠ l := ne_of_none upd_same hl
  have nd0 : H d = none := s1.free hd
  have nl0 : H l = none := (s1.trans sd').free hl
  refine while_by (fun σ H' => ∃ (x y z : Option V) (S T : List (Stp × Addr)), σ = [some (.ref a), some (.ref p1), some (.ref d), some (.ref l), x, y, z] ∧ Same H H' ∧ StepsAt K G.C H' d S ∧ H' l = some (.lst (refs T)) ∧ Going h S T ∧
      ∀ p ∈ S, p ∉ T → ∀ x, x < h.1 → (third p.1 x).c ∈ S.map fun p => p.1.c)
    (fun _ H' => 2 * (243 - dLen H' d) + lLen H' l) ?_ ?_ ?_
  · refine ⟨none, none, none, [(start h, p1)], [(start h, p1)], rfl, s1.trans (sd'.trans sl), ⟨?_, ?_⟩, upd_same, ⟨by simp, ?_, by simp, fun p hp => hp, Nat.le_refl _⟩, fun p hp np => absurd hp np⟩
    · rw [upd_ne ndl, upd_same]
    · intro p hp
      have : p = (start h, p1) := by simpa using hp
      rw [this]
      exact st1.same (sd'.trans sl)
    · intro p hp
      have : p = (start h, p1) := by simpa using hp
      rw [this]
      exact .refl
  · rintro σ H2 ⟨x, y, z, S, T, rfl, s2, sS, eT, Gn, cl⟩
    refine ⟨_, rfl, Nat.zero_le _, fun e he => ⟨l, e, refs T, rfl, rfl, SqL.of (by rw [upd_ne (ne_of_none eT he)]; exact eT), SqL.of upd_same, _, rfl, ?_⟩⟩
    have se : Same H2 (upd H2 e (.lst [])) := same_new he
    have s3 := s2.trans se
    have sS3 := sS.same se
    have eT3 := se _ _ eT
    rw [if_neg Bool.false_ne_true, dLen_of sS.1, lLen_of eT]
    generalize upd H2 e (.lst []) = H3 at s3 sS3 eT3
    clear se he e
    cases hT : T with
    | nil =>
      subst hT
      refine iteF ⟨_, rfl, ?_⟩
      refine q H3 d S s3 nd0 sS3 ⟨by rw [List.map_map]; exact Gn.nd, ?_, Gn.first, ?_⟩
      · intro s hs
        obtain ⟨p, hp, rfl⟩ := List.mem_map.mp hs
        exact Gn.reach p hp
      · intro s hs x hx
        obtain ⟨p, hp, rfl⟩ := List.mem_map.mp hs
        rw [List.map_map]
        exact cl p hp (by simp) x hx
    | cons t0 T0 =>
      obtain ⟨T', t, eT'⟩ : ∃ T' t, T = T' ++ [t] := ⟨T.dropLast, T.getLast (by rw [hT]; simp), (List.dropLast_concat_getLast _).symm⟩
      rw [← hT]
      subst eT'
      clear hT t0 T0
      have tS := Gn.sub t (by simp)
      have tR := Gn.reach t tS
      have one : t.1.g.1 = h.1 := tR.one
      have Ot : Okh t.1.g := ⟨(tR.good O.1).can, by rw [one]; exact O.2.1, by rw [one]; exact O.2.2⟩
      rw [show (!(refs (T' ++ [t])).isEmpty) = true by unfold refs; simp]
      refine iteT ?_
      have drop : (refs (T' ++ [t])).dropLast = refs T' := by unfold refs; rw [List.map_append, List.map_singleton, List.dropLast_concat]
      refine ⟨_, rfl, .inl ⟨rfl, _, SqL.of eT3⟩, l, _, .ref t.2, rfl, rfl, eT3, by unfold refs; simp, ?_⟩
      rw [drop]
      have s4 : Same H (upd H3 l (.lst (refs T'))) := same_put s3 nl0
      refine ⟨_, rfl, a, _, _, .int h.1, rfl, rfl, same_t s4 sa, atI_nat (j := 0) rfl, h.1, rfl, by have := O.2.2; omega, by have := O.2.2; omega, for_range (lo := 0) (n := h.1)
        (fun i σ H' => ∃ (y z : Option V) (S1 T1 : List (Stp × Addr)), σ = [some (.ref a), some (.ref p1), some (.ref d), some (.ref l), some (.ref t.2), y, z] ∧ Same H H' ∧ StepsAt K G.C H' d S1 ∧ H' l = some (.lst (refs T1)) ∧ Going h S1 T1 ∧ t ∈ S1 ∧
          (∀ p ∈ S1, p ∉ T1 → p ≠ t → ∀ x, x < h.1 → (third p.1 x).c ∈ S1.map fun p => p.1.c) ∧ (∀ x, x < i → (third t.1 x).c ∈ S1.map fun p => p.1.c) ∧ 2 * (243 - S1.length) + T1.length ≤ 2 * (243 - S.length) + T'.length)
        ⟨y, z, S, T', rfl, s4, ⟨by rw [upd_ne ndl]; exact sS3.1, fun p hp => (sS3.2 p hp).putL eT3⟩, upd_same, ⟨Gn.nd, Gn.reach, Gn.first, fun p hp => Gn.sub p (List.mem_append_left _ hp), Nat.le_trans (by rw [List.length_append]; exact Nat.le_add_right _ _) Gn.le⟩, tS, ?_, fun x hx => absurd hx (Nat.not_lt_zero _), Nat.le_refl _⟩ ?_ ?_⟩
      · intro p hp n1 n2 x hx
        refine cl p hp (fun m => ?_) x hx
        rcases List.mem_append.mp m with m | m
        · exact n1 m
        · exact n2 (by simpa using m)
      · rintro i σ H5 hi ⟨y, z, S1, T1, rfl, s5, sS5, eT5, Gn5, t5, cl5, up5, mu5⟩
        obtain ⟨dxt, vt, it, jt⟩ := id (sS5.2 t t5)
        rw [Int.zero_add]
        have hi' : i < t.1.g.1 := by rw [one]; exact hi
        refine ⟨_, rfl, t.2, dxt, _, rfl, it, flds_no _ _ _ (by decide +kernel) (by decide +kernel) (by decide +kernel), _, rfl, t.2, t.1, i, rfl, sS5.2 t t5, tR.good O.1, Ot, hi', fun H6 p6 s6 n6 st6 => ?_⟩
        obtain ⟨dx6, v6, i6, j6⟩ := id st6
        refine ⟨_, rfl, p6, G.C, dx6, _, _, rfl, i6, G.cl, G.nc, flds_c _ _ _, _, rfl, d, _, rfl, DGet.k (k := Sum.inr (txt (third t.1 i).c)) (s6 _ _ sS5.1), _, rfl, ?_⟩
        have sS6 := sS5.same s6
        have eT6 := s6 _ _ eT5
        by_cases m : (third t.1 i).c ∈ S1.map fun p => p.1.c
        · obtain ⟨p, hp, _, ev⟩ := kvs_some m
          rw [ev]
          refine iteF ⟨_, _, S1, T1, rfl, s5.trans s6, sS6, eT6, Gn5, t5, cl5, fun x hx => ?_, mu5⟩
          rcases Nat.lt_succ_iff_lt_or_eq.mp hx with hx | hx
          · exact up5 x hx
          · rw [hx]; exact m
        · rw [kvs_none m]
          have G6 := Gn5.add (a := p6) (.step (Gn5.reach t t5) hi) m
          have few := G6.few O
          rw [List.length_append] at few
          have few : S1.length + 1 ≤ 243 := few
          have tl : T1.length ≤ 1000 := by
            have := Gn5.le
            omega
          refine iteT ⟨_, rfl, _, rfl, _, rfl, p6, G.C, dx6, _, _, rfl, i6, G.cl, G.nc, flds_c _ _ _, d, _, rfl, DPut.k (k := Sum.inr (txt (third t.1 i).c)) sS6.1 ?_, ?_⟩
          · unfold kvs
            rw [List.length_map]
            exact small1000 (by omega)
          rw [kvs_put m]
          have eT7 : upd H6 d (.dK (kvs (S1 ++ [(third t.1 i, p6)]))) l = some (.lst (refs T1)) := by rw [upd_ne ndl.symm]; exact eT6
          refine ⟨_, rfl, .inl ⟨rfl, _, SqL.of eT7⟩, _, rfl, l, _, _, rfl, rfl, eT7, ?_, ?_⟩
          · unfold refs
            rw [List.length_map]
            exact small1000 tl
          have eR : refs T1 ++ [.ref p6] = refs (T1 ++ [(third t.1 i, p6)]) := by unfold refs; rw [List.map_append]; rfl
          rw [eR]
          refine ⟨_, _, S1 ++ [(third t.1 i, p6)], T1 ++ [(third t.1 i, p6)], rfl, same_put (same_put (s5.trans s6) nd0) nl0, ⟨?_, ?_⟩, upd_same, G6, List.mem_append_left _ t5, ?_, ?_, ?_⟩
          · rw [upd_ne ndl, upd_same]
          · intro p hp
            refine StpAt.putL (StpAt.putD ?_ sS6.1) eT7
            rcases List.mem_append.mp hp with hp | hp
            · exact sS6.2 p hp
            · have : p = (third t.1 i, p6) := by simpa using hp
              rw [this]
              exact st6
          · intro p hp n1 n2 x hx
            rw [List.map_append]
            refine List.mem_append_left _ ?_
            rcases List.mem_append.mp hp with hp | hp
            · exact cl5 p hp (fun z => n1 (List.mem_append_left _ z)) n2 x hx
            · exact absurd (List.mem_append_right _ hp) n1
          · intro x hx
            rw [List.map_append]
            rcases Nat.lt_succ_iff_lt_or_eq.mp hx with hx | hx
            · exact List.mem_append_left _ (up5 x hx)
            · rw [hx]
              exact List.mem_append_right _ (by simp)
          · rw [List.length_append, List.length_append]
            show 2 * (243 - (S1.length + 1)) + (T1.length + 1) ≤ _
            omega
      · rintro σ H5 ⟨y, z, S1, T1, rfl, s5, sS5, eT5, Gn5, t5, cl5, up5, mu5⟩
        refine ⟨⟨_, y, z, S1, T1, rfl, s5, sS5, eT5, Gn5, fun p hp np x hx => ?_⟩, ?_⟩
        · by_cases e : p = t
          · rw [e]
            exact up5 x hx
          · exact cl5 p hp np e x hx
        · show 2 * (243 - dLen H5 d) + lLen H5 l < _
          rw [dLen_of sS5.1, lLen_of eT5, List.length_append]
          show _ < 2 * (243 - S.length) + (T'.length + 1)
          omega
  · rintro σ H' Q1 Q2 hQ ⟨v, e, l1, f⟩
    exact ⟨v, e, l1, fun p hp => let ⟨a, b, xs, r1, r2, h1, h2, k, ek, q⟩ := f p hp; ⟨a, b, xs, r1, r2, h1, h2, k, ek, hQ _ _ q⟩⟩
end
end TF
set_option autoImplicit false
set_option Elab.async false
set_option maxRecDepth 100000
namespace TF
open PySem L2 PyProof.Rows
theorem inr_sg {a b : Lk} : ((Sum.inr (sg a) : Key) = Sum.inr (sg b)) ↔ a = b := ⟨fun e => sg_inj (Sum.inr.inj e), fun e => by rw [e]⟩
theorem lk_three {a b x : Lk} (ha : a ≠ .O) (hb : b ≠ .O) (h : b ≠ a) (hx : x ≠ .O) : x = a + b ∨ x = b ∨ x = a := by
  cases a <;> cases b <;> cases x <;> first | exact absurd rfl ha | exact absurd rfl hb | exact absurd rfl h | exact absurd rfl hx | exact .inl rfl | exact .inr (.inl rfl) | exact .inr (.inr rfl)
theorem goes_val {a b x : Lk} (ha : a ≠ .O) (hb : b ≠ .O) (h : b ≠ a) (hx : x ≠ .O) : ∃ y : Str, valV (mergeK [] [((Sum.inr (sg a) : Key), V.str "Z"), (Sum.inr (sg b), V.str "X"), (Sum.inr (sg (a + b)), V.str "Y")]) (Sum.inr (sg x) : Key) = some (.str y) ∧ y.length = 1 := by
  show ∃ y : Str, valV (putK (putK (putK [] (Sum.inr (sg a) : Key) (V.str "Z")) (Sum.inr (sg b)) (V.str "X")) (Sum.inr (sg (a + b))) (V.str "Y")) (Sum.inr (sg x) : Key) = some (.str y) ∧ y.length = 1
  rw [valV_put, valV_put, valV_put]
  by_cases h1 : x = a + b
  · rw [if_pos (inr_sg.mpr h1)]
    exact ⟨_, rfl, rfl⟩
  rw [if_neg fun e => h1 (inr_sg.mp e)]
  by_cases h2 : x = b
  · rw [if_pos (inr_sg.mpr h2)]
    exact ⟨_, rfl, rfl⟩
  rw [if_neg fun e => h2 (inr_sg.mp e)]
  by_cases h3 : x = a
  · rw [if_pos (inr_sg.mpr h3)]
    exact ⟨_, rfl, rfl⟩
  rcases lk_three ha hb h hx with e | e | e
  · exact absurd e h1
  · exact absurd e h2
  · exact absurd e h3
theorem look_not {i : Nat} {x : Lk} (h : [Lk.X, .Y, .Z][i]? = some x) : x ≠ .O := by
  have m := List.mem_of_getElem? h
  revert m
  cases x <;> decide
section
variable {P : Program} {w : World} {K : PySem.W.Frag} {mg : Str → Option Value} {base : Heap}
def spChange (K : PySem.W.Frag) (C : Addr) : Sp := fun vs H Q _ => ∃ (p : Addr) (s : Stp), vs = [.ref p] ∧ StpAt K C H p s ∧ Good s ∧ Okh s.g ∧ ∀ H' u, Same H H' → Q u H'
abbrev N24 : List Str := ["step", "found", "choice", "base", "goes", "look"]
theorem sc24 : FnScope N24 ["step"] (defScope (top 24)) := ⟨rfl, rfl, rfl, by decide +kernel, rfl, by decide +kernel, by decide +kernel⟩
theorem ok_change (G : Pg K mg) : FnOk P w K mg base CX0 2 G.changeOf.f G.changeOf.fd ["step"] (spChange K G.C) := by
  refine G.changeOf.F.ok sc24 (fun vs H Q E h => ?_) (fun cdv A outer s H vs Q E hr h => ?_)
  · obtain ⟨p, s, rfl, _⟩ := h
    rfl
  obtain ⟨p, t, rfl, ⟨dx, v, hp, hv⟩, Gd, O, q⟩ := h
  obtain ⟨tL, hL⟩ := G.gLooks
  have hu := hu_of hr
  refine ⟨_, pss_cons (ps_set (i := 1) sc24.nd rfl (Or.inl rfl) (pe_lst pa_nil))
    (pss_cons (ps_for PassesOwn.never rfl (pi_zipS rfl G.zzip (pa_cons (pe_fld (pv 0) rfl) (pa_cons (pe_fld (pv 0) rfl) pa_nil))) (pg_tup rfl (pgs_cons (pg_name (i := 2) sc24.nd rfl (Or.inl rfl)) (pgs_cons (pg_name (i := 3) sc24.nd rfl (Or.inl rfl)) pgs_nil)))
      (pss_cons (ps_set (i := 4) sc24.nd rfl (Or.inr rfl) (pe_disp (pps_cons (pv 2) pe_str (pps_cons (pv 3) pe_str (pps_cons (pe_def G.sumOf (ok_sumOf G) hr (pa_cons (pv 2) (pa_cons (pv 3) pa_nil))) pe_str pps_nil))) (by rfl) (by rfl) (fun z => by cases z) (by decide)))
      (pss_one (ps_expr (pe_bm PySem.F.plainAttrs_list PySem.F.slot_list_append PySem.F.type_list_append mt_append (pv 1) (pa_cons (pe_join pe_str
        (pe_lc (own := [("look", 5)]) (g := gName 5) (tt := tYes) rfl sc24.nd (pi_str (pe_glob (v := .str "XYZ") rfl hL ⟨_, rfl⟩)) (blkOk_by (N := N24) (sc := defScope (top 24)) (by decide +kernel))
          (fun _ _ _ _ _ => pg_name (i := 5) sc24.nd rfl (Or.inl rfl)) (fun _ _ _ _ _ => pts_nil) (fun _ _ _ _ _ => pe_dget hu (pv 4) (pv 5) (fun _ _ => rfl)))) pa_nil))))))
    (pss_one (ps_ret (pe_ty G.ztuple call_tuple_of (pa_cons (pv 1) pa_nil))))), ?_⟩
  refine ⟨Nat.zero_le _, fun D hD => ?_⟩
  have s1 : Same H (upd H D (.lst [])) := same_new hD
  have ecb : t.c.length = t.b.length := by rw [Gd.lc, Gd.lb]
  refine ⟨_, rfl, p, G.C, dx, _, _, rfl, s1 _ _ hp, G.cl, G.nc, flds_c _ _ _, _, rfl, p, G.C, dx, _, _, rfl, s1 _ _ hp, G.cl, G.nb, flds_b _ _ _, _, _, rfl, for_it (walk_zipS ecb)
    (fun i σ H' => ∃ (x y z : Option V) (acc : List V), σ = [some (.ref p), some (.ref D), x, y, z, none] ∧ Same H H' ∧ H' D = some (.lst acc) ∧ acc.length = i)
    ⟨none, none, none, [], rfl, s1, upd_same, rfl⟩ (fun _ _ _ _ _ => trivial) ?_ ?_⟩
  · rintro i _ σ H2 _ hi ⟨x, y, z, acc, rfl, s2, e2, l2⟩ ⟨T, a, b, rfl, hT, rfl, ha, hb⟩
    have i5 : i < 5 := by
      have := O.2.2
      rw [Gd.lc] at hi
      omega
    have gi : i < t.g.1 := by rw [← Gd.lc]; exact hi
    have ga : a = gt t.c i := by
      unfold gt
      rw [List.getD_eq_getElem?_getD, ha]
      rfl
    have gb : b = gt t.b i := by
      unfold gt
      rw [List.getD_eq_getElem?_getD, hb]
      rfl
    have na : a ≠ .O := by rw [ga]; exact Gd.cO i gi
    have nb : b ≠ .O := by rw [gb]; exact Gd.bO i gi
    have nn : b ≠ a := by rw [ga, gb]; exact Gd.ne i gi
    have s3 : Same H (upd H2 T (.tup [.str (sg a), .str (sg b)])) := same_put s2 (s2.free hT)
    have e3 : (upd H2 T (.tup [.str (sg a), .str (sg b)])) D = some (.lst acc) := by rw [upd_ne (ne_of_none e2 hT)]; exact e2
    refine ⟨T, _, rfl, SqT.of upd_same, rfl, _, _, rfl, _, _, rfl, rfl, ?_⟩
    intro d hd
    refine ⟨_, rfl, _, rfl, _, rfl, _, rfl, a, b, rfl, fun H6 s6 => ⟨s6 _ _ upd_same, [((Sum.inr (sg a) : Key), V.str "Z"), (Sum.inr (sg b), V.str "X"), (Sum.inr (sg (a + b)), V.str "Y")], rfl, Nat.le_of_ble_eq_true rfl, ?_⟩⟩
    have nDd : D ≠ d := ne_of_none e3 hd
    have s7 : Same H (upd H6 d (.dK (mergeK [] [((Sum.inr (sg a) : Key), V.str "Z"), (Sum.inr (sg b), V.str "X"), (Sum.inr (sg (a + b)), V.str "Y")]))) := same_put (s3.trans ((same_new hd).trans s6)) (s3.free hd)
    have e7 : (upd H6 d (.dK (mergeK [] [((Sum.inr (sg a) : Key), V.str "Z"), (Sum.inr (sg b), V.str "X"), (Sum.inr (sg (a + b)), V.str "Y")]))) D = some (.lst acc) := by
      rw [upd_ne nDd]
      exact s6 _ _ (by rw [upd_ne nDd]; exact e3)
    have d7 : (upd H6 d (.dK (mergeK [] [((Sum.inr (sg a) : Key), V.str "Z"), (Sum.inr (sg b), V.str "X"), (Sum.inr (sg (a + b)), V.str "Y")]))) d = some (.dK (mergeK [] [((Sum.inr (sg a) : Key), V.str "Z"), (Sum.inr (sg b), V.str "X"), (Sum.inr (sg (a + b)), V.str "Y")])) := upd_same
    generalize upd H6 d (.dK (mergeK [] [((Sum.inr (sg a) : Key), V.str "Z"), (Sum.inr (sg b), V.str "X"), (Sum.inr (sg (a + b)), V.str "Y")])) = H7 at s7 e7 d7
    refine ⟨_, rfl, .inl ⟨rfl, _, SqL.of e7⟩, ⟨_, rfl⟩, _, rfl, fun D2 hD2 => lc_out (walk_str (z := "XYZ")) (fun i H' => Same H7 H' ∧ ∃ ys : List Str, H' D2 = some (.lst (ys.map V.str)) ∧ ys.length = i ∧ (ys.map (·.length)).sum = i)
      ⟨same_new hD2, [], upd_same, rfl, rfl⟩ (fun _ _ _ _ => trivial) ?_ ?_⟩
    · rintro j _ _ H' hj ⟨s8, ys, e8, l8, m8⟩ ⟨rfl, c, hc, rfl⟩
      have hj3 : j < 3 := hj
      rw [looks_txt] at hc
      obtain ⟨x, hx, ex⟩ := txt_at hc
      rw [ex]
      obtain ⟨y, ey, ly⟩ := goes_val na nb nn (look_not hx)
      have gv : DGet H' d (kV (Sum.inr (sg x))) _ := DGet.k (k := Sum.inr (sg x)) (s8 _ _ d7)
      rw [ey] at gv
      refine ⟨rfl, _, rfl, _, rfl, d, .str y, rfl, gv, _, e8, ?_, same_put s8 hD2, ys ++ [y], ?_, ?_, ?_⟩
      · rw [List.length_map]
        exact small1000 (by omega)
      · rw [upd_same, List.map_append]
        rfl
      · rw [List.length_append, l8]
        rfl
      · rw [List.map_append, List.sum_append, m8]
        show j + (y.length + 0) = j + 1
        rw [ly]
    · rintro H' ⟨s8, ys, e8, l8, m8⟩
      have l8 : ys.length = 3 := l8
      have m8 : (ys.map (·.length)).sum = 3 := m8
      refine ⟨_, D2, ys, rfl, rfl, .inl (SqL.of e8), ?_, D, _, _, rfl, rfl, s8 _ _ e7, small1000 (by omega), ?_⟩
      · rw [m8, l8]
        show 3 + 3 * 0 ≤ _
        decide
      · exact ⟨_, _, _, _, rfl, same_put (s7.trans s8) hD, upd_same, by rw [List.length_append, l2]; rfl⟩
  · rintro σ H2 ⟨x, y, z, acc, rfl, s2, e2, l2⟩
    exact ⟨_, rfl, D, acc, rfl, .inl ⟨SqL.of e2, fun u hu' => q _ _ (same_put s2 (s2.free hu'))⟩⟩

theorem unlock_same {H H' : Hp} {d : Addr} {u o : HO} (e : H d = some u) (s : Same (upd H d o) H') : Same H (upd H' d u) := fun b x hb => by
  by_cases n : b = d
  · subst n
    rw [upd_same, ← e]
    exact hb
  · rw [upd_ne n]
    exact s _ _ (by rw [upd_ne n]; exact hb)
/-- a walk over the keys of all steps, d locked -/
theorem key_at {S : List (Stp × Addr)} {i : Nat} {k : Key} {v : V} (h : (kvs S)[i]? = some (k, v)) : ∃ p, S[i]? = some p ∧ k = Sum.inr (txt p.1.c) := by
  unfold kvs at h
  rw [List.getElem?_map] at h
  cases e : S[i]? with
  | none => rw [e] at h; cases h
  | some p =>
    rw [e] at h
    cases h
    exact ⟨p, rfl, rfl⟩
theorem kvs_val {S : List (Stp × Addr)} (nd : (S.map fun p => p.1.c).Nodup) {p : Stp × Addr} (hp : p ∈ S) : valV (kvs S) (Sum.inr (txt p.1.c) : Key) = some (.ref p.2) := by
  induction S with
  | nil => cases hp
  | cons x S ih =>
    have nd' := List.nodup_cons.mp (show ((x.1.c) :: S.map fun p => p.1.c).Nodup from nd)
    rcases List.mem_cons.mp hp with e | m
    · subst e
      exact valV_pos rfl
    · show valV (_ :: kvs S) _ = _
      rw [valV_neg]
      · exact ih nd'.2 m
      · intro e
        exact nd'.1 (List.mem_map.mpr ⟨p, m, (txt_inj (Sum.inr.inj e)).symm⟩)
theorem all_nd {h : Hall} {S : List (Stp × Addr)} (A : AllSteps h (S.map (·.1))) : (S.map fun p => p.1.c).Nodup := by
  have := A.nd
  rw [List.map_map] at this
  exact this
theorem all_few {h : Hall} (O : Okh h) {S : List (Stp × Addr)} (A : AllSteps h (S.map (·.1))) : S.length ≤ 243 := by
  have := few_steps O.1 O.2.2 A.nd A.reach
  rw [List.length_map] at this
  exact this
theorem get_locked {H' : Hp} {d : Addr} {od : Obj} {S : List (Stp × Addr)} (nd : (S.map fun p => p.1.c).Nodup) {p : Stp × Addr} (hp : p ∈ S) (e : H' d = some (.frz od (.dK (kvs S)))) : DGet H' d (.str (txt p.1.c)) (some (.ref p.2)) :=
  .inl ⟨kvs S, Sum.inr (txt p.1.c), .inr ⟨od, e⟩, rfl, (kvs_val nd hp).symm⟩
def spAnswers (K : PySem.W.Frag) : Sp := fun vs H Q _ => ∃ (v u : V) (h g : Hall), vs = [v, u] ∧ HlV K H v h ∧ HlV K H u g ∧ Okh h ∧ ∀ H' D acc S, Same H H' → H D = none → AllSteps h S → H' D = some (.lst acc) → acc.length = (atHall S g).length → Q (.ref D) H'
abbrev N25 : List Str := ["hall", "other", "steps", "choice"]
theorem sc25 : FnScope N25 ["hall", "other"] (defScope (top 25)) := ⟨rfl, rfl, rfl, by decide +kernel, rfl, by decide +kernel, by decide +kernel⟩
theorem at_len (S : List (Stp × Addr)) (g : Hall) : (S.filter fun p => decide (p.1.g = g)).length = (atHall (S.map (·.1)) g).length := by
  unfold atHall
  rw [List.filter_map, List.length_map]
  rfl
theorem ok_answers (G : Pg K mg) : FnOk P w K mg base CX0 6 G.answersTo.f G.answersTo.fd ["hall", "other"] (spAnswers K) := by
  refine G.answersTo.F.ok sc25 (fun vs H Q E h => ?_) (fun cdv A outer s H vs Q E hr h => ?_)
  · obtain ⟨v, u, h, g, rfl, _⟩ := h
    rfl
  obtain ⟨v, u, h, g, rfl, hp, hg, O, q⟩ := h
  have hr2 : Room 2 _ := hr.mono (by decide)
  have hu := hu_of hr
  have hu4 := hr.units
  refine ⟨_, pss_cons (ps_set (i := 2) sc25.nd rfl (Or.inr rfl) (pe_def G.allSteps (ok_all G) hr (pa_cons (pv 0) pa_nil)))
    (pss_one (ps_ret (pe_lock (pe_lc (own := [("choice", 3)]) (g := gName 3) rfl sc25.nd (pi_keys (pv 2)) (blkOk_by (N := N25) (sc := defScope (top 25)) (by decide +kernel))
      (fun _ _ _ _ _ => pg_name (i := 3) sc25.nd rfl (Or.inl rfl)) (fun _ _ _ _ _ => pts_one (pt_cmpR (r := rEqD K) (ta := tFld K (tDGet (tVar 2) (tVar 3)) "hall") (op_eqD hu4) (pe_fld (pe_dget hu (pv 2) (pv 3) (fun _ _ => rfl)) rfl) (pv 1) (nomark _)))
      (fun _ _ _ _ _ => pe_def G.changeOf (ok_change G) hr2 (pa_cons (pe_dget hu (pv 2) (pv 3) (fun _ _ => rfl)) pa_nil)))))), ?_⟩
  refine ⟨_, rfl, v, h, rfl, hp, O, fun H1 d S s1 nd1 sS A => ?_⟩
  have few := all_few O A
  have nd := all_nd A
  refine ⟨d, _, sS.1, trivial, fun od => ?_⟩
  have st1 : ∀ p ∈ S, StpAt K G.C (upd H1 d (.frz od (.dK (kvs S)))) p.2 p.1 := fun p hp => (sS.2 p hp).putD sS.1
  have hg1 : HlV K (upd H1 d (.frz od (.dK (kvs S)))) u g := (Tp.upd sS.1 (fun _ z => nomatch z) (fun _ _ z => nomatch z)).hl (dp_same s1 _ _ hg)
  have ed : (upd H1 d (.frz od (.dK (kvs S)))) d = some (.frz od (.dK (kvs S))) := upd_same
  refine ⟨_, rfl, d, od, rfl, .inl ⟨kvs S, ed, fun D hD => lc_out walk_keys (fun i H' => Same (upd H1 d (.frz od (.dK (kvs S)))) H' ∧ ∃ acc, H' D = some (.lst acc) ∧ acc.length = ((S.take i).filter fun p => decide (p.1.g = g)).length)
    ⟨same_new hD, [], upd_same, rfl⟩ (fun i H' _ p => p.1 _ _ ed) ?_ ?_⟩⟩
  · rintro i _ _ H' hi ⟨s2, acc, e2, l2⟩ ⟨rfl, k, x, hk, rfl⟩
    obtain ⟨p, hp, rfl⟩ := key_at hk
    have pS := List.mem_of_getElem? hp
    obtain ⟨dx, vh, i1, j1⟩ := (st1 p pS).same s2
    have R := A.reach p.1 (List.mem_map.mpr ⟨p, pS, rfl⟩)
    have one := R.one
    refine ⟨rfl, _, rfl, _, rfl, d, _, rfl, get_locked nd pS (s2 _ _ ed), p.2, G.C, dx, _, _, rfl, i1, G.cl, G.nh, flds_h _ _ _, _, rfl, dH p.1.g, dH g, j1, dp_same s2 _ _ hg1, dH_shaped _, dH_shaped _, _, rfl, ?_⟩
    rw [dH_eqv]
    have sz : acc.length < sizeLine := by
      rw [l2]
      exact small1000 (Nat.le_trans flt_len (by omega))
    cases c : decide (p.1.g = g) with
    | true =>
      refine iteT ⟨_, rfl, _, rfl, d, _, rfl, get_locked nd pS (s2 _ _ ed), p.2, p.1, rfl, ⟨dx, vh, i1, j1⟩, R.good O.1, ⟨(R.good O.1).can, by rw [one]; exact O.2.1, by rw [one]; exact O.2.2⟩, fun H3 y s3 => ?_⟩
      refine ⟨acc, s3 _ _ e2, sz, same_put (s2.trans s3) hD, _, upd_same, ?_⟩
      rw [flt_next hp, if_pos c, List.length_append, List.length_append, l2]
      rfl
    | false =>
      refine iteF ⟨s2, acc, e2, ?_⟩
      rw [flt_next hp, if_neg (by rw [c]; exact Bool.false_ne_true), List.append_nil]
      exact l2
  · rintro H' ⟨s2, acc, e2, l2⟩
    have l2 : acc.length = ((S.take (kvs S).length).filter fun p => decide (p.1.g = g)).length := l2
    rw [show (kvs S).length = S.length from List.length_map _, List.take_length, at_len] at l2
    have nDd : D ≠ d := fun z => by rw [z, ed] at hD; cases hD
    refine ⟨s2 _ _ ed, q _ D acc _ (s1.trans (unlock_same sS.1 s2)) ?_ A (by rw [upd_ne nDd]; exact e2) l2⟩
    exact s1.free (by rw [upd_ne nDd] at hD; exact hD)

def spCount (K : PySem.W.Frag) : Sp := fun vs H Q _ => ∃ (v u : V) (h g : Hall), vs = [v, u] ∧ HlV K H v h ∧ HlV K H u g ∧ Okh h ∧ Okh g ∧ h.1 = g.1 ∧ ∀ H' S, Same H H' → AllSteps h S → Q (.int ((atHall S g).length : Nat)) H'
theorem sc26 : FnScope ["hall", "other"] ["hall", "other"] (defScope (top 26)) := ⟨rfl, rfl, rfl, by decide +kernel, rfl, by decide +kernel, by decide +kernel⟩
theorem ok_count (G : Pg K mg) : FnOk P w K mg base CX0 7 G.countAns.f G.countAns.fd ["hall", "other"] (spCount K) := by
  refine G.countAns.F.ok sc26 (fun vs H Q E h => ?_) (fun cdv A outer s H vs Q E hr h => ?_)
  · obtain ⟨v, u, h, g, rfl, _⟩ := h
    rfl
  obtain ⟨v, u, h, g, rfl, hp, hg, O, O', en, q⟩ := h
  refine ⟨_, pss_cons (ps_expr (pe_def G.needHalls (ok_needHalls G) hr (pa_cons (pv 0) (pa_cons (pv 1) pa_nil)))) (pss_one (ps_ret (pe_bi G.zlen call_len_seq (pa_cons (pe_def G.answersTo (ok_answers G) hr (pa_cons (pv 0) (pa_cons (pv 1) pa_nil))) pa_nil)))), ?_⟩
  refine ⟨_, rfl, _, rfl, v, u, h, g, rfl, hp, hg, O, O', en, fun H1 s1 => ⟨_, rfl, _, rfl, v, u, h, g, rfl, dp_same s1 _ _ hp, dp_same s1 _ _ hg, O, fun H2 D acc S s2 nD A eD lD => ⟨D, acc, rfl, .inl (SqL.of eD), ?_⟩⟩⟩
  rw [lD]
  exact q _ _ (s1.trans s2) A
end
end TF
set_option autoImplicit false
set_option Elab.async false
set_option maxRecDepth 100000
namespace TF
open PySem L2 PyProof.Rows
theorem class_len {h : Hall} {L M : List Hall} (a : IsClass h L) (b : IsClass h M) : L.length = M.length := nodup_eq a.1 b.1 fun x => (a.2 x).trans (b.2 x).symm
theorem class_sort {h : Hall} {L M : List Hall} (a : IsClass h L) (b : IsClass h M) : sortH L = sortH M := sortH_eq ((List.perm_ext_iff_of_nodup a.1 b.1).mpr fun x => (a.2 x).trans (b.2 x).symm)
theorem sortH_len (L : List Hall) : (sortH L).length = L.length := (sortH_perm L).length_eq
theorem sortH_nodup {L : List Hall} (h : L.Nodup) : (sortH L).Nodup := (sortH_perm L).nodup_iff.mpr h
section
variable {P : Program} {w : World} {K : PySem.W.Frag} {mg : Str → Option Value} {base : Heap}
def spMembersOf (K : PySem.W.Frag) : Sp := fun vs H Q _ => ∃ (v : V) (h : Hall), vs = [v] ∧ HlV K H v h ∧ Okh h ∧ ∀ H' D ys L, Same H H' → H D = none → IsClass h L → H' D = some (.lst ys) → DpAll K H' ys ((sortH L).map dH) → Q (.ref D) H'
abbrev N28 : List Str := ["hall", "steps", "choice"]
theorem sc28 : FnScope N28 ["hall"] (defScope (top 28)) := ⟨rfl, rfl, rfl, by decide +kernel, rfl, by decide +kernel, by decide +kernel⟩
theorem ok_membersOf (G : Pg K mg) : FnOk P w K mg base CX0 6 G.membersOf.f G.membersOf.fd ["hall"] (spMembersOf K) := by
  refine G.membersOf.F.ok sc28 (fun vs H Q E h => ?_) (fun cdv A outer s H vs Q E hr h => ?_)
  · obtain ⟨v, h, rfl, _⟩ := h
    rfl
  obtain ⟨v, h, rfl, hp, O, q⟩ := h
  have hu := hu_of hr
  refine ⟨_, pss_cons (ps_set (i := 1) sc28.nd rfl (Or.inr rfl) (pe_def G.allSteps (ok_all G) hr (pa_cons (pv 0) pa_nil)))
    (pss_one (ps_ret (pe_bi G.zsorted (cr_sortS rfl (room_w hr)) (pa_cons (pe_ty G.zset (cr_setH rfl (room_w hr)) (pa_cons (pe_lock (pe_lc (own := [("choice", 2)]) (g := gName 2) (tt := tYes) (te := tFld K (tDGet (tVar 1) (tVar 2)) "hall") rfl sc28.nd (pi_keys (pv 1))
      (blkOk_by (N := N28) (sc := defScope (top 28)) (by decide +kernel)) (fun _ _ _ _ _ => pg_name (i := 2) sc28.nd rfl (Or.inl rfl)) (fun _ _ _ _ _ => pts_nil) (fun _ _ _ _ _ => pe_fld (pe_dget hu (pv 1) (pv 2) (fun _ _ => rfl)) rfl))) pa_nil)) pa_nil)))), ?_⟩
  refine ⟨_, rfl, v, h, rfl, hp, O, fun H1 d S s1 nd1 sS A => ?_⟩
  have few := all_few O A
  have nd := all_nd A
  refine ⟨d, _, sS.1, trivial, fun od => ?_⟩
  have st1 : ∀ p ∈ S, StpAt K G.C (upd H1 d (.frz od (.dK (kvs S)))) p.2 p.1 := fun p hp => (sS.2 p hp).putD sS.1
  have ed : (upd H1 d (.frz od (.dK (kvs S)))) d = some (.frz od (.dK (kvs S))) := upd_same
  refine ⟨_, rfl, d, od, rfl, .inl ⟨kvs S, ed, fun D hD => lc_out walk_keys (fun i H' => Same (upd H1 d (.frz od (.dK (kvs S)))) H' ∧ ∃ acc, H' D = some (.lst acc) ∧ DpAll K H' acc ((S.take i).map fun p => dH p.1.g))
    ⟨same_new hD, [], upd_same, .nil⟩ (fun i H' _ p => p.1 _ _ ed) ?_ ?_⟩⟩
  · rintro i _ _ H' hi ⟨s2, acc, e2, d2⟩ ⟨rfl, k, x, hk, rfl⟩
    obtain ⟨p, hp, rfl⟩ := key_at hk
    have pS := List.mem_of_getElem? hp
    obtain ⟨dx, vh, i1, j1⟩ := (st1 p pS).same s2
    have sz : acc.length < sizeLine := by
      rw [dps_len d2, List.length_map]
      refine small1000 ?_
      rw [List.length_take]
      omega
    refine ⟨rfl, _, rfl, _, rfl, d, _, rfl, get_locked nd pS (s2 _ _ ed), p.2, G.C, dx, _, _, rfl, i1, G.cl, G.nh, flds_h _ _ _, acc, e2, sz, same_put s2 hD, _, upd_same, ?_⟩
    rw [take_next hp, List.map_append]
    have : DpAll K H' (acc ++ [vh]) (((S.take i).map (fun p => p.1.g) ++ [p.1.g]).map dH) := by
      rw [List.map_append, List.map_map]
      exact dps_app d2 (dps_one j1)
    have := hls_put (ys := acc ++ [vh]) e2 this
    rw [List.map_append, List.map_map] at this
    exact this
  · rintro H2 ⟨s2, acc, e2, d2⟩
    have d2 : DpAll K H2 acc ((S.take (kvs S).length).map fun p => dH p.1.g) := d2
    rw [show (kvs S).length = S.length from List.length_map _, List.take_length] at d2
    have nDd : D ≠ d := fun z => by rw [z, ed] at hD; cases hD
    have s3 : Same H (upd H2 d (.dK (kvs S))) := s1.trans (unlock_same sS.1 s2)
    have d3 : DpAll K (upd H2 d (.dK (kvs S))) acc (((S.map fun p => p.1.g)).map dH) := by
      refine (Tp.upd (s2 _ _ ed) (fun _ z => nomatch z) (fun _ _ z => nomatch z)).hls ?_
      rw [List.map_map]
      exact d2
    refine ⟨s2 _ _ ed, D, acc, S.map (fun p : Stp × Addr => p.1.g), rfl, SqL.of (by rw [upd_ne nDd]; exact e2), d3, ?_, fun a o L na N mem => ?_⟩
    · rw [List.length_map]
      omega
    refine ⟨a, L, rfl, N, fun r ys nr ly dr => ?_⟩
    have s4 := s3.trans ((same_new (o := rawO a o) na).trans (same_new (o := .lst ys) nr))
    refine q _ r ys (L.map fun x : Addr × Hall => x.2) s4 ((s3.trans (same_new (o := rawO a o) na)).free nr) ⟨N.nd, fun g => ?_⟩ upd_same (dps_same (same_new nr) _ _ dr)
    rw [mem g, ← A.hall_mem O.1, List.map_map]
    rfl

def spMembers (K : PySem.W.Frag) : Sp := fun vs H Q _ => ∃ (v : V) (h : Hall), vs = [v] ∧ HlV K H v h ∧ Okh h ∧ ∀ H' u L, Same H H' → IsClass h L → Dp K H' u (.tuple ((sortH L).map dH)) → Q u H'
theorem sc29 : FnScope ["hall"] ["hall"] (defScope (top 29)) := ⟨rfl, rfl, rfl, by decide +kernel, rfl, by decide +kernel, by decide +kernel⟩
theorem ok_members (G : Pg K mg) : FnOk P w K mg base CX0 7 G.members.f G.members.fd ["hall"] (spMembers K) := by
  refine G.members.F.ok sc29 (fun vs H Q E h => ?_) (fun cdv A outer s H vs Q E hr h => ?_)
  · obtain ⟨v, h, rfl, _⟩ := h
    rfl
  obtain ⟨v, h, rfl, hp, O, q⟩ := h
  have hr5 : Room 5 _ := hr.mono (by decide)
  refine ⟨_, pss_cons (ps_expr (pe_def G.needHall (ok_needHall G) hr5 (pa_cons (pv 0) pa_nil))) (pss_one (ps_ret (pe_ty G.ztuple call_tuple_of (pa_cons (pe_def G.membersOf (ok_membersOf G) hr (pa_cons (pv 0) pa_nil)) pa_nil)))), ?_⟩
  refine ⟨_, rfl, v, h, rfl, hp, O, fun H1 s1 => ⟨_, rfl, v, h, rfl, dp_same s1 _ _ hp, O, fun H2 D ys L s2 nD C eD dD => ⟨D, ys, rfl, .inl ⟨SqL.of eD, fun t ht => ?_⟩⟩⟩⟩
  have s3 : Same H2 (upd H2 t (.tup ys)) := same_new ht
  exact q _ _ L (s1.trans (s2.trans s3)) C (.tup (SqT.of upd_same) (dps_same s3 _ _ dD))

def spLeast (K : PySem.W.Frag) : Sp := fun vs H Q _ => ∃ (v : V) (h : Hall), vs = [v] ∧ HlV K H v h ∧ Okh h ∧ ∀ H' u L m, Same H H' → IsClass h L → (sortH L)[0]? = some m → HlV K H' u m → Q u H'
theorem sc32 : FnScope ["hall"] ["hall"] (defScope (top 32)) := ⟨rfl, rfl, rfl, by decide +kernel, rfl, by decide +kernel, by decide +kernel⟩
theorem hl_get {H : Hp} {ys : List V} {hs : List Hall} {i : Nat} {m : Hall} (d : DpAll K H ys (hs.map dH)) (e : hs[i]? = some m) : ∃ u, ys[i]? = some u ∧ HlV K H u m := dps_get' d (by rw [List.getElem?_map, e]; rfl)
theorem class_pos {h : Hall} {L : List Hall} (C : IsClass h L) : 0 < L.length := List.length_pos_of_mem ((C.2 h).mpr .refl)
theorem ok_least (G : Pg K mg) : FnOk P w K mg base CX0 7 G.leastMem.f G.leastMem.fd ["hall"] (spLeast K) := by
  refine G.leastMem.F.ok sc32 (fun vs H Q E h => ?_) (fun cdv A outer s H vs Q E hr h => ?_)
  · obtain ⟨v, h, rfl, _⟩ := h
    rfl
  obtain ⟨v, h, rfl, hp, O, q⟩ := h
  have hr5 : Room 5 _ := hr.mono (by decide)
  refine ⟨_, pss_cons (ps_expr (pe_def G.needHall (ok_needHall G) hr5 (pa_cons (pv 0) pa_nil))) (pss_one (ps_ret (pe_ix ix_list (pe_def G.membersOf (ok_membersOf G) hr (pa_cons (pv 0) pa_nil)) pe_int (fun _ _ => rfl)))), ?_⟩
  refine ⟨_, rfl, v, h, rfl, hp, O, fun H1 s1 => ⟨_, rfl, v, h, rfl, dp_same s1 _ _ hp, O, fun H2 D ys L s2 nD C eD dD => ?_⟩⟩
  have l0 : 0 < (sortH L).length := by rw [sortH_len]; exact class_pos C
  obtain ⟨u, hu, hv⟩ := hl_get dD (List.getElem?_eq_getElem l0)
  exact ⟨D, _, _, u, rfl, rfl, SqL.of eD, atI_nat (j := 0) hu, q _ _ L _ (s1.trans s2) C (List.getElem?_eq_getElem l0) hv⟩

def spMemberAt (K : PySem.W.Frag) : Sp := fun vs H Q _ => ∃ (v : V) (h : Hall) (k : Nat), vs = [v, .int k] ∧ HlV K H v h ∧ Okh h ∧ (∀ L, IsClass h L → k < L.length) ∧ ∀ H' u L m, Same H H' → IsClass h L → (sortH L)[k]? = some m → HlV K H' u m → Q u H'
theorem sc33 : FnScope ["hall", "number", "found"] ["hall", "number"] (defScope (top 33)) := ⟨rfl, rfl, rfl, by decide +kernel, rfl, by decide +kernel, by decide +kernel⟩
theorem ok_memberAt (G : Pg K mg) : FnOk P w K mg base CX0 7 G.memberAt.f G.memberAt.fd ["hall", "number"] (spMemberAt K) := by
  refine G.memberAt.F.ok sc33 (fun vs H Q E h => ?_) (fun cdv A outer s H vs Q E hr h => ?_)
  · obtain ⟨v, h, k, rfl, _⟩ := h
    rfl
  obtain ⟨v, h, k, rfl, hp, O, hk, q⟩ := h
  have hr5 : Room 5 _ := hr.mono (by decide)
  have hr1 : Room 1 _ := hr.mono (by decide)
  refine ⟨_, pss_cons (ps_expr (pe_def G.needHall (ok_needHall G) hr5 (pa_cons (pv 0) pa_nil))) (pss_cons (ps_set (i := 2) sc33.nd rfl (Or.inl rfl) (pe_def G.membersOf (ok_membersOf G) hr (pa_cons (pv 0) pa_nil)))
    (pss_cons (ps_if (PW.pt (pw_or (pt_not (pt_val (pe_def G.isInt (ok_isInt G) hr1 (pa_cons (pv 1) pa_nil)))) (pw_or1 (pt_not (pt_chain op_le op_lt pe_int (pv 1) (pe_bi G.zlen call_len_seq (pa_cons (pv 2) pa_nil))))))) pss_never pss_nil)
    (pss_one (ps_ret (pe_ix ix_list (pv 2) (pv 1) (fun _ _ => rfl)))))), ?_⟩
  refine ⟨_, rfl, v, h, rfl, hp, O, fun H1 s1 => ⟨_, rfl, v, h, rfl, dp_same s1 _ _ hp, O, fun H2 D ys L s2 nD C eD dD => ?_⟩⟩
  have lk := hk L C
  have l0 : k < (sortH L).length := by rw [sortH_len]; exact lk
  have ly : ys.length = (sortH L).length := by rw [dps_len dD, List.length_map]
  obtain ⟨u, hu, hv⟩ := hl_get dD (List.getElem?_eq_getElem l0)
  refine ⟨_, rfl, k, rfl, true, rfl, iteF ?_⟩
  refine ⟨_, rfl, _, _, rfl, rfl, true, bl_true (by omega), iteT ⟨_, rfl, D, ys, rfl, .inl (SqL.of eD), _, _, rfl, rfl, true, bl_true (by omega), iteF ?_⟩⟩
  exact ⟨_, rfl, _, rfl, D, _, _, u, rfl, rfl, SqL.of eD, atI_nat hu, q _ _ L _ (s1.trans s2) C (List.getElem?_eq_getElem l0) hv⟩

def spNumberOf (K : PySem.W.Frag) : Sp := fun vs H Q _ => ∃ (v : V) (h : Hall), vs = [v] ∧ HlV K H v h ∧ Okh h ∧ ∀ H' L j, Same H H' → IsClass h L → (sortH L)[j]? = some h → Q (.int (j : Nat)) H'
theorem sc34 : FnScope ["hall"] ["hall"] (defScope (top 34)) := ⟨rfl, rfl, rfl, by decide +kernel, rfl, by decide +kernel, by decide +kernel⟩
theorem not_ahead {M : List Hall} {h : Hall} {j : Nat} (nd : M.Nodup) (e : M[j]? = some h) : ∀ (m : Nat) (z : PyData), m < j → (M.map dH)[m]? = some z → PyData.eqv z (dH h) = false := fun m z hm hz => by
  rw [List.getElem?_map] at hz
  cases c : M[m]? with
  | none => rw [c] at hz; cases hz
  | some g =>
    rw [c] at hz
    cases hz
    rw [dH_eqv]
    refine decide_eq_false fun z => ?_
    subst z
    obtain ⟨h1, e1⟩ := List.getElem?_eq_some_iff.mp c
    obtain ⟨h2, e2⟩ := List.getElem?_eq_some_iff.mp e
    have := (List.getElem_inj nd).mp (e1.trans e2.symm)
    omega
theorem ok_numberOf (G : Pg K mg) : FnOk P w K mg base CX0 7 G.numberOf.f G.numberOf.fd ["hall"] (spNumberOf K) := by
  refine G.numberOf.F.ok sc34 (fun vs H Q E h => ?_) (fun cdv A outer s H vs Q E hr h => ?_)
  · obtain ⟨v, h, rfl, _⟩ := h
    rfl
  obtain ⟨v, h, rfl, hp, O, q⟩ := h
  have hr5 : Room 5 _ := hr.mono (by decide)
  refine ⟨_, pss_cons (ps_expr (pe_def G.needHall (ok_needHall G) hr5 (pa_cons (pv 0) pa_nil))) (pss_one (ps_ret (pe_bm PySem.F.plainAttrs_list PySem.F.slot_list_index PySem.F.type_list_index (mt_indexD (room_v hr)) (pe_def G.membersOf (ok_membersOf G) hr (pa_cons (pv 0) pa_nil)) (pa_cons (pv 0) pa_nil)))), ?_⟩
  refine ⟨_, rfl, v, h, rfl, hp, O, fun H1 s1 => ⟨_, rfl, v, h, rfl, dp_same s1 _ _ hp, O, fun H2 D ys L s2 nD C eD dD => ?_⟩⟩
  obtain ⟨j, hj⟩ := List.getElem?_of_mem ((sortH_perm L).mem_iff.mpr ((C.2 h).mpr .refl))
  refine ⟨.inl ⟨rfl, _, SqL.of eD⟩, _, rfl, D, v, dH h, (sortH L).map dH, j, dH h, rfl, rfl, .lst (SqL.of eD) dD, dp_same (s1.trans s2) _ _ hp, dHs_shapedL _, dH_shaped _, ?_, ?_, not_ahead (sortH_nodup C.1) hj, q _ L j (s1.trans s2) C hj⟩
  · rw [List.getElem?_map, hj]
    rfl
  · rw [dH_eqv]
    exact decide_eq_true rfl

def spNumIn (K : PySem.W.Frag) : Sp := fun vs H Q _ => ∃ (v : V) (h : Hall), vs = [v] ∧ HlV K H v h ∧ Okh h ∧ ∀ H' n, Same H H' → (∀ L, IsClass h L → n = L.length) → Q (.int (n : Nat)) H'
abbrev N30 : List Str := ["hall", "steps", "own", "choice"]
theorem sc30 : FnScope N30 ["hall"] (defScope (top 30)) := ⟨rfl, rfl, rfl, by decide +kernel, rfl, by decide +kernel, by decide +kernel⟩
theorem ok_numIn (G : Pg K mg) : FnOk P w K mg base CX0 6 G.numIn.f G.numIn.fd ["hall"] (spNumIn K) := by
  refine G.numIn.F.ok sc30 (fun vs H Q E h => ?_) (fun cdv A outer s H vs Q E hr h => ?_)
  · obtain ⟨v, h, rfl, _⟩ := h
    rfl
  obtain ⟨v, h, rfl, hp, O, q⟩ := h
  have hu := hu_of hr
  have hu4 := hr.units
  refine ⟨_, pss_cons (ps_set (i := 1) sc30.nd rfl (Or.inr rfl) (pe_def G.allSteps (ok_all G) hr (pa_cons (pv 0) pa_nil)))
    (pss_cons (ps_lock (ps_setLc (i := 2) (own := [("choice", 3)]) (g := gName 3) rfl sc30.nd rfl rfl (sw_true rfl rfl rfl (by decide +kernel)) (pi_keys (pv 1)) (blkOk_by (N := N30) (sc := defScope (top 30)) (by decide +kernel))
      (fun _ _ _ _ _ => pg_name (i := 3) sc30.nd rfl (Or.inl rfl)) (fun _ _ _ _ _ => pts_one (pt_cmpR (r := rEqD K) (ta := tFld K (tDGet (tVar 1) (tVar 3)) "hall") (op_eqD hu4) (pe_fld (pe_dget hu (pv 1) (pv 3) (fun _ _ => rfl)) rfl) (pv 0) (nomark _)))
      (fun _ _ _ _ _ => pv 3)))
    (pss_one (ps_ret (pe_op op_fdivN (pe_bi G.zlen call_lenD (pa_cons (pv 1) pa_nil)) (pe_bi G.zlen call_len_seq (pa_cons (pv 2) pa_nil)))))), ?_⟩
  refine ⟨_, rfl, v, h, rfl, hp, O, fun H1 d S s1 nd1 sS A => ?_⟩
  have few := all_few O A
  have nd := all_nd A
  refine ⟨d, _, sS.1, trivial, fun od => ?_⟩
  have st1 : ∀ p ∈ S, StpAt K G.C (upd H1 d (.frz od (.dK (kvs S)))) p.2 p.1 := fun p hp => (sS.2 p hp).putD sS.1
  have hg1 : HlV K (upd H1 d (.frz od (.dK (kvs S)))) v h := (Tp.upd sS.1 (fun _ z => nomatch z) (fun _ _ z => nomatch z)).hl (dp_same s1 _ _ hp)
  have ed : (upd H1 d (.frz od (.dK (kvs S)))) d = some (.frz od (.dK (kvs S))) := upd_same
  refine ⟨_, rfl, d, od, rfl, .inl ⟨kvs S, ed, fun D hD => lc_out walk_keys (fun i H' => Same (upd H1 d (.frz od (.dK (kvs S)))) H' ∧ ∃ acc, H' D = some (.lst acc) ∧ acc.length = ((S.take i).filter fun p => decide (p.1.g = h)).length)
    ⟨same_new hD, [], upd_same, rfl⟩ (fun i H' _ p => p.1 _ _ ed) ?_ ?_⟩⟩
  · rintro i _ _ H' hi ⟨s2, acc, e2, l2⟩ ⟨rfl, k, x, hk, rfl⟩
    obtain ⟨p, hp, rfl⟩ := key_at hk
    have pS := List.mem_of_getElem? hp
    obtain ⟨dx, vh, i1, j1⟩ := (st1 p pS).same s2
    refine ⟨rfl, _, rfl, _, rfl, d, _, rfl, get_locked nd pS (s2 _ _ ed), p.2, G.C, dx, _, _, rfl, i1, G.cl, G.nh, flds_h _ _ _, _, rfl, dH p.1.g, dH h, j1, dp_same s2 _ _ hg1, dH_shaped _, dH_shaped _, _, rfl, ?_⟩
    rw [dH_eqv]
    have sz : acc.length < sizeLine := by
      rw [l2]
      exact small1000 (Nat.le_trans flt_len (by omega))
    cases c : decide (p.1.g = h) with
    | true =>
      refine iteT ⟨_, rfl, acc, e2, sz, same_put s2 hD, _, upd_same, ?_⟩
      rw [flt_next hp, if_pos c, List.length_append, List.length_append, l2]
      rfl
    | false =>
      refine iteF ⟨s2, acc, e2, ?_⟩
      rw [flt_next hp, if_neg (by rw [c]; exact Bool.false_ne_true), List.append_nil]
      exact l2
  · rintro H' ⟨s2, acc, e2, l2⟩
    have l2 : acc.length = ((S.take (kvs S).length).filter fun p => decide (p.1.g = h)).length := l2
    rw [show (kvs S).length = S.length from List.length_map _, List.take_length, at_len] at l2
    have nDd : D ≠ d := fun z => by rw [z, ed] at hD; cases hD
    have s3 := s1.trans (unlock_same sS.1 s2)
    have pos := A.own_pos
    have le : (atHall (S.map (·.1)) h).length ≤ 243 := by
      have : (atHall (S.map (·.1)) h).length ≤ (S.map (·.1)).length := List.length_filter_le _ _
      rw [List.length_map] at this
      omega
    refine ⟨s2 _ _ ed, _, rfl, d, kvs S, rfl, upd_same, _, rfl, D, acc, rfl, .inl (SqL.of (by rw [upd_ne nDd]; exact e2)), _, _, rfl, rfl, ⟨by rw [l2]; omega, by rw [l2]; omega⟩, ?_⟩
    have e : ((kvs S).length : Int).fdiv (acc.length : Int) = (((S.map (·.1)).length / (atHall (S.map (·.1)) h).length : Nat) : Int) := by
      rw [l2, show (kvs S).length = (S.map (·.1)).length by unfold kvs; rw [List.length_map, List.length_map]]
      rw [Int.fdiv_eq_ediv_of_nonneg _ (Int.natCast_nonneg _)]
      rfl
    show Q (.int (((kvs S).length : Int).fdiv (acc.length : Int))) _
    rw [e]
    exact q _ _ s3 fun L C => A.div O.1 C
theorem sc31 : FnScope ["hall"] ["hall"] (defScope (top 31)) := ⟨rfl, rfl, rfl, by decide +kernel, rfl, by decide +kernel, by decide +kernel⟩
theorem ok_countMem (G : Pg K mg) : FnOk P w K mg base CX0 7 G.countMem.f G.countMem.fd ["hall"] (spNumIn K) := by
  refine G.countMem.F.ok sc31 (fun vs H Q E h => ?_) (fun cdv A outer s H vs Q E hr h => ?_)
  · obtain ⟨v, h, rfl, _⟩ := h
    rfl
  obtain ⟨v, h, rfl, hp, O, q⟩ := h
  have hr5 : Room 5 _ := hr.mono (by decide)
  refine ⟨_, pss_cons (ps_expr (pe_def G.needHall (ok_needHall G) hr5 (pa_cons (pv 0) pa_nil))) (pss_one (ps_ret (pe_def G.numIn (ok_numIn G) hr (pa_cons (pv 0) pa_nil)))), ?_⟩
  exact ⟨_, rfl, v, h, rfl, hp, O, fun H1 s1 => ⟨_, rfl, v, h, rfl, dp_same s1 _ _ hp, O, fun H2 n s2 hn => q _ _ (s1.trans s2) hn⟩⟩
end
end TF
set_option autoImplicit false
set_option Elab.async false
set_option maxRecDepth 100000
namespace TF
open PySem L2 PyProof.Rows
/-! ### drawing -/
def RowAt (H : Hp) (l a : Addr) : Prop := ∃ i r q : Int, H l = some (.lst [.ref a, .int i, .int r, .int q]) ∧ 0 ≤ i ∧ 0 ≤ r ∧ r < 2147483647
/-- all but l stands -/
def Sb (l : Addr) (H H' : Hp) : Prop := ∀ b o, b ≠ l → H b = some o → H' b = some o
theorem Sb.refl (l : Addr) (H : Hp) : Sb l H H := fun _ _ _ e => e
theorem Sb.trans {l : Addr} {H H1 H2 : Hp} (a : Sb l H H1) (b : Sb l H1 H2) : Sb l H H2 := fun c o n e => b c o n (a c o n e)
theorem Sb.of {l : Addr} {H H' : Hp} (s : Same H H') : Sb l H H' := fun b o _ e => s b o e
theorem Sb.tp {l a : Addr} {H H' : Hp} (s : Sb l H H') (r : RowAt H l a) : Tp H H' := fun b => by
  obtain ⟨i, r, q, e, _⟩ := r
  constructor
  · intro xs h
    exact s b _ (fun z => by rw [z, e] at h; cases h) h
  · intro o xs h
    exact s b _ (fun z => by rw [z, e] at h; cases h) h
theorem Sb.sq {K : PySem.W.Frag} {l a : Addr} {H H' : Hp} {xs : List V} (s : Sb l H H') (n : a ≠ l) (h : SqL K H a xs) : SqL K H' a xs := by
  rcases h with (h | ⟨o, h⟩) | h
  · exact .inl (.inl (s _ _ n h))
  · exact .inl (.inr ⟨o, s _ _ n h⟩)
  · exact .inr h
theorem RowAt.same {H H' : Hp} {l a : Addr} (r : RowAt H l a) (s : Same H H') : RowAt H' l a := by
  obtain ⟨i, r, q, e, h⟩ := r
  exact ⟨i, r, q, s _ _ e, h⟩
structure Drawn (K : PySem.W.Frag) (H : Hp) (l a : Addr) (ns : List Int) : Prop where
  row : RowAt H l a
  src : SqL K H a (ns.map V.int)
  ne : ∀ H', Sb l H H' → SqL K H' a (ns.map V.int)
theorem Drawn.same {K : PySem.W.Frag} {H H' : Hp} {l a : Addr} {ns : List Int} (d : Drawn K H l a ns) (s : Same H H') : Drawn K H' l a ns := ⟨d.row.same s, s.seq d.src, fun _ s2 => d.ne _ ((Sb.of s).trans s2)⟩
section
variable {P : Program} {w : World} {K : PySem.W.Frag} {mg : Str → Option Value} {base : Heap}
def spTaken (K : PySem.W.Frag) : Sp := fun vs H Q _ => ∃ (l a : Addr) (ns : List Int) (m : Nat), vs = [.ref l, .int m] ∧ Drawn K H l a ns ∧ 0 < m ∧ m ≤ 2000 ∧ ∀ (H' : Hp) (k : Nat), Sb l H H' → Drawn K H' l a ns → k < m → Q (.int k) H'
abbrev N36 : List Str := ["_law_row", "_law_many", "_law_found", "_law_cell"]
theorem sc36 : FnScope N36 ["_law_row", "_law_many"] (defScope (top 36)) := ⟨rfl, rfl, rfl, by decide +kernel, rfl, by decide +kernel, by decide +kernel⟩
theorem mod_nat (x : Int) {m : Nat} (h : 0 < m) : ∃ k : Nat, x % (m : Int) = k ∧ k < m := by
  have h1 := Int.emod_nonneg x (show (m : Int) ≠ 0 by omega)
  have h2 := Int.emod_lt_of_pos x (show (0 : Int) < m by omega)
  exact ⟨(x % (m : Int)).toNat, by omega, by omega⟩
theorem ok_taken (G : Pg K mg) : FnOk P w K mg base CX0 1 G.lTaken.f G.lTaken.fd ["_law_row", "_law_many"] (spTaken K) := by
  refine G.lTaken.F.ok sc36 (fun vs H Q E h => ?_) (fun cdv A outer s H vs Q E hr h => ?_)
  · obtain ⟨l, a, ns, m, rfl, _⟩ := h
    rfl
  obtain ⟨l, a, ns, m, rfl, ⟨⟨i, r, z, e, hi, hr0, hr1⟩, src, ne⟩, hm, hm2, q⟩ := h
  have sd : ∀ {H1 : Hp} {o : HO}, Sb l H H1 → Sb l H (upd H1 l o) := fun s b x n eb => by
    rw [upd_ne n]
    exact s b x n eb
  have fin : ∀ (H' : Hp) (k : Nat) (i r z : Int), Sb l H H' → H' l = some (.lst [.ref a, .int i, .int r, .int z]) → 0 ≤ i → 0 ≤ r → r < 2147483647 → k < m → Q (.int k) H' := fun H' k i r z s e h1 h2 h3 hk => q H' k s ⟨⟨i, r, z, e, h1, h2, h3⟩, ne _ s, fun _ s2 => ne _ (s.trans s2)⟩ hk
  have mm : (0 : Int) < m := by omega
  have dv : (m : Int) ≠ 0 ∧ (m : Int).natAbs < 1073741824 := ⟨by omega, by omega⟩
  have rr : ∀ x : Int, 0 ≤ x % 2147483647 ∧ x % 2147483647 < 2147483647 := fun x => ⟨Int.emod_nonneg _ (by decide), Int.emod_lt_of_pos _ (by decide)⟩
  refine ⟨_, pss_cons (ps_if (pt_cmpR op_gt (pe_ix ix_list (pv 0) pe_int (fun _ _ => rfl)) pe_int (nomark _))
      (pss_cons (ps_set (i := 2) sc36.nd rfl (Or.inl rfl) (pe_op op_mod (pe_ty G.zint call_int1 (pa_cons (pe_ix ix_list (pv 0) pe_int (fun _ _ => rfl)) pa_nil)) (pv 1)))
      (pss_cons (ps_asg (pe_op op_fdivN (pe_ix ix_list (pv 0) pe_int (fun _ _ => rfl)) (pv 1)) (pg_sub (pv 0) pe_int set_list)) (pss_one (ps_ret (pv 2))))) pss_nil)
    (pss_cons (ps_asg (pe_op op_add (pe_ix ix_list (pv 0) pe_int (fun _ _ => rfl)) pe_int) (pg_sub (pv 0) pe_int set_list))
    (pss_cons (ps_if (pt_cmpR op_gt (pe_ix ix_list (pv 0) pe_int (fun _ _ => rfl)) (pe_bi G.zlen call_len_seq (pa_cons (pe_ix ix_list (pv 0) pe_int (fun _ _ => rfl)) pa_nil)) (nomark _))
      (pss_cons (ps_asg (pe_op op_mod (pe_ty G.zint call_int1 (pa_cons (pe_op op_add (pe_op op_mul (pe_ix ix_list (pv 0) pe_int (fun _ _ => rfl)) pe_int) pe_int) pa_nil)) pe_int) (pg_sub (pv 0) pe_int set_list))
      (pss_one (ps_ret (pe_op op_mod (pe_ty G.zint call_int1 (pa_cons (pe_op op_fdivN (pe_ix ix_list (pv 0) pe_int (fun _ _ => rfl)) pe_int) pa_nil)) (pv 1))))) pss_nil)
    (pss_cons (ps_set (i := 3) sc36.nd rfl (Or.inl rfl) (pe_ix ix_list (pe_ix ix_list (pv 0) pe_int (fun _ _ => rfl)) (pe_op op_sub (pe_ix ix_list (pv 0) pe_int (fun _ _ => rfl)) pe_int) (fun _ _ => rfl)))
    (pss_cons (ps_asg (pe_op op_mod (pe_ty G.zint call_int1 (pa_cons (pe_op op_add (pe_op op_add (pe_op op_mul (pe_ix ix_list (pv 0) pe_int (fun _ _ => rfl)) pe_int) (pv 3)) pe_int) pa_nil)) pe_int) (pg_sub (pv 0) pe_int set_list))
    (pss_cons (ps_if (pt_cmpR op_ge (pv 3) (pe_op op_pow pe_int pe_int) (nomark _)) (pss_one (ps_asg (pe_op op_fdivN (pv 3) (pv 1)) (pg_sub (pv 0) pe_int set_list))) pss_nil)
    (pss_one (ps_ret (pe_op op_mod (pe_ty G.zint call_int1 (pa_cons (pv 3) pa_nil)) (pv 1))))))))), ?_⟩
  refine ⟨_, rfl, l, _, _, .int z, rfl, rfl, SqL.of e, atI_nat (j := 3) rfl, _, _, rfl, rfl, _, rfl, ?_⟩
  refine ite2 (fun _ => ?_) (fun _ => ?_)
  · obtain ⟨k, ek, lk⟩ := mod_nat z hm
    refine ⟨_, rfl, l, _, _, .int z, rfl, rfl, SqL.of e, atI_nat (j := 3) rfl, .inl ⟨z, rfl, _, rfl, _, _, rfl, rfl, mm, ?_⟩⟩
    refine ⟨_, rfl, l, _, _, .int z, rfl, rfl, SqL.of e, atI_nat (j := 3) rfl, _, rfl, _, _, rfl, rfl, dv, ?_⟩
    refine ⟨_, rfl, l, _, _, 3, rfl, rfl, e, rfl, ?_⟩
    refine ⟨_, rfl, ?_⟩
    show Q (.int (z % (m : Int))) _
    rw [ek]
    exact fin _ k i r _ (sd (Sb.refl _ _)) upd_same hi hr0 hr1 lk
  refine ⟨_, rfl, l, _, _, .int i, rfl, rfl, SqL.of e, atI_nat (j := 1) rfl, _, _, rfl, rfl, ?_⟩
  refine ⟨_, rfl, l, _, _, 1, rfl, rfl, e, rfl, ?_⟩
  have e1 : (upd H l (.lst [.ref a, .int (i + 1), .int r, .int z])) l = some (.lst [.ref a, .int (i + 1), .int r, .int z]) := upd_same
  have s1 : Sb l H (upd H l (.lst [.ref a, .int (i + 1), .int r, .int z])) := sd (Sb.refl _ _)
  have src1 := ne _ s1
  refine ⟨_, rfl, l, _, _, .int (i + 1), rfl, rfl, SqL.of e1, atI_nat (j := 1) rfl, _, rfl, l, _, _, .ref a, rfl, rfl, SqL.of e1, atI_nat (j := 0) rfl, a, _, rfl, .inl src1, _, _, rfl, rfl, _, rfl, ?_⟩
  refine ite2 (fun _ => ?_) (fun c => ?_)
  · refine ⟨_, rfl, l, _, _, .int r, rfl, rfl, SqL.of e1, atI_nat (j := 2) rfl, _, _, rfl, rfl, .inl ⟨by omega, by omega⟩, _, _, rfl, rfl, .inl ⟨_, rfl, _, _, rfl, rfl, (by show (0 : Int) < 2147483647; decide), ?_⟩⟩
    refine ⟨_, rfl, l, _, _, 2, rfl, rfl, e1, rfl, ?_⟩
    refine ⟨_, rfl, l, _, _, _, rfl, rfl, SqL.of upd_same, atI_nat (j := 2) rfl, _, _, rfl, rfl, ⟨by decide, by decide⟩, .inl ⟨_, rfl, _, rfl, _, _, rfl, rfl, mm, ?_⟩⟩
    obtain ⟨k, ek, lk⟩ := mod_nat (((r * 48271 + 11) % 2147483647).fdiv 7) hm
    show Q (.int ((((r * 48271 + 11) % 2147483647).fdiv 7) % (m : Int))) _
    rw [ek]
    exact fin _ k (i + 1) _ z (sd s1) upd_same (by omega) (rr _).1 (rr _).2 lk
  have c' : ¬ (i + 1 > ((ns.map V.int).length : Nat)) := fun t => c (decide_eq_true t)
  have hn : i.toNat < ns.length := by
    rw [List.length_map] at c'
    omega
  have at1 : atI (ns.map V.int) (i + 1 - 1) = some (.int ns[i.toNat]) := by
    have ei : i + 1 - 1 = ((i.toNat : Nat) : Int) := by omega
    rw [ei]
    refine atI_nat ?_
    rw [List.getElem?_map, List.getElem?_eq_getElem hn]
    rfl
  refine ⟨_, rfl, l, _, _, .ref a, rfl, rfl, SqL.of e1, atI_nat (j := 0) rfl, _, rfl, l, _, _, .int (i + 1), rfl, rfl, SqL.of e1, atI_nat (j := 1) rfl, _, _, rfl, rfl, a, _, _, _, rfl, rfl, src1, at1, ?_⟩
  generalize ns[i.toNat] = cell
  refine ⟨_, rfl, l, _, _, .int r, rfl, rfl, SqL.of e1, atI_nat (j := 2) rfl, _, _, rfl, rfl, .inl ⟨by omega, by omega⟩, _, rfl, _, _, rfl, rfl, _, _, rfl, rfl, .inl ⟨_, rfl, _, _, rfl, rfl, (by show (0 : Int) < 2147483647; decide), ?_⟩⟩
  refine ⟨_, rfl, l, _, _, 2, rfl, rfl, e1, rfl, ?_⟩
  refine ⟨_, rfl, _, _, rfl, rfl, ⟨by decide, by decide, by decide⟩, _, _, rfl, rfl, _, rfl, ?_⟩
  obtain ⟨k, ek, lk⟩ := mod_nat cell hm
  refine ite2 (fun _ => ?_) (fun _ => ?_)
  · refine ⟨_, rfl, _, rfl, _, _, rfl, rfl, dv, _, rfl, l, _, _, 3, rfl, rfl, upd_same, rfl, ?_⟩
    refine ⟨_, rfl, .inl ⟨_, rfl, _, rfl, _, _, rfl, rfl, mm, ?_⟩⟩
    show Q (.int (cell % (m : Int))) _
    rw [ek]
    exact fin _ k (i + 1) _ _ (sd (sd s1)) upd_same (by omega) (rr _).1 (rr _).2 lk
  · refine ⟨_, rfl, .inl ⟨_, rfl, _, rfl, _, _, rfl, rfl, mm, ?_⟩⟩
    show Q (.int (cell % (m : Int))) _
    rw [ek]
    exact fin _ k (i + 1) _ _ (sd s1) upd_same (by omega) (rr _).1 (rr _).2 lk
end
end TF
set_option autoImplicit false
set_option Elab.async false
set_option maxRecDepth 100000
namespace TF
open PySem L2 PyProof.Rows
theorem Drawn.sb {K : PySem.W.Frag} {H0 H' : Hp} {l a : Addr} {ns : List Int} (d : Drawn K H0 l a ns) (s : Sb l H0 H') (r : RowAt H' l a) : Drawn K H' l a ns := ⟨r, d.ne _ s, fun _ s2 => d.ne _ (s.trans s2)⟩
theorem PrL.sb {K : PySem.W.Frag} {H H' : Hp} {l a D : Addr} {ps : List (Nat × Nat)} (p : PrL K H D ps) (s : Sb l H H') (r : RowAt H l a) (n : D ≠ l) : PrL K H' D ps := by
  obtain ⟨acc, e, d⟩ := p
  exact ⟨acc, s _ _ n e, (s.tp r).prs d⟩
theorem row_ne {H : Hp} {l a D : Addr} (r : RowAt H l a) (h : H D = none) : D ≠ l := fun z => by
  obtain ⟨_, _, _, e, _⟩ := r
  rw [z, e] at h
  cases h
structure Lv (K : PySem.W.Frag) (H0 H' : Hp) (l a D : Addr) (ps : List (Nat × Nat)) : Prop where
  sb : Sb l H0 H'
  row : RowAt H' l a
  acc : PrL K H' D ps
theorem sb_new {l D : Addr} {H0 H' : Hp} {o : HO} (s : Sb l H0 H') (h : H0 D = none) : Sb l H0 (upd H' D o) := fun b x n e => by
  rw [upd_ne (ne_of_none e h)]
  exact s b x n e
theorem Lv.start {K : PySem.W.Frag} {H0 : Hp} {l a D : Addr} (r : RowAt H0 l a) (h : H0 D = none) : Lv K H0 (upd H0 D (.lst [])) l a D [] :=
  ⟨sb_new (Sb.refl _ _) h, r.same (same_new h), PrL.none⟩
theorem Lv.moved {K : PySem.W.Frag} {H0 H' H2 : Hp} {l a D : Addr} {ps : List (Nat × Nat)} (v : Lv K H0 H' l a D ps) (n : D ≠ l) (s : Sb l H' H2) (r : RowAt H2 l a) : Lv K H0 H2 l a D ps :=
  ⟨v.sb.trans s, r, v.acc.sb s v.row n⟩
theorem Lv.same {K : PySem.W.Frag} {H0 H' H2 : Hp} {l a D : Addr} {ps : List (Nat × Nat)} (v : Lv K H0 H' l a D ps) (s : Same H' H2) : Lv K H0 H2 l a D ps :=
  ⟨v.sb.trans (Sb.of s), v.row.same s, v.acc.same s⟩
theorem Lv.add {K : PySem.W.Frag} {H0 H' : Hp} {l a D : Addr} {ps : List (Nat × Nat)} {acc : List V} {x : V} {p : Nat × Nat} (v : Lv K H0 H' l a D ps) (h : H0 D = none) (n : D ≠ l) (e : H' D = some (.lst acc)) (d : DpAll K H' acc (ps.map dP)) (hx : PrV K H' x p) :
    Lv K H0 (upd H' D (.lst (acc ++ [x]))) l a D (ps ++ [p]) := by
  refine ⟨sb_new v.sb h, ?_, PrL.add e d hx⟩
  obtain ⟨i, r, q, er, k⟩ := v.row
  exact ⟨i, r, q, by rw [upd_ne n.symm]; exact er, k⟩
def PO (n : Nat) (ps : List (Nat × Nat)) : Prop := ps.Nodup ∧ ∀ p ∈ ps, p.1 < p.2 ∧ p.2 < n
theorem PO.can {n : Nat} {ps : List (Nat × Nat)} (o : PO n ps) : Can (n, sortP ps) := can_filter_of (sortP_eq o.1 o.2)
theorem PO.few {n : Nat} {ps : List (Nat × Nat)} (h : n ≤ 5) (o : PO n ps) : ps.length ≤ 10 :=
  Nat.le_trans (nodup_le o.1 fun p hp => mem_allPairs.mpr (o.2 p hp)) (pairs_len h)
theorem PO.sub {n : Nat} {ps qs : List (Nat × Nat)} (s : ps.Sublist qs) (o : PO n qs) : PO n ps := ⟨o.1.sublist s, fun p hp => o.2 p (s.subset hp)⟩
theorem po_all (n : Nat) : PO n (allPairs n) := ⟨allPairs_nodup n, fun _ hp => mem_allPairs.mp hp⟩
theorem nodup_on {α β : Type} (f : α → β) : ∀ {l : List α}, (l.map f).Nodup → l.Nodup
  | [], _ => .nil
  | a :: l, h => by
    rw [List.map_cons, List.nodup_cons] at h
    exact List.nodup_cons.mpr ⟨fun m => h.1 (List.mem_map.mpr ⟨a, m, rfl⟩), nodup_on f h.2⟩
theorem rng_nodup (s n : Nat) : (List.range' s n).Nodup := List.nodup_range'
theorem po_steps (n s k : Nat) (h : s + k < n ∨ k = 0) : PO n ((List.range' s k).map fun x => (x, x + 1)) := by
  refine ⟨nodup_on (·.1) ?_, fun p hp => ?_⟩
  · rw [List.map_map]
    have : (List.range' s k).map ((fun p : Nat × Nat => p.1) ∘ fun x => (x, x + 1)) = List.range' s k := by
      show (List.range' s k).map id = _
      rw [List.map_id]
    rw [this]
    exact rng_nodup _ _
  · obtain ⟨x, hx, rfl⟩ := List.mem_map.mp hp
    have := List.mem_range'_1.mp hx
    exact ⟨Nat.lt_succ_self x, by show x + 1 < n; omega⟩
theorem po_snd {n : Nat} {k : Nat} {ps : List (Nat × Nat)} (h : ps.map (·.2) = List.range' 1 k) (hk : 1 + k ≤ n ∨ k = 0) (lt : ∀ p ∈ ps, p.1 < p.2) : PO n ps := by
  refine ⟨nodup_on (·.2) (by rw [h]; exact rng_nodup _ _), fun p hp => ⟨lt p hp, ?_⟩⟩
  have m : p.2 ∈ List.range' 1 k := by
    rw [← h]
    exact List.mem_map.mpr ⟨p, hp, rfl⟩
  have := List.mem_range'_1.mp m
  omega
theorem po_app {n : Nat} {ps qs : List (Nat × Nat)} (a : PO n ps) (b : PO n qs) (d : ∀ p ∈ ps, p ∉ qs) : PO n (ps ++ qs) := by
  refine ⟨List.nodup_append.mpr ⟨a.1, b.1, fun p hp q hq e => d p hp (e ▸ hq)⟩, fun p hp => ?_⟩
  rcases List.mem_append.mp hp with m | m
  · exact a.2 p m
  · exact b.2 p m
section
variable {P : Program} {w : World} {K : PySem.W.Frag} {mg : Str → Option Value} {base : Heap}
def spLHall (K : PySem.W.Frag) : Sp := fun vs H Q _ => ∃ (l a : Addr) (ns : List Int) (m : Nat), vs = [.ref l, .int m] ∧ Drawn K H l a ns ∧ 0 < m ∧ m ≤ 5 ∧ ∀ (H' : Hp) (v : V) (h : Hall), Sb l H H' → Drawn K H' l a ns → HlV K H' v h → Okh h → Q v H'
abbrev N39 : List Str := ["_law_row", "_law_most", "_law_n", "_law_way", "_law_pairs_here", "_law_pair", "_law_x"]
theorem sc39 : FnScope N39 ["_law_row", "_law_most"] (defScope (top 39)) := ⟨rfl, rfl, rfl, by decide +kernel, rfl, by decide +kernel, by decide +kernel⟩
theorem ok_lHall (G : Pg K mg) : FnOk P w K mg base CX0 2 G.lHall.f G.lHall.fd ["_law_row", "_law_most"] (spLHall K) := by
  refine G.lHall.F.ok sc39 (fun vs H Q E h => ?_) (fun cdv A outer s H vs Q E hr h => ?_)
  · obtain ⟨l, a, ns, m, rfl, _⟩ := h
    rfl
  obtain ⟨l, a, ns, m, rfl, dr, hm, hm5, q⟩ := h
  have last : ∃ tR, PSs (cxOf CX0 P w K mg base N39 "_law_hall" (defScope (top 39)) G.lHall.f cdv A outer s H E).nox ((defBody (top 39)).drop 2) tR ∧
      ∀ (n : Nat) (way : Int) (H' : Hp) (D : Addr) (ps : List (Nat × Nat)), 1 ≤ n → n ≤ 5 → Sb l H H' → Drawn K H' l a ns → PrL K H' D ps → PO n ps →
        tR { nx := fun _ H' => Q .non H', rt := Q } [some (.ref l), some (.int m), some (.int n), some (.int way), some (.ref D), none, none] H' := by
    refine ⟨_, pss_one (ps_ret (pe_tup (pa_cons (pv 2) (pa_cons (pe_ty G.ztuple call_tuple_of (pa_cons (pe_bi G.zsorted (cr_sortG ord_P (room_x hr)) (pa_cons (pv 4) pa_nil)) pa_nil)) pa_nil)))), ?_⟩
    intro n way H1 D ps h1 h5 s1 d1 ⟨acc, e1, f1⟩ po
    refine ⟨_, rfl, _, rfl, D, acc, ps, rfl, SqL.of e1, f1, fun r ys nr ly dy => ⟨r, ys, rfl, .inl ⟨SqL.of upd_same, fun t ht => ⟨by show 2 ≤ sizeLine; decide, fun t2 ht2 => ?_⟩⟩⟩⟩
    have s2 : Same H1 (upd H1 r (.lst ys)) := same_new nr
    have s3 : Same (upd H1 r (.lst ys)) (upd (upd H1 r (.lst ys)) t (.tup ys)) := same_new ht
    have s4 : Same (upd (upd H1 r (.lst ys)) t (.tup ys)) (upd (upd (upd H1 r (.lst ys)) t (.tup ys)) t2 (.tup [.int n, .ref t])) := same_new ht2
    have s14 := s2.trans (s3.trans s4)
    exact q _ _ (n, sortP ps) (s1.trans (Sb.of s14)) (d1.same s14) (hlV_of (SqT.of upd_same) (same_t s4 (SqT.of upd_same)) (dps_same s14 _ _ dy)) ⟨po.can, h1, h5⟩
  obtain ⟨tR, hR, kR⟩ := last
  refine ⟨_, pss_cons (ps_asg (pe_tup (pa_cons (pe_op op_add pe_int (pe_def G.lTaken (ok_taken G) hr (pa_cons (pv 0) (pa_cons (pv 1) pa_nil)))) (pa_cons (pe_def G.lTaken (ok_taken G) hr (pa_cons (pv 0) (pa_cons pe_int pa_nil))) (pa_cons (pe_lst pa_nil) pa_nil))))
      (pg_tup rfl (pgs_cons (pg_name (i := 2) sc39.nd rfl (Or.inl rfl)) (pgs_cons (pg_name (i := 3) sc39.nd rfl (Or.inr rfl)) (pgs_cons (pg_name (i := 4) sc39.nd rfl (Or.inl rfl)) pgs_nil)))))
    (pss_cons (ps_if (pt_cmpR op_lt (pv 3) pe_int (nomark _))
      (pss_one (ps_setLc (i := 4) (own := [("_law_pair", 5)]) (g := gName 5) rfl sc39.nd rfl rfl (sw_true rfl rfl rfl (by decide +kernel)) (pi_list (pe_def G.lPairs (ok_lPairs G) hr (pa_cons (pv 2) pa_nil))) (blkOk_by (N := N39) (sc := defScope (top 39)) (by decide +kernel))
        (fun _ _ _ _ _ => pg_name (i := 5) sc39.nd rfl (Or.inl rfl)) (fun _ _ _ _ _ => pts_one (pt_cmpR op_le (pe_def G.lTaken (ok_taken G) hr (pa_cons (pv 0) (pa_cons pe_int pa_nil))) (pv 3) (nomark _))) (fun _ _ _ _ _ => pv 5)))
      (pss_one (ps_if (pt_cmpR op_eq (pv 3) pe_int (nomark _))
        (pss_one (ps_set (i := 4) sc39.nd rfl (Or.inl rfl) (pe_op op_cat (pe_lc (own := [("_law_x", 6)]) (g := gName 6) (tt := tYes) rfl sc39.nd (pi_range1 rfl G.zrange (pa_cons (pe_op op_sub (pv 2) pe_int) pa_nil)) (blkOk_by (N := N39) (sc := defScope (top 39)) (by decide +kernel))
          (fun _ _ _ _ _ => pg_name (i := 6) sc39.nd rfl (Or.inl rfl)) (fun _ _ _ _ _ => pts_nil) (fun _ _ _ _ _ => pe_tup (pa_cons (pv 6) (pa_cons (pe_op op_add (pv 6) pe_int) pa_nil))))
          (pe_ifExp (pt_cmpR op_gt (pv 2) pe_int (nomark _)) (pe_lst (pa_cons (pe_tup (pa_cons pe_int (pa_cons (pe_op op_sub (pv 2) pe_int) pa_nil))) pa_nil)) (pe_lst pa_nil)))))
        (pss_one (ps_if (pt_cmpR op_eq (pv 3) pe_int (nomark _))
          (pss_one (ps_setLc (i := 4) (own := [("_law_x", 6)]) (g := gName 6) (tt := tYes) rfl sc39.nd rfl rfl (sw_true rfl rfl rfl (by decide +kernel)) (pi_range2 rfl G.zrange (pa_cons pe_int (pa_cons (pv 2) pa_nil))) (blkOk_by (N := N39) (sc := defScope (top 39)) (by decide +kernel))
            (fun _ _ _ _ _ => pg_name (i := 6) sc39.nd rfl (Or.inl rfl)) (fun _ _ _ _ _ => pts_nil) (fun _ _ _ _ _ => pe_tup (pa_cons (pe_def G.lTaken (ok_taken G) hr (pa_cons (pv 0) (pa_cons (pv 6) pa_nil))) (pa_cons (pv 6) pa_nil)))))
          (pss_one (ps_set (i := 4) sc39.nd rfl (Or.inl rfl) (pe_op op_cat (pe_lc (own := [("_law_x", 6)]) (g := gName 6) (tt := tYes) rfl sc39.nd (pi_range2 rfl G.zrange (pa_cons pe_int (pa_cons (pv 2) pa_nil))) (blkOk_by (N := N39) (sc := defScope (top 39)) (by decide +kernel))
              (fun _ _ _ _ _ => pg_name (i := 6) sc39.nd rfl (Or.inl rfl)) (fun _ _ _ _ _ => pts_nil) (fun _ _ _ _ _ => pe_tup (pa_cons pe_int (pa_cons (pv 6) pa_nil))))
            (pe_lc (own := [("_law_x", 6)]) (g := gName 6) rfl sc39.nd (pi_range2 rfl G.zrange (pa_cons pe_int (pa_cons (pe_op op_sub (pv 2) pe_int) pa_nil))) (blkOk_by (N := N39) (sc := defScope (top 39)) (by decide +kernel))
              (fun _ _ _ _ _ => pg_name (i := 6) sc39.nd rfl (Or.inl rfl)) (fun _ _ _ _ _ => pts_one (pt_cmpR op_eq (pe_def G.lTaken (ok_taken G) hr (pa_cons (pv 0) (pa_cons pe_int pa_nil))) pe_int (nomark _))) (fun _ _ _ _ _ => pe_tup (pa_cons (pv 6) (pa_cons (pe_op op_add (pv 6) pe_int) pa_nil))))))))))))
    hR), ?_⟩
  refine ⟨_, rfl, _, rfl, l, a, ns, m, rfl, dr, hm, by omega, fun H1 k s1 d1 hk => ⟨_, _, rfl, rfl, ?_⟩⟩
  refine ⟨_, rfl, l, a, ns, 6, rfl, d1, by decide, by decide, fun H2 way s2 d2 hw => ⟨Nat.zero_le _, fun l0 h0 => ⟨by show 3 ≤ sizeLine; decide, fun t ht => ?_⟩⟩⟩
  have en : (1 : Int) + (k : Int) = ((k + 1 : Nat) : Int) := by omega
  have s3 : Same H2 (upd H2 l0 (.lst [])) := same_new h0
  have s4 : Same (upd H2 l0 (.lst [])) (upd (upd H2 l0 (.lst [])) t (.tup [.int (1 + k), .int (way : Nat), .ref l0])) := same_new ht
  refine ⟨t, _, rfl, SqT.of upd_same, rfl, .int ((k + 1 : Nat) : Int), _, congrArg (fun z => [V.int z, V.int (way : Nat), V.ref l0]) en, _, _, rfl, _, _, rfl, rfl, ?_⟩
  have sb : Sb l H (upd (upd H2 l0 (.lst [])) t (.tup [.int (1 + k), .int (way : Nat), .ref l0])) := s1.trans (s2.trans (Sb.of (s3.trans s4)))
  have d4 := d2.same (s3.trans s4)
  generalize upd (upd H2 l0 (.lst [])) t (.tup [.int (1 + k), .int (way : Nat), .ref l0]) = H4 at sb d4
  clear s3 s4 h0 ht d1 d2 s1 s2
  have h1 : 1 ≤ k + 1 := by omega
  have h5 : k + 1 ≤ 5 := by omega
  generalize k + 1 = n at h1 h5
  refine ⟨_, rfl, _, _, rfl, rfl, _, rfl, ?_⟩
  refine ite2 (fun _ => ?_) (fun _ => ?_)
  · refine ⟨_, rfl, n, rfl, h5, fun H5 R s5 nR pR => ?_⟩
    obtain ⟨rs, eR, fR⟩ := pR
    have d5 := d4.same s5
    have few : (allPairs n).length ≤ 10 := pairs_len h5
    refine ⟨R, rfl, ⟨_, SqL.of eR⟩, fun D hD => ?_⟩
    have nD := row_ne d5.row hD
    have nRl : R ≠ l := row_ne d4.row nR
    have nRD : R ≠ D := ne_of_none eR hD
    refine lc_out (walk_list (K := K) (a := R) (xs := rs)) (fun i H' => H' R = some (.lst rs) ∧ DpAll K H' rs ((allPairs n).map dP) ∧ ∃ ps, Lv K H5 H' l a D ps ∧ ps.Sublist ((allPairs n).take i))
      ⟨by rw [upd_ne nRD]; exact eR, dps_same (same_new hD) _ _ fR, [], Lv.start d5.row hD, List.nil_sublist _⟩ (fun i H' _ p => SqL.of p.1) ?_ ?_
    · rintro i y _ H' hi ⟨eR', fR', ps, v, sub⟩ ⟨rfl, hy⟩
      obtain ⟨p, hp1, hp2⟩ := pr_at fR' hy
      refine ⟨rfl, _, rfl, l, a, ns, 4, rfl, d5.sb v.sb v.row, by decide, by decide, fun H6 k s6 d6 hk => ⟨_, rfl, _, _, rfl, rfl, _, rfl, ?_⟩⟩
      have v6 := v.moved nD s6 d6.row
      have eR6 := s6 _ _ nRl eR'
      have fR6 := (s6.tp v.row).prs fR'
      have hp6 : PrV K H6 y p := (s6.tp v.row).pr hp2
      refine ite2 (fun _ => ?_) (fun _ => ?_)
      · obtain ⟨acc, ea, fa⟩ := v6.acc
        refine ⟨_, rfl, acc, ea, ?_, by rw [upd_ne nRD]; exact eR6, prs_put ea fR6, ps ++ [p], v6.add hD nD ea fa hp6, ?_⟩
        · rw [PrL.len fa]
          refine small1000 (Nat.le_trans sub.length_le ?_)
          rw [List.length_take]
          omega
        · rw [take_next hp1]
          exact sub.append (List.Sublist.refl _)
      · refine ⟨eR6, fR6, ps, v6, sub.trans ?_⟩
        rw [take_next hp1]
        exact List.sublist_append_left _ _
    · rintro H' ⟨_, _, ps, v, sub⟩
      exact kR n way H' D ps h1 h5 (sb.trans ((Sb.of s5).trans v.sb)) (d5.sb v.sb v.row) v.acc (PO.sub (sub.trans (List.take_sublist _ _)) (po_all n))
  refine ⟨_, rfl, rfl, _, rfl, ite2 (fun _ => ?_) (fun _ => ?_)⟩
  · refine ⟨_, rfl, _, _, rfl, rfl, _, rfl, by omega, by omega, fun D hD => ?_⟩
    have nD := row_ne d4.row hD
    refine lc_out walk_range (fun i H' => Same H4 H' ∧ PrL K H' D ((List.range' 0 i).map fun x => (x, x + 1))) ⟨same_new hD, PrL.none⟩ (fun _ _ _ _ => trivial) ?_ ?_
    · rintro i y _ H' hi ⟨s5, acc, e5, f5⟩ ⟨rfl, rfl⟩
      refine ⟨rfl, _, rfl, _, rfl, _, _, rfl, rfl, by show 2 ≤ sizeLine; decide, fun t ht => ?_⟩
      have s6 : Same H' (upd H' t (.tup [.int (0 + (i : Int)), .int (0 + (i : Int) + 1)])) := same_new ht
      refine ⟨acc, s6 _ _ e5, ?_, same_put (s5.trans s6) hD, ?_⟩
      · rw [PrL.len f5, List.length_map, List.length_range']
        exact small1000 (by omega)
      · rw [List.range'_concat, List.map_append]
        refine PrL.add (s6 _ _ e5) (dps_same s6 _ _ f5) (prV_of (p := (0 + 1 * i, 0 + 1 * i + 1)) ?_)
        have e1 : (0 : Int) + (i : Int) = ((0 + 1 * i : Nat) : Int) := by omega
        have e2 : (0 : Int) + (i : Int) + 1 = ((0 + 1 * i + 1 : Nat) : Int) := by omega
        show SqT K (upd H' t (.tup [.int (0 + (i : Int)), .int (0 + (i : Int) + 1)])) t [.int ((0 + 1 * i : Nat) : Int), .int ((0 + 1 * i + 1 : Nat) : Int)]
        rw [e2, e1]
        exact SqT.of upd_same
    · rintro H5 ⟨s5, acc, e5, f5⟩
      have ec : ((n : Int) - 1).toNat = n - 1 := by omega
      rw [ec] at f5
      have l5 : acc.length ≤ 4 := by
        rw [PrL.len f5, List.length_map, List.length_range']
        omega
      have po1 : PO n ((List.range' 0 (n - 1)).map fun x => (x, x + 1)) := po_steps n 0 (n - 1) (by omega)
      refine ⟨_, rfl, _, _, rfl, rfl, _, rfl, ite2 (fun c => ?_) (fun _ => ?_)⟩
      · have c2 : 2 < n := by
          have := of_decide_eq_true c
          omega
        refine ⟨_, rfl, _, _, rfl, rfl, by show 2 ≤ sizeLine; decide, fun t ht => ⟨by show 1 ≤ sizeLine; decide, fun e he => ?_⟩⟩
        have s6 : Same H5 (upd H5 t (.tup [.int 0, .int ((n : Int) - 1)])) := same_new ht
        have s7 := s6.trans (same_new (o := .lst [.ref t]) he)
        refine ⟨D, e, acc, [.ref t], rfl, rfl, s7 _ _ e5, upd_same, Nat.le_of_lt (small1000 (by show acc.length + 1 ≤ 1000; omega)), fun r hr' => ?_⟩
        have s8 := s7.trans (same_new (o := .lst (acc ++ [.ref t])) hr')
        have en1 : (n : Int) - 1 = ((n - 1 : Nat) : Int) := by omega
        have pt : PrV K (upd (upd (upd H5 t (.tup [.int 0, .int ((n : Int) - 1)])) e (.lst [.ref t])) r (.lst (acc ++ [.ref t]))) (.ref t) (0, n - 1) := by
          refine prV_of (same_t ((same_new (o := .lst [.ref t]) he).trans (same_new hr')) (SqT.of ?_))
          rw [upd_same]
          exact congrArg (fun z : Int => some (HO.tup [V.int 0, V.int z])) en1
        refine kR n way _ r (((List.range' 0 (n - 1)).map fun x => (x, x + 1)) ++ [(0, n - 1)]) h1 h5 (sb.trans (Sb.of (s5.trans s8))) (d4.same (s5.trans s8)) ⟨_, upd_same, ?_⟩ (po_app po1 ⟨by simp, fun p hp => ?_⟩ fun p hp hq => ?_)
        · rw [List.map_append]
          exact dps_app (dps_same s8 _ _ f5) (dps_one pt)
        · have : p = (0, n - 1) := by simpa using hp
          rw [this]
          exact ⟨by show 0 < n - 1; omega, by show n - 1 < n; omega⟩
        · have e : p = (0, n - 1) := by simpa using hq
          obtain ⟨x, hx, ex⟩ := List.mem_map.mp hp
          rw [e] at ex
          have e1 : x = 0 := congrArg Prod.fst ex
          have e2 : x + 1 = n - 1 := congrArg Prod.snd ex
          omega
      · refine ⟨Nat.zero_le _, fun e he => ?_⟩
        have s7 : Same H5 (upd H5 e (.lst [])) := same_new he
        refine ⟨D, e, acc, [], rfl, rfl, s7 _ _ e5, upd_same, Nat.le_of_lt (small1000 (by show acc.length + 0 ≤ 1000; omega)), fun r hr' => ?_⟩
        have s8 := s7.trans (same_new (o := .lst (acc ++ [])) hr')
        refine kR n way _ r ((List.range' 0 (n - 1)).map fun x => (x, x + 1)) h1 h5 (sb.trans (Sb.of (s5.trans s8))) (d4.same (s5.trans s8)) ⟨_, upd_same, ?_⟩ po1
        rw [List.append_nil]
        exact dps_same (s7.trans (same_new hr')) _ _ f5
  refine ⟨_, rfl, rfl, _, rfl, ite2 (fun _ => ?_) (fun _ => ?_)⟩
  · refine ⟨_, rfl, _, _, rfl, by omega, fun D hD => ?_⟩
    have nD := row_ne d4.row hD
    refine lc_out walk_range (fun i H' => ∃ ps, Lv K H4 H' l a D ps ∧ ps.map (·.2) = List.range' 1 i ∧ ∀ p ∈ ps, p.1 < p.2) ⟨[], Lv.start d4.row hD, rfl, fun _ h => by cases h⟩ (fun _ _ _ _ => trivial) ?_ ?_
    · rintro i y _ H' hi ⟨ps, v, em, lt⟩ ⟨rfl, rfl⟩
      have lps : ps.length = i := by
        have := congrArg List.length em
        rw [List.length_map, List.length_range'] at this
        exact this
      have e1 : (1 : Int) + (i : Int) = ((i + 1 : Nat) : Int) := by omega
      refine ⟨rfl, _, rfl, _, rfl, l, a, ns, i + 1, congrArg (fun z => [V.ref l, V.int z]) e1, d4.sb v.sb v.row, Nat.succ_pos _, by omega, fun H6 k s6 d6 hk => ⟨_, rfl, by show 2 ≤ sizeLine; decide, fun t ht => ?_⟩⟩
      have v6 := v.moved nD s6 d6.row
      have s7 : Same H6 (upd H6 t (.tup [.int (k : Nat), .int (1 + (i : Int))])) := same_new ht
      obtain ⟨acc, ea, fa⟩ := (v6.same s7).acc
      refine ⟨acc, ea, ?_, ps ++ [(k, i + 1)], (v6.same s7).add hD nD ea fa (prV_of ?_), ?_, ?_⟩
      · rw [PrL.len fa, lps]
        exact small1000 (by omega)
      · show SqT K (upd H6 t (.tup [.int (k : Nat), .int (1 + (i : Int))])) t [.int (k : Nat), .int ((i + 1 : Nat) : Int)]
        rw [e1]
        exact SqT.of upd_same
      · rw [List.map_append, em, List.range'_concat]
        show _ ++ [i + 1] = _ ++ [1 + 1 * i]
        rw [show i + 1 = 1 + 1 * i by omega]
      · intro p hp
        rcases List.mem_append.mp hp with m | m
        · exact lt p m
        · have : p = (k, i + 1) := by simpa using m
          rw [this]
          exact hk
    · rintro H' ⟨ps, v, em, lt⟩
      exact kR n way H' D ps h1 h5 (sb.trans v.sb) (d4.sb v.sb v.row) v.acc (po_snd em (by omega) lt)
  · refine ⟨_, rfl, _, _, rfl, by omega, fun D hD => ?_⟩
    have nD := row_ne d4.row hD
    refine lc_out walk_range (fun i H' => Same H4 H' ∧ PrL K H' D ((List.range' 1 i).map fun x => (0, x))) ⟨same_new hD, PrL.none⟩ (fun _ _ _ _ => trivial) ?_ ?_
    · rintro i y _ H' hi ⟨s5, acc, e5, f5⟩ ⟨rfl, rfl⟩
      refine ⟨rfl, _, rfl, by show 2 ≤ sizeLine; decide, fun t ht => ?_⟩
      have s6 : Same H' (upd H' t (.tup [.int 0, .int (1 + (i : Int))])) := same_new ht
      refine ⟨acc, s6 _ _ e5, ?_, same_put (s5.trans s6) hD, ?_⟩
      · rw [PrL.len f5, List.length_map, List.length_range']
        exact small1000 (by omega)
      · rw [List.range'_concat, List.map_append]
        refine PrL.add (s6 _ _ e5) (dps_same s6 _ _ f5) (prV_of (p := (0, 1 + 1 * i)) ?_)
        have e1 : (1 : Int) + (i : Int) = ((1 + 1 * i : Nat) : Int) := by omega
        show SqT K (upd H' t (.tup [.int 0, .int (1 + (i : Int))])) t [.int ((0 : Nat) : Int), .int ((1 + 1 * i : Nat) : Int)]
        rw [e1]
        exact SqT.of upd_same
    · rintro H5 ⟨s5, acc, e5, f5⟩
      have ec : ((n : Int) - 1).toNat = n - 1 := by omega
      rw [ec] at f5
      have l5 : acc.length ≤ 4 := by
        rw [PrL.len f5, List.length_map, List.length_range']
        omega
      have po1 : PO n ((List.range' 1 (n - 1)).map fun x => (0, x)) := po_snd (k := n - 1) (by rw [List.map_map]; show (List.range' 1 (n - 1)).map id = _; rw [List.map_id]) (by omega) (fun p hp => by
        obtain ⟨x, hx, rfl⟩ := List.mem_map.mp hp
        have := List.mem_range'_1.mp hx
        show 0 < x
        omega)
      have d5 := d4.same s5
      refine ⟨_, rfl, _, _, rfl, rfl, _, _, rfl, by omega, fun D2 hD2 => ?_⟩
      have nD2 := row_ne d5.row hD2
      have nDD : D ≠ D2 := ne_of_none e5 hD2
      refine lc_out walk_range (fun i H' => ∃ ps, Lv K H5 H' l a D2 ps ∧ ps.Sublist ((List.range' 1 i).map fun x => (x, x + 1))) ⟨[], Lv.start d5.row hD2, List.nil_sublist _⟩ (fun _ _ _ _ => trivial) ?_ ?_
      · rintro i y _ H' hi ⟨ps, v, sub⟩ ⟨rfl, rfl⟩
        refine ⟨rfl, _, rfl, l, a, ns, 2, rfl, d5.sb v.sb v.row, by decide, by decide, fun H6 k s6 d6 hk => ⟨rfl, _, rfl, ?_⟩⟩
        have v6 := v.moved nD2 s6 d6.row
        have er : (List.range' 1 (i + 1)).map (fun x => (x, x + 1)) = (List.range' 1 i).map (fun x => (x, x + 1)) ++ [(1 + 1 * i, 1 + 1 * i + 1)] := by
          rw [List.range'_concat, List.map_append]
          rfl
        refine ite2 (fun _ => ?_) (fun _ => ?_)
        · refine ⟨_, rfl, _, rfl, _, _, rfl, rfl, by show 2 ≤ sizeLine; decide, fun t ht => ?_⟩
          have s7 : Same H6 (upd H6 t (.tup [.int (1 + (i : Int)), .int (1 + (i : Int) + 1)])) := same_new ht
          obtain ⟨acc2, ea, fa⟩ := (v6.same s7).acc
          refine ⟨acc2, ea, ?_, ps ++ [(1 + 1 * i, 1 + 1 * i + 1)], (v6.same s7).add hD2 nD2 ea fa (prV_of ?_), ?_⟩
          · rw [PrL.len fa]
            refine small1000 (Nat.le_trans sub.length_le ?_)
            rw [List.length_map, List.length_range']
            omega
          · have e1 : (1 : Int) + (i : Int) = ((1 + 1 * i : Nat) : Int) := by omega
            have e2 : (1 : Int) + (i : Int) + 1 = ((1 + 1 * i + 1 : Nat) : Int) := by omega
            show SqT K (upd H6 t (.tup [.int (1 + (i : Int)), .int (1 + (i : Int) + 1)])) t [.int ((1 + 1 * i : Nat) : Int), .int ((1 + 1 * i + 1 : Nat) : Int)]
            rw [e2, e1]
            exact SqT.of upd_same
          · rw [er]
            exact sub.append (List.Sublist.refl _)
        · refine ⟨ps, v6, sub.trans ?_⟩
          rw [er]
          exact List.sublist_append_left _ _
      · rintro H6 ⟨ps, v, sub⟩
        have ec2 : ((n : Int) - 1 - 1).toNat = n - 2 := by omega
        rw [ec2] at sub
        have po2 : PO n ps := PO.sub sub (po_steps n 1 (n - 2) (by omega))
        have f2 := po2.few h5
        obtain ⟨acc2, ea, fa⟩ := v.acc
        have e6 := v.sb _ _ (row_ne d4.row hD) e5
        refine ⟨D, D2, acc, acc2, rfl, rfl, e6, ea, Nat.le_of_lt (small1000 (by rw [PrL.len fa]; omega)), fun r hr' => ?_⟩
        have s8 : Same H6 (upd H6 r (.lst (acc ++ acc2))) := same_new hr'
        refine kR n way _ r (((List.range' 1 (n - 1)).map fun x => (0, x)) ++ ps) h1 h5 (sb.trans ((Sb.of s5).trans (v.sb.trans (Sb.of s8)))) ((d5.sb v.sb v.row).same s8) ⟨_, upd_same, ?_⟩ (po_app po1 po2 fun p hp hq => ?_)
        · rw [List.map_append]
          exact dps_app (dps_same s8 _ _ ((v.sb.tp d5.row).prs f5)) (dps_same s8 _ _ fa)
        · obtain ⟨x, hx, ex⟩ := List.mem_map.mp hp
          obtain ⟨y, hy, ey⟩ := List.mem_map.mp (sub.subset hq)
          have := List.mem_range'_1.mp hy
          rw [← ex] at ey
          have e1 : y = 0 := congrArg Prod.fst ey
          omega
end
end TF
set_option autoImplicit false
set_option Elab.async false
set_option maxRecDepth 100000
namespace TF
open PySem L2 PyProof.Rows
def HlL (K : PySem.W.Frag) (H : Hp) (D : Addr) (hs : List Hall) : Prop := ∃ acc, H D = some (.lst acc) ∧ DpAll K H acc (hs.map dH)
theorem HlL.len {K : PySem.W.Frag} {H : Hp} {acc : List V} {hs : List Hall} (d : DpAll K H acc (hs.map dH)) : acc.length = hs.length := by rw [dps_len d, List.length_map]
theorem HlL.same {K : PySem.W.Frag} {H H' : Hp} {D : Addr} {hs : List Hall} (p : HlL K H D hs) (s : Same H H') : HlL K H' D hs := ⟨p.choose, s _ _ p.choose_spec.1, dps_same s _ _ p.choose_spec.2⟩
theorem HlL.keep {K : PySem.W.Frag} {H H' : Hp} {D : Addr} {hs : List Hall} (p : HlL K H D hs) (e : H' D = H D) (t : Tp H H') : HlL K H' D hs := ⟨p.choose, e.trans p.choose_spec.1, t.hls p.choose_spec.2⟩
theorem HlL.add {K : PySem.W.Frag} {H : Hp} {D : Addr} {hs : List Hall} {acc : List V} {v : V} {g : Hall} (e : H D = some (.lst acc)) (d : DpAll K H acc (hs.map dH)) (hv : HlV K H v g) : HlL K (upd H D (.lst (acc ++ [v]))) D (hs ++ [g]) := by
  refine ⟨_, upd_same, ?_⟩
  have : DpAll K H (acc ++ [v]) ((hs ++ [g]).map dH) := by
    rw [List.map_append]
    exact dps_app d (dps_one hv)
  exact hls_put e this
theorem NDict.at {P : Program} {w : World} {K : PySem.W.Frag} {H : Hp} {d : Addr} {ks : List Hall} (D : NDict P w K H d ks) : ∃ o, H d = some (rawO d o) := by
  obtain ⟨o, es, ep, xs, h1, _⟩ := D.ex
  exact ⟨o, h1⟩
theorem raw_ne {H : Hp} {d l : Addr} {o : Obj} {xs : List V} (e : H d = some (rawO d o)) (f : H l = some (.lst xs)) : d ≠ l := fun z => by
  rw [z, f] at e
  cases e
theorem hl_at {K : PySem.W.Frag} {H : Hp} {qs : List V} {hs : List Hall} {i : Nat} {x : V} (hq : DpAll K H qs (hs.map dH)) (hx : qs[i]? = some x) : ∃ g, hs[i]? = some g ∧ HlV K H x g := by
  obtain ⟨d, h1, h2⟩ := dps_get hq hx
  rw [List.getElem?_map] at h1
  cases e : hs[i]? with
  | none => rw [e] at h1; cases h1
  | some p =>
    rw [e] at h1
    cases h1
    exact ⟨p, rfl, h2⟩
/-- found: ks, on the way to bs -/
structure Found (h : Hall) (ks0 ks bs : List Hall) : Prop where
  nd : ks.Nodup
  reach : ∀ g ∈ ks, Reach h g
  old : ∀ g ∈ ks0, g ∈ ks
  new : ∀ g ∈ ks, g ∉ ks0 → g ∈ bs
  sub : ∀ g ∈ bs, g ∈ ks
  cnt : ks.length = ks0.length + bs.length
theorem Found.few {h : Hall} {ks0 ks bs : List Hall} (f : Found h ks0 ks bs) (O : Okh h) : ks.length ≤ 1024 := few_halls O.2.2 f.nd fun g hg => ⟨(f.reach g hg).one, (f.reach g hg).can O.1⟩
theorem Found.add {h : Hall} {ks0 ks bs : List Hall} (f : Found h ks0 ks bs) {g : Hall} (r : Reach h g) (n : g ∉ ks) : Found h ks0 (ks ++ [g]) (bs ++ [g]) where
  nd := List.nodup_append.mpr ⟨f.nd, by simp, fun x hx y hy e => by
    have : y = g := by simpa using hy
    exact n (by rw [← this, ← e]; exact hx)⟩
  reach := fun x hx => by
    rcases List.mem_append.mp hx with m | m
    · exact f.reach x m
    · have : x = g := by simpa using m
      rw [this]
      exact r
  old := fun x hx => List.mem_append_left _ (f.old x hx)
  new := fun x hx nx => by
    rcases List.mem_append.mp hx with m | m
    · exact List.mem_append_left _ (f.new x m nx)
    · exact List.mem_append_right _ m
  sub := fun x hx => by
    rcases List.mem_append.mp hx with m | m
    · exact List.mem_append_left _ (f.sub x m)
    · exact List.mem_append_right _ m
  cnt := by
    rw [List.length_append, List.length_append, f.cnt]
    omega
theorem class_of {h : Hall} {ks : List Hall} (nd : ks.Nodup) (r : ∀ g ∈ ks, Reach h g) (first : h ∈ ks) (cl : ∀ g ∈ ks, ∀ x, x < h.1 → turn g x ∈ ks) : IsClass h ks := by
  refine ⟨nd, fun g => ⟨r g, fun q => ?_⟩⟩
  induction q with
  | refl => exact first
  | step q hx ih => exact cl _ ih _ hx
section
variable {P : Program} {w : World} {K : PySem.W.Frag} {mg : Str → Option Value} {base : Heap}
def spLClass (P : Program) (w : World) (K : PySem.W.Frag) : Sp := fun vs H Q _ => ∃ (v : V) (h : Hall), vs = [v] ∧ HlV K H v h ∧ Okh h ∧ ∀ H' d ks, Same H H' → IsClass h ks → NDict P w K H' d ks → ks.length ≤ 1024 → Q (.ref d) H'
abbrev N42 : List Str := ["_law_hall_here", "_law_found", "_law_here", "_law_many", "_law_behind", "_law_one", "_law_x", "_law_other"]
theorem sc42 : FnScope N42 ["_law_hall_here"] (defScope (top 42)) := ⟨rfl, rfl, rfl, by decide +kernel, rfl, by decide +kernel, by decide +kernel⟩
theorem ok_lClass (G : Pg K mg) : FnOk P w K mg base CX0 3 G.lClass.f G.lClass.fd ["_law_hall_here"] (spLClass P w K) := by
  refine G.lClass.F.ok sc42 (fun vs H Q E h => ?_) (fun cdv A outer s H vs Q E hr h => ?_)
  · obtain ⟨v, h, rfl, _⟩ := h
    rfl
  obtain ⟨v, h, rfl, hp, O, q⟩ := h
  obtain ⟨a, b, qs, rfl, sa, sb, hq⟩ := hlV_open hp
  have hu := room_w hr
  refine ⟨_, pss_cons (ps_par3 (i := 1) (j := 2) (l := 3) (by rfl) sc42.nd rfl rfl rfl (by decide) (by decide) (by decide) rfl rfl rfl (pa_cons (pe_dispN hu (pv 0) pe_int) (pa_cons (pe_lst (pa_cons (pv 0) pa_nil)) (pa_cons pe_int pa_nil))) (by rfl))
    (pss_cons (ps_while PassesOwn.never (pt_cmpR (op_neNil hr.units0) (pv 2) (pe_lst pa_nil) (nomark _))
      (pss_cons (ps_par (by rfl) sc42.nd (i := 4) (j := 3) rfl rfl (by decide) rfl rfl (pa_cons (pe_lst pa_nil) (pa_cons (pe_op op_add (pv 3) pe_int) pa_nil)) (by rfl))
      (pss_cons (ps_for PassesOwn.never rfl (pi_list (pv 2)) (pg_name (i := 5) sc42.nd rfl (Or.inl rfl))
        (pss_one (ps_for PassesOwn.never rfl (pi_range1 rfl G.zrange (pa_cons (pe_ix ix_tup (pv 0) pe_int (fun _ _ => rfl)) pa_nil)) (pg_name (i := 6) sc42.nd rfl (Or.inl rfl))
          (pss_cons (ps_set (i := 7) sc42.nd rfl (Or.inl rfl) (pe_def G.lTurn (ok_lTurn G) hr (pa_cons (pv 5) (pa_cons (pv 6) pa_nil))))
          (pss_one (ps_if (pt_cmpR (op_notInN hu) (pv 7) (pv 1) (by rfl)) (pss_cons (ps_asg (pv 3) (pg_sub (pv 1) (pv 7) (set_N hu)))
            (pss_one (ps_expr (pe_bm PySem.F.plainAttrs_list PySem.F.slot_list_append PySem.F.type_list_append mt_append (pv 4) (pa_cons (pv 7) pa_nil))))) pss_nil))))))
      (pss_one (ps_set (i := 2) sc42.nd rfl (Or.inl rfl) (pv 4))))))
    (pss_one (ps_ret (pv 1)))), ?_⟩
  intro d hd
  refine ⟨_, rfl, upd_same, h, 0, dp_same (same_new hd) _ _ hp, rfl, fun ob N0 => ⟨_, rfl, by show 1 ≤ sizeLine; decide, fun l hl => ⟨_, _, _, rfl, ?_⟩⟩⟩
  have s1 : Same H (upd (upd H d (.dK [])) d (rawO d ob)) := same_put (same_new hd) hd
  have s2 : Same (upd (upd H d (.dK [])) d (rawO d ob)) (upd (upd (upd H d (.dK [])) d (rawO d ob)) l (.lst [.ref a])) := same_new hl
  refine ⟨fun m σ H' => ∃ (l : Addr) (hs ks : List Hall) (many : Int) (v4 v5 v6 v7 : Option V), σ = [some (.ref a), some (.ref d), some (.ref l), some (.int many), v4, v5, v6, v7] ∧ Same H H' ∧ NDict P w K H' d ks ∧ HlL K H' l hs ∧
      ks.Nodup ∧ (∀ g ∈ ks, Reach h g) ∧ h ∈ ks ∧ (∀ g ∈ hs, g ∈ ks) ∧ (∀ g ∈ ks, g ∉ hs → ∀ x, x < h.1 → turn g x ∈ ks) ∧ m = 2 * (1024 - ks.length) + min 1 hs.length, ⟨_, l, [h], [h], _, _, _, _, _, rfl, s1.trans s2, N0.same s2, ⟨_, upd_same, dps_one (dp_same (s1.trans s2) _ _ hp)⟩, by simp, ?_, by simp, fun g hg => hg, fun g hg ng => absurd hg ng, rfl⟩, ?_⟩
  · intro g hg
    have : g = h := by simpa using hg
    rw [this]
    exact .refl
  rintro m σ H2 ⟨l, hs, ks, many, v4, v5, v6, v7, rfl, s3, N, ⟨acc, eL, fL⟩, nd, re, fi, su, cl, rfl⟩
  have few0 : ks.length ≤ 1024 := few_halls O.2.2 nd fun g hg => ⟨(re g hg).one, (re g hg).can O.1⟩
  refine ⟨_, rfl, Nat.zero_le _, fun e he => ⟨l, e, acc, rfl, rfl, SqL.of (by rw [upd_ne (ne_of_none eL he)]; exact eL), SqL.of upd_same, _, rfl, ?_⟩⟩
  have se : Same H2 (upd H2 e (.lst [])) := same_new he
  have s4 := s3.trans se
  have N4 := N.same se
  have eL4 := se _ _ eL
  have fL4 := dps_same se _ _ fL
  rw [if_neg Bool.false_ne_true]
  generalize upd H2 e (.lst []) = H4 at s4 N4 eL4 fL4
  clear se he e
  cases hh : hs with
  | nil =>
    subst hh
    cases fL
    refine iteF ⟨_, rfl, q H4 d ks s4 (class_of nd re fi fun g hg => cl g hg (by simp)) N4 few0⟩
  | cons g0 gs =>
    have ne : (!acc.isEmpty) = true := by
      have := HlL.len fL
      rw [hh] at this
      cases acc with
      | nil => cases this
      | cons _ _ => rfl
    rw [ne, ← hh]
    have m1 : min 1 hs.length = 1 := by rw [hh]; simp
    rw [m1]
    clear hh
    refine iteT ⟨_, fun σ' H' x => x, ?_⟩
    refine ⟨Nat.zero_le _, fun B hB => ⟨_, rfl, _, _, rfl, rfl, _, _, rfl, ?_⟩⟩
    have sB : Same H4 (upd H4 B (.lst [])) := same_new hB
    have s5 := s4.trans sB
    have N5 := N4.same sB
    have eL5 := sB _ _ eL4
    have fL5 := dps_same sB _ _ fL4
    have nB : H B = none := s4.free hB
    have nlB : l ≠ B := ne_of_none eL4 hB
    have ndB : d ≠ B := by
      obtain ⟨o, e⟩ := N4.at
      exact ne_of_none e hB
    have ndl : d ≠ l := by
      obtain ⟨o, e⟩ := N4.at
      exact raw_ne e eL4
    refine ⟨_, rfl, l, rfl, ⟨_, SqL.of eL5⟩, for_list (K := K) (a := l) (xs := acc) (fun i σ H' => ∃ (ks1 bs : List Hall) (v5 v6 v7 : Option V), σ = [some (.ref a), some (.ref d), some (.ref l), some (.int (many + 1)), some (.ref B), v5, v6, v7] ∧ Same H H' ∧ NDict P w K H' d ks1 ∧
        H' l = some (.lst acc) ∧ DpAll K H' acc (hs.map dH) ∧ HlL K H' B bs ∧ Found h ks ks1 bs ∧ ∀ j g, j < i → hs[j]? = some g → ∀ x, x < h.1 → turn g x ∈ ks1)
      ⟨ks, [], _, _, _, rfl, s5, N5, eL5, fL5, ⟨_, upd_same, .nil⟩, ⟨nd, re, fun g hg => hg, fun g hg ng => absurd hg ng, by simp, rfl⟩, fun j g hj => absurd hj (Nat.not_lt_zero _)⟩ (fun i σ H' _ p => ?_) ?_ ?_⟩
    · obtain ⟨_, _, _, _, _, _, _, _, e, _⟩ := p
      exact SqL.of e
    · rintro i y σ H' hy ⟨ks1, bs, v5, v6, v7, rfl, s6, N6, eL6, fL6, hB6, F6, up⟩
      obtain ⟨g, hg, hv⟩ := hl_at fL6 hy
      have gk : g ∈ ks1 := F6.old g (su g (List.mem_of_getElem? hg))
      refine ⟨_, rfl, a, _, _, .int h.1, rfl, rfl, same_t s6 sa, atI_nat (j := 0) rfl, h.1, rfl, by have := O.2.2; omega, by have := O.2.2; omega, for_range (lo := 0) (n := h.1)
        (fun k σ H' => ∃ (ks1 bs : List Hall) (v6 v7 : Option V), σ = [some (.ref a), some (.ref d), some (.ref l), some (.int (many + 1)), some (.ref B), some y, v6, v7] ∧ Same H H' ∧ NDict P w K H' d ks1 ∧
          H' l = some (.lst acc) ∧ DpAll K H' acc (hs.map dH) ∧ HlL K H' B bs ∧ Found h ks ks1 bs ∧ g ∈ ks1 ∧ (∀ j g, j < i → hs[j]? = some g → ∀ x, x < h.1 → turn g x ∈ ks1) ∧ ∀ x, x < k → turn g x ∈ ks1)
        ⟨ks1, bs, _, _, rfl, s6, N6, eL6, fL6, hB6, F6, gk, up, fun x hx => absurd hx (Nat.not_lt_zero _)⟩ ?_ ?_⟩
      · rintro x σ H7 hx ⟨ks2, bs2, v6, v7, rfl, s7, N7, eL7, fL7, hB7, F7, gk7, up7, ux7⟩
        obtain ⟨g', hg', hv7⟩ := hl_at fL7 hy
        have : g' = g := Option.some.inj (hg'.symm.trans hg)
        subst this
        rw [Int.zero_add]
        have rg := F7.reach g' gk7
        have Og : Okh g' := ⟨rg.can O.1, by rw [rg.one]; exact O.2.1, by rw [rg.one]; exact O.2.2⟩
        refine ⟨_, rfl, _, rfl, y, g', x, rfl, hv7, Og, fun H8 u s8 hu8 => ?_⟩
        have N8 := N7.same s8
        have s78 := s7.trans s8
        refine ⟨_, rfl, _, rfl, turn g' x, d, ks2, hu8, rfl, N8, _, rfl, ?_⟩
        have eL8 := s8 _ _ eL7
        have fL8 := dps_same s8 _ _ fL7
        have hB8 := hB7.same s8
        by_cases mem : turn g' x ∈ ks2
        · rw [decide_eq_true mem]
          refine iteF ⟨ks2, bs2, _, _, rfl, s78, N8, eL8, fL8, hB8, F7, gk7, up7, fun z hz => ?_⟩
          rcases Nat.lt_succ_iff_lt_or_eq.mp hz with hz | hz
          · exact ux7 z hz
          · rw [hz]; exact mem
        · rw [decide_eq_false mem]
          have F9 := F7.add (.step rg hx) mem
          have few := F9.few O
          rw [List.length_append] at few
          have few : ks2.length + 1 ≤ 1024 := few
          refine iteT ⟨_, rfl, _, rfl, _, rfl, d, turn g' x, ks2, _, rfl, hu8, rfl, N8, mem, ?_, fun ob N9 => ?_⟩
          · exact Nat.lt_of_lt_of_le few (by decide)
          obtain ⟨o8, eo8⟩ := N8.at
          have t9 : Tp H8 (upd H8 d (rawO d ob)) := Tp.upd eo8 rawO_nt.1 rawO_nt.2
          have hu9 := t9.hl hu8
          have hB9 : HlL K (upd H8 d (rawO d ob)) B bs2 := hB8.keep (upd_ne ndB.symm) t9
          have eL9 : (upd H8 d (rawO d ob)) l = some (.lst acc) := by rw [upd_ne ndl.symm]; exact eL8
          have fL9 := t9.hls fL8
          have s9 : Same H (upd H8 d (rawO d ob)) := same_put s78 hd
          generalize upd H8 d (rawO d ob) = H9 at N9 t9 hu9 hB9 eL9 fL9 s9
          obtain ⟨ab, eB, fB⟩ := hB9
          refine ⟨_, rfl, .inl ⟨rfl, _, SqL.of eB⟩, _, rfl, B, _, _, rfl, rfl, eB, ?_, ?_⟩
          · rw [HlL.len fB]
            have := F7.cnt
            exact Nat.lt_of_le_of_lt (show bs2.length ≤ 1024 by omega) (by decide)
          · have tB : Tp H9 (upd H9 B (.lst (ab ++ [u]))) := Tp.upd eB (fun _ z => nomatch z) (fun _ _ z => nomatch z)
            refine ⟨ks2 ++ [turn g' x], bs2 ++ [turn g' x], _, _, rfl, same_put s9 nB, N9.keep (upd_ne ndB) tB, by rw [upd_ne nlB]; exact eL9, tB.hls fL9, HlL.add eB fB hu9, F9, List.mem_append_left _ gk7, fun j g hj hjg z hz => List.mem_append_left _ (up7 j g hj hjg z hz), fun z hz => ?_⟩
            rcases Nat.lt_succ_iff_lt_or_eq.mp hz with hz | hz
            · exact List.mem_append_left _ (ux7 z hz)
            · rw [hz]; exact List.mem_append_right _ (by simp)
      · rintro σ H7 ⟨ks2, bs2, v6, v7, rfl, s7, N7, eL7, fL7, hB7, F7, gk7, up7, ux7⟩
        refine ⟨ks2, bs2, _, _, _, rfl, s7, N7, eL7, fL7, hB7, F7, fun j g1 hj hjg z hz => ?_⟩
        rcases Nat.lt_succ_iff_lt_or_eq.mp hj with hj | hj
        · exact up7 j g1 hj hjg z hz
        · rw [hj] at hjg
          have : g1 = g := Option.some.inj (hjg.symm.trans hg)
          rw [this]
          exact ux7 z hz
    · rintro σ H7 ⟨ks2, bs2, v5, v6, v7, rfl, s7, N7, eL7, fL7, hB7, F7, up7⟩
      have few := F7.few O
      refine ⟨_, rfl, 2 * (1024 - ks2.length) + min 1 bs2.length, ?_, B, bs2, ks2, _, _, _, _, _, rfl, s7, N7, hB7, F7.nd, F7.reach, F7.old h fi, F7.sub, fun g hg ng x hx => ?_, rfl⟩
      · have c := F7.cnt
        by_cases z : bs2.length = 0
        · rw [z, c, z]
          simp
        · omega
      · by_cases o : g ∈ ks
        · by_cases p : g ∈ hs
          · obtain ⟨j, hj⟩ := List.getElem?_of_mem p
            have lj : j < acc.length := by
              rw [HlL.len fL]
              exact (List.getElem?_eq_some_iff.mp hj).1
            exact up7 j g lj hj x hx
          · exact F7.old _ (cl g o p x hx)
        · exact absurd (F7.new g hg o) ng
end
end TF
set_option autoImplicit false
set_option Elab.async false
set_option maxRecDepth 100000
namespace TF
open PySem L2 PyProof.Rows
theorem add_at {v w : List Lk} {i : Nat} {a b : Lk} (h1 : v[i]? = some a) (h2 : w[i]? = some b) : (addL v w)[i]? = some (a + b) := by
  unfold addL
  rw [List.getElem?_zipWith, h1, h2]
theorem neither {a b : Lk} (h1 : a ≠ b) (h2 : a ≠ .O) (h3 : b ≠ .O) : ([Lk.X, .Y, .Z].filter fun x => decide (x ≠ a) && decide (x ≠ b)) = [a + b] := by
  revert h1 h2 h3
  cases a <;> cases b <;> decide
theorem add_len {v w : List Lk} (h : v.length = w.length) : (addL v w).length = v.length := by
  unfold addL
  rw [List.length_zipWith, h, Nat.min_self]
theorem sg_len (a : Lk) : (sg a).length = 1 := rfl
theorem ne_sg {a b : Lk} : (!decide (V.str (sg a) = V.str (sg b))) = decide (a ≠ b) := by
  rw [dec_sg]
  by_cases h : a = b <;> simp [h]
section
variable {P : Program} {w : World} {K : PySem.W.Frag} {mg : Str → Option Value} {base : Heap}
def spLSum : Sp := fun vs H Q _ => ∃ v u : List Lk, vs = [.str (txt v), .str (txt u)] ∧ v.length = u.length ∧ v.length ≤ 8 ∧ ∀ H', Same H H' → Q (.str (txt (addL v u))) H'
abbrev N43 : List Str := ["_law_one", "_law_other", "_law_found", "_law_left", "_law_right", "_law_look"]
theorem sc43 : FnScope N43 ["_law_one", "_law_other"] (defScope (top 43)) := ⟨rfl, rfl, rfl, by decide +kernel, rfl, by decide +kernel, by decide +kernel⟩
theorem ok_lSum (G : Pg K mg) : FnOk P w K mg base CX0 1 G.lSum.f G.lSum.fd ["_law_one", "_law_other"] spLSum := by
  refine G.lSum.F.ok sc43 (fun vs H Q E h => ?_) (fun cdv A outer s H vs Q E hr h => ?_)
  · obtain ⟨v, u, rfl, _⟩ := h
    rfl
  obtain ⟨v, u, rfl, el, l8, q⟩ := h
  refine ⟨_, pss_cons (ps_set (i := 2) sc43.nd rfl (Or.inl rfl) pe_str)
    (pss_cons (ps_for PassesOwn.never rfl (pi_zipS rfl G.zzip (pa_cons (pv 0) (pa_cons (pv 1) pa_nil))) (pg_tup rfl (pgs_cons (pg_name (i := 3) sc43.nd rfl (Or.inr rfl)) (pgs_cons (pg_name (i := 4) sc43.nd rfl (Or.inr rfl)) pgs_nil)))
      (pss_one (ps_if (pt_cmpR op_eq (pv 3) (pv 4) (nomark _)) (pss_one (ps_set (i := 2) sc43.nd rfl (Or.inl rfl) (pe_op op_add_str (pv 2) pe_str)))
        (pss_one (ps_if (pt_cmpR op_in_seq pe_str (pe_tup (pa_cons (pv 3) (pa_cons (pv 4) pa_nil))) (by rfl))
          (pss_one (ps_set (i := 2) sc43.nd rfl (Or.inl rfl) (pe_op op_add_str (pv 2) (pe_ifExp (pt_cmpR op_eq (pv 3) pe_str (nomark _)) (pv 4) (pv 3)))))
          (pss_one (ps_set (i := 2) sc43.nd rfl (Or.inl rfl) (pe_op op_add_str (pv 2) (pe_ix ix_list (pe_lc (own := [("_law_look", 5)]) (g := gName 5) rfl sc43.nd (pi_str pe_str) (blkOk_by (N := N43) (sc := defScope (top 43)) (by decide +kernel))
            (fun _ _ _ _ _ => pg_name (i := 5) sc43.nd rfl (Or.inl rfl)) (fun _ _ _ _ _ => pts_one (PW.pt (pw_and (pt_cmpR op_ne (pv 5) (pv 3) (nomark _)) (pw_and1 (pt_cmpR op_ne (pv 5) (pv 4) (nomark _)))))) (fun _ _ _ _ _ => pv 5)) pe_int (fun _ _ => rfl))))))))))
    (pss_one (ps_ret (pv 2)))), ?_⟩
  refine ⟨_, rfl, _, rfl, _, _, rfl, for_it (walk_zipS el) (fun i σ H' => ∃ x y : Option V, σ = [some (.str (txt v)), some (.str (txt u)), some (.str (txt ((addL v u).take i))), x, y, none] ∧ Same H H')
    ⟨none, none, by rw [nil_txt]; rfl, Same.refl H⟩ (fun _ _ _ _ _ => trivial) ?_ ?_⟩
  · rintro i _ σ H2 _ hi ⟨x, y, rfl, s2⟩ ⟨T, a, b, rfl, hT, rfl, ha, hb⟩
    have sT : Same H2 (upd H2 T (.tup [.str (sg a), .str (sg b)])) := same_new hT
    have s3 := s2.trans sT
    refine ⟨T, _, rfl, SqT.of upd_same, rfl, _, _, rfl, _, _, rfl, rfl, ?_⟩
    generalize upd H2 T (.tup [.str (sg a), .str (sg b)]) = H3 at s3
    clear sT
    have fl : ((addL v u).take i).length ≤ 8 := by
      rw [List.length_take, add_len el]
      omega
    have nx : ∀ {c : Lk}, c = a + b → txt ((addL v u).take i) ++ sg c = txt ((addL v u).take (i + 1)) := fun e => by
      rw [txt_snoc, take_next (add_at ha hb), e]
    have sz : ∀ c : Lk, (txt ((addL v u).take i)).length + (sg c).length ≤ sizeLine := fun c => by
      rw [txt_len, sg_len]
      exact Nat.le_of_lt (small1000 (by omega))
    refine ⟨_, rfl, _, rfl, rfl, _, rfl, eq_sg (fun h1 => ?_) fun h1 => ?_⟩
    · rw [dot_sg]
      refine ⟨_, rfl, _, _, rfl, rfl, sz .O, some (.str (sg a)), some (.str (sg b)), ?_, s3⟩
      rw [nx (by rw [h1, lk_self])]
      rfl
    refine ⟨_, rfl, _, rfl, by show 2 ≤ sizeLine; decide, fun t ht => ?_⟩
    have s4 : Same H3 (upd H3 t (.tup [.str (sg a), .str (sg b)])) := same_new ht
    refine ⟨t, _, rfl, .inr (SqT.of upd_same), rfl, rfl, _, rfl, ?_⟩
    rw [if_neg Bool.false_ne_true, dot_sg]
    show if inV (vS .O) [vS a, vS b] = true then _ else _
    rw [inV_two]
    have s34 := s3.trans s4
    generalize upd H3 t (.tup [.str (sg a), .str (sg b)]) = H4 at s34
    by_cases hO : a = .O ∨ b = .O
    · rw [if_pos (by rcases hO with e | e <;> simp [e])]
      refine ⟨_, rfl, _, rfl, ?_⟩
      refine ⟨rfl, _, rfl, eq_sg (fun h2 => ?_) fun h2 => ?_⟩
      · refine ⟨_, rfl, _, _, rfl, rfl, sz b, some (.str (sg a)), some (.str (sg b)), ?_, s34⟩
        rw [nx (by rw [h2, lk_O_add])]
        rfl
      · have hb0 : b = .O := hO.resolve_left h2
        refine ⟨_, rfl, _, _, rfl, rfl, sz a, some (.str (sg a)), some (.str (sg b)), ?_, s34⟩
        rw [nx (by rw [hb0, lk_add_O])]
        rfl
    · have na : a ≠ .O := fun e => hO (.inl e)
      have nb : b ≠ .O := fun e => hO (.inr e)
      rw [if_neg (by simp [na, nb])]
      refine ⟨_, rfl, _, rfl, fun D hD => lc_out (walk_str (z := "XYZ")) (fun j H' => Same H4 H' ∧ H' D = some (.lst ((([Lk.X, .Y, .Z].take j).filter fun x => decide (x ≠ a) && decide (x ≠ b)).map vS))) ⟨same_new hD, upd_same⟩ (fun _ _ _ _ => trivial) ?_ ?_⟩
      · rintro j _ _ H' hj ⟨s5, e5⟩ ⟨rfl, c, hc, rfl⟩
        rw [looks_txt] at hc
        obtain ⟨x, hx, ex⟩ := txt_at hc
        rw [ex]
        have sz5 : ((([Lk.X, .Y, .Z].take j).filter fun x => decide (x ≠ a) && decide (x ≠ b)).map vS).length < sizeLine := by
          rw [List.length_map]
          exact small1000 (Nat.le_trans flt_len (by decide))
        refine ⟨rfl, _, rfl, _, rfl, rfl, _, rfl, ?_⟩
        rw [ne_sg]
        by_cases c1 : x ≠ a
        · rw [decide_eq_true c1]
          refine iteT ⟨_, rfl, _, rfl, rfl, _, rfl, ?_⟩
          rw [ne_sg]
          by_cases c2 : x ≠ b
          · rw [decide_eq_true c2]
            refine iteT ⟨_, rfl, _, e5, sz5, same_put s5 hD, ?_⟩
            rw [upd_same, flt_next hx, if_pos (by simp [c1, c2]), List.map_append]
            rfl
          · rw [decide_eq_false c2]
            refine iteF ⟨s5, ?_⟩
            rw [flt_next hx, if_neg (by simp [c2]), List.append_nil]
            exact e5
        · rw [decide_eq_false c1]
          refine iteF (iteF ⟨s5, ?_⟩)
          rw [flt_next hx, if_neg (by simp [c1]), List.append_nil]
          exact e5
      · rintro H5 ⟨s5, e5⟩
        have e5 : H5 D = some (.lst (([Lk.X, .Y, .Z].filter fun x => decide (x ≠ a) && decide (x ≠ b)).map vS)) := e5
        rw [neither h1 na nb] at e5
        refine ⟨D, _, _, vS (a + b), rfl, rfl, SqL.of e5, atI_nat (j := 0) rfl, _, _, rfl, rfl, sz (a + b), some (.str (sg a)), some (.str (sg b)), ?_, s34.trans s5⟩
        rw [nx rfl]
        rfl
  · rintro σ H2 ⟨x, y, rfl, s2⟩
    refine ⟨_, rfl, ?_⟩
    rw [List.take_of_length_le (by rw [add_len el]; exact Nat.le_refl _)]
    exact q _ s2
end
end TF
set_option autoImplicit false
set_option Elab.async false
set_option maxRecDepth 100000
namespace TF
open PySem L2 PyProof.Rows
/-! ### alike -/
def AL : Nat → PyData → Prop
  | 0, d => ∃ i, d = .int i
  | n + 1, d => (∃ i, d = .int i) ∨ ∃ ds, d = .tuple ds ∧ ds.length ≤ 1100 ∧ ∀ e ∈ ds, AL n e
theorem al_int (n : Nat) (i : Int) : AL n (.int i) := match n with
  | 0 => ⟨i, rfl⟩
  | _ + 1 => .inl ⟨i, rfl⟩
theorem al_dP (p : Nat × Nat) : AL 1 (dP p) := .inr ⟨_, rfl, by show 2 ≤ 1100; decide, fun e he => by
  rcases List.mem_cons.mp he with h | h
  · rw [h]; exact ⟨_, rfl⟩
  · rcases List.mem_cons.mp h with h | h
    · rw [h]; exact ⟨_, rfl⟩
    · cases h⟩
theorem al_dH {h : Hall} (f : h.2.length ≤ 1100) : AL 3 (dH h) := .inr ⟨_, rfl, by show 2 ≤ 1100; decide, fun e he => by
  rcases List.mem_cons.mp he with z | z
  · rw [z]; exact al_int _ _
  · rcases List.mem_cons.mp z with z | z
    · rw [z]
      refine .inr ⟨_, rfl, by rw [List.length_map]; exact f, fun e he => ?_⟩
      obtain ⟨p, _, rfl⟩ := List.mem_map.mp he
      exact al_dP p
    · cases z⟩
theorem al_dHs {hs : List Hall} (f : hs.length ≤ 1100) (g : ∀ h ∈ hs, h.2.length ≤ 1100) : AL 4 (.tuple (hs.map dH)) := .inr ⟨_, rfl, by rw [List.length_map]; exact f, fun e he => by
  obtain ⟨h, hh, rfl⟩ := List.mem_map.mp he
  exact al_dH (g h hh)⟩
theorem al_split {n : Nat} {d : PyData} (h : AL (n + 1) d) : (∃ i, d = .int i) ∨ ∃ ds, d = .tuple ds ∧ ds.length ≤ 1100 ∧ ∀ e ∈ ds, AL n e := h
theorem tl_any {K : PySem.W.Frag} {t : String} {b : Bool} (h1 : kitB t "tuple" = some b) (h2 : kitB t "list" = some false) : PySem.W.kitAny K (.type t) [.type "tuple", .type "list"] = some b :=
  kitAny_cons (kit_ty h1) (fun e => by rw [e]; exact kitAny_cons (kit_ty h2) (fun _ => rfl) (fun z => by cases z)) (fun e => e)
section
variable {P : Program} {w : World} {K : PySem.W.Frag} {mg : Str → Option Value} {base : Heap}
def spAlike (K : PySem.W.Frag) (n : Nat) : Sp := fun vs H Q _ => ∃ (v u : V) (d : PyData), vs = [v, u] ∧ Dp K H v d ∧ Dp K H u d ∧ AL n d ∧ ∀ H', Same H H' → Q (.bl true) H'
abbrev N37 : List Str := ["_law_found", "_law_due", "_law_k", "_law_key"]
theorem sc37 : FnScope N37 ["_law_found", "_law_due"] (defScope (top 37)) := ⟨rfl, rfl, rfl, by decide +kernel, rfl, by decide +kernel, by decide +kernel⟩
theorem cls_two : Paired ClsV [V.ty "tuple", V.ty "list"] [Value.type "tuple", Value.type "list"] := .cons (.ty _) (.cons (.ty _) .nil)
theorem alike_step (G : Pg K mg) (n : Nat) (IH : ∀ m, n = m + 1 → FnOk P w K mg base CX0 n G.lAlike.f G.lAlike.fd ["_law_found", "_law_due"] (spAlike K m)) :
    FnOk P w K mg base CX0 (n + 1) G.lAlike.f G.lAlike.fd ["_law_found", "_law_due"] (spAlike K n) := by
    refine G.lAlike.F.ok sc37 (fun vs H Q E h => ?_) (fun cdv A outer s H vs Q E hr h => ?_)
    · obtain ⟨v, u, d, rfl, _⟩ := h
      rfl
    obtain ⟨v, u, d, rfl, hv, hu, al, q⟩ := h
    by_cases ti : ∃ i, d = .int i
    · obtain ⟨i, rfl⟩ := ti
      cases hv
      cases hu
      refine ⟨_, pss_cons (ps_if (pt_val (pe_bi G.zisinstance call_isiT (pa_cons (pv 1) (pa_cons (pe_tup (pa_cons (pe_cls "tuple" G.ztuple) (pa_cons (pe_cls "list" G.zlist) pa_nil))) pa_nil)))) pss_never pss_nil)
        (pss_cons (ps_if (pt_val (pe_bi G.zisinstance call_isi (pa_cons (pv 1) (pa_cons (pe_cls "dict" G.zdict) pa_nil)))) pss_never pss_nil)
        (pss_cons (ps_if (PW.pt (pw_or (pt_cmpR op_isN (pv 1) pe_non (nomark _)) (pw_or1 (pt_val (pe_bi G.zisinstance call_isi (pa_cons (pv 1) (pa_cons (pe_cls "str" G.zstr) pa_nil))))))) pss_never pss_nil)
        (pss_one (ps_ret (pe_and (pe_bi G.zisinstance call_isi (pa_cons (pv 0) (pa_cons (pe_cls "int" G.zint) pa_nil)))
          (pe_and (pe_cmpR op_eq (pe_bi G.zisinstance call_isi (pa_cons (pv 0) (pa_cons (pe_cls "bool" G.zbool) pa_nil))) (pe_bi G.zisinstance call_isi (pa_cons (pv 1) (pa_cons (pe_cls "bool" G.zbool) pa_nil))) (nomark _))
          (pe_one (pe_cmpR op_eq (pv 0) (pv 1) (nomark _))))))))), ?_⟩
      refine ⟨_, rfl, by show 2 ≤ sizeLine; decide, fun p hp => ?_⟩
      have s1 : Same H (upd H p (.tup [.ty "tuple", .ty "list"])) := same_new hp
      refine ⟨_, p, _, _, _, false, rfl, upd_same, cls_two, .base (.int _), tl_any (by decide +kernel) (by decide +kernel), _, rfl, iteF ?_⟩
      refine ⟨_, rfl, _, .ty "dict", .type "int", .type "dict", false, rfl, .ty _, .base (.int _), kit_ty (by decide +kernel), _, rfl, iteF ?_⟩
      refine ⟨_, rfl, rfl, false, bl_false (fun z => nomatch z), ?_⟩
      refine iteF ⟨_, rfl, _, .ty "str", .type "int", .type "str", false, rfl, .ty _, .base (.int _), kit_ty (by decide +kernel), _, rfl, iteF ?_⟩
      refine ⟨_, rfl, _, .ty "int", .type "int", .type "int", true, rfl, .ty _, .base (.int _), kit_ty (by decide +kernel), _, rfl, iteT ?_⟩
      refine ⟨_, rfl, _, .ty "bool", .type "int", .type "bool", false, rfl, .ty _, .base (.int _), kit_ty (by decide +kernel), _, rfl, _, .ty "bool", .type "int", .type "bool", false, rfl, .ty _, .base (.int _), kit_ty (by decide +kernel), rfl, _, rfl, iteT ?_⟩
      exact ⟨_, rfl, _, rfl, rfl, q_true rfl (q _ s1)⟩
    · obtain ⟨m, rfl, ds, rfl, few, alt⟩ : ∃ m, n = m + 1 ∧ ∃ ds, d = .tuple ds ∧ ds.length ≤ 1100 ∧ ∀ e ∈ ds, AL m e := by
        cases n with
        | zero => exact absurd al ti
        | succ m => exact ⟨m, rfl, al.resolve_left ti⟩
      have IH' := IH m rfl
      cases hv with
      | @tup a xs _ sa da =>
      cases hu with
      | @tup b ys _ sb db =>
      have lx : xs.length = ds.length := dps_len da
      have ly : ys.length = ds.length := dps_len db
      refine ⟨_, pss_cons (ps_if (pt_val (pe_bi G.zisinstance call_isiT (pa_cons (pv 1) (pa_cons (pe_tup (pa_cons (pe_cls "tuple" G.ztuple) (pa_cons (pe_cls "list" G.zlist) pa_nil))) pa_nil))))
        (pss_cons (ps_if (PW.pt (pw_or (pt_not (pt_val (pe_bi G.zisinstance call_isiT (pa_cons (pv 0) (pa_cons (pe_tup (pa_cons (pe_cls "tuple" G.ztuple) (pa_cons (pe_cls "list" G.zlist) pa_nil))) pa_nil)))))
          (pw_or1 (pt_cmpR op_ne (pe_bi G.zisinstance call_isi (pa_cons (pv 0) (pa_cons (pe_cls "list" G.zlist) pa_nil))) (pe_bi G.zisinstance call_isi (pa_cons (pv 1) (pa_cons (pe_cls "list" G.zlist) pa_nil))) (nomark _))))) pss_never pss_nil)
        (pss_cons (ps_if (pt_cmpR op_ne (pe_bi G.zlen call_len_seq (pa_cons (pv 0) pa_nil)) (pe_bi G.zlen call_len_seq (pa_cons (pv 1) pa_nil)) (nomark _)) pss_never pss_nil)
        (pss_one (ps_ret (pe_cmpR (op_eqNil hr.units0) (pe_lc (own := [("_law_k", 2)]) (g := gName 2) rfl sc37.nd (pi_range1 rfl G.zrange (pa_cons (pe_bi G.zlen call_len_seq (pa_cons (pv 1) pa_nil)) pa_nil)) (blkOk_by (N := N37) (sc := defScope (top 37)) (by decide +kernel))
          (fun _ _ _ _ _ => pg_name (i := 2) sc37.nd rfl (Or.inl rfl)) (fun _ _ _ _ _ => pts_one (pt_not (pt_val (pe_def G.lAlike IH' hr (pa_cons (te := tOp (rIxT K) (tVar 0) (tVar 2)) (pe_ix ix_tup (pv 0) (pv 2) (fun _ _ => rfl)) (pa_cons (te := tOp (rIxT K) (tVar 1) (tVar 2)) (pe_ix ix_tup (pv 1) (pv 2) (fun _ _ => rfl)) pa_nil))))))
          (fun _ _ _ _ _ => pv 2)) (pe_lst pa_nil) (nomark _)))))) pss_nil) pss_never, ?_⟩
      refine ⟨_, rfl, by show 2 ≤ sizeLine; decide, fun p hp => ?_⟩
      have s1 : Same H (upd H p (.tup [.ty "tuple", .ty "list"])) := same_new hp
      refine ⟨_, p, _, _, _, true, rfl, upd_same, cls_two, tyx_tup (same_t s1 sb), tl_any (by decide +kernel) (by decide +kernel), _, rfl, iteT ?_⟩
      generalize upd H p (.tup [.ty "tuple", .ty "list"]) = H1 at s1
      refine ⟨_, rfl, by show 2 ≤ sizeLine; decide, fun p' hp' => ?_⟩
      have s2 : Same H1 (upd H1 p' (.tup [.ty "tuple", .ty "list"])) := same_new hp'
      have s12 := s1.trans s2
      have ta := tyx_tup (same_t s12 sa)
      have tb := tyx_tup (same_t s12 sb)
      refine ⟨_, p', _, _, _, true, rfl, upd_same, cls_two, ta, tl_any (by decide +kernel) (by decide +kernel), _, rfl, iteF ?_⟩
      refine ⟨_, rfl, _, .ty "list", .type "tuple", .type "list", false, rfl, .ty _, ta, kit_ty (by decide +kernel), _, rfl, _, .ty "list", .type "tuple", .type "list", false, rfl, .ty _, tb, kit_ty (by decide +kernel), rfl, _, rfl, iteF ?_⟩
      refine ⟨_, rfl, a, _, rfl, .inr (same_t s12 sa), _, rfl, b, _, rfl, .inr (same_t s12 sb), rfl, _, rfl, ?_⟩
      rw [lx, ly]
      refine iteNS ?_ ?_
      · simp
      refine ⟨_, rfl, b, _, rfl, .inr (same_t s12 sb), (ys.length : Nat), rfl, by omega, by rw [ly]; omega, fun D hD => ?_⟩
      have nD : H D = none := s12.free hD
      refine lc_out walk_range (fun i H' => Same H H' ∧ H' D = some (.lst [])) ⟨same_put s12 nD, upd_same⟩ (fun _ _ _ _ => trivial) ?_ ?_
      · rintro i y _ H' hi ⟨s3, e3⟩ ⟨rfl, rfl⟩
        have hi' : i < ds.length := by rw [← ly]; simpa using hi
        obtain ⟨x1, hx1, dx1⟩ := dps_get' da (List.getElem?_eq_getElem hi')
        obtain ⟨x2, hx2, dx2⟩ := dps_get' db (List.getElem?_eq_getElem hi')
        show gName 2 (V.int (0 + (i : Int))) _ _ _
        rw [Int.zero_add]
        refine ⟨rfl, _, rfl, _, rfl, a, _, _, x1, rfl, rfl, same_t s3 sa, atI_nat hx1, _, rfl, _, rfl, b, _, _, x2, rfl, rfl, same_t s3 sb, atI_nat hx2, x1, x2, _, rfl, dp_same s3 _ _ dx1, dp_same s3 _ _ dx2, alt _ (List.getElem_mem hi'), fun H4 s4 => ⟨true, rfl, iteF ?_⟩⟩
        exact ⟨s3.trans s4, s4 _ _ e3⟩
      · rintro H3 ⟨s3, e3⟩
        refine ⟨Nat.zero_le _, fun e he => ⟨D, e, [], rfl, rfl, SqL.of (by rw [upd_ne (ne_of_none e3 he)]; exact e3), SqL.of upd_same, ?_⟩⟩
        exact q _ (same_put s3 (s3.free he))
theorem ok_alike (G : Pg K mg) : ∀ n : Nat, FnOk P w K mg base CX0 (n + 1) G.lAlike.f G.lAlike.fd ["_law_found", "_law_due"] (spAlike K n)
  | 0 => alike_step G 0 (fun m e => nomatch e)
  | n + 1 => alike_step G (n + 1) (fun m e => by
    cases e
    exact ok_alike G n)
end
end TF
set_option autoImplicit false
set_option Elab.async false
set_option maxRecDepth 100000
namespace TF
open PySem L2 PyProof.Rows
def vT (l : List Lk) : V := .str (txt l)
theorem range_next {f : Nat → Lk} (i : Nat) : (List.range (i + 1)).map f = (List.range i).map f ++ [f i] := by
  rw [List.range_succ, List.map_append]
  rfl
theorem eqi {a b : Nat} {Q1 Q2 : Prop} (h1 : a = b → Q1) (h2 : a ≠ b → Q2) : if decide (V.int (a : Int) = V.int (b : Int)) = true then Q1 else Q2 := by
  by_cases h : a = b
  · rw [if_pos (decide_eq_true (by rw [h]))]
    exact h1 h
  · rw [if_neg (by simp; omega)]
    exact h2 h
section
variable {P : Program} {w : World} {K : PySem.W.Frag} {mg : Str → Option Value} {base : Heap}
def spLOwn (K : PySem.W.Frag) : Sp := fun vs H Q _ => ∃ (v : V) (h : Hall) (x : Nat), vs = [v, .int x] ∧ HlV K H v h ∧ h.1 ≤ 5 ∧ ∀ H', Same H H' → Q (vT (ownL h x)) H'
abbrev N44 : List Str := ["_law_hall_here", "_law_x", "_law_near", "_law_found", "_law_y"]
theorem sc44 : FnScope N44 ["_law_hall_here", "_law_x"] (defScope (top 44)) := ⟨rfl, rfl, rfl, by decide +kernel, rfl, by decide +kernel, by decide +kernel⟩
theorem ok_lOwn (G : Pg K mg) : FnOk P w K mg base CX0 2 G.lOwn.f G.lOwn.fd ["_law_hall_here", "_law_x"] (spLOwn K) := by
  refine G.lOwn.F.ok sc44 (fun vs H Q E h => ?_) (fun cdv A outer s H vs Q E hr h => ?_)
  · obtain ⟨v, h, x, rfl, _⟩ := h
    rfl
  obtain ⟨v, h, x, rfl, hp, h5, q⟩ := h
  obtain ⟨a, b, qs, rfl, sa, sb, hq⟩ := hlV_open hp
  refine ⟨_, pss_cons (ps_par (by rfl) sc44.nd (i := 2) (j := 3) rfl rfl (by decide) rfl rfl (pa_cons (pe_def G.lFriends (ok_lFriends G) hr (pa_cons (pv 0) (pa_cons (pv 1) pa_nil))) (pa_cons pe_str pa_nil)) (by rfl))
    (pss_cons (ps_for PassesOwn.never rfl (pi_range1 rfl G.zrange (pa_cons (pe_ix ix_tup (pv 0) pe_int (fun _ _ => rfl)) pa_nil)) (pg_name (i := 4) sc44.nd rfl (Or.inl rfl))
      (pss_one (ps_set (i := 3) sc44.nd rfl (Or.inl rfl) (pe_op op_add_str (pv 3) (pe_ifExp (pt_cmpR op_eq (pv 4) (pv 1) (nomark _)) pe_str (pe_ifExp (pt_cmpR op_in_seq (pv 4) (pv 2) (by rfl)) pe_str pe_str))))))
    (pss_one (ps_ret (pv 3)))), ?_⟩
  refine ⟨_, rfl, _, rfl, .ref a, h, x, rfl, hp, h5, fun H1 l s1 nl e1 => ⟨_, _, rfl, ?_⟩⟩
  refine ⟨_, rfl, a, _, _, .int h.1, rfl, rfl, same_t s1 sa, atI_nat (j := 0) rfl, h.1, rfl, by omega, by omega, for_range (lo := 0) (n := h.1)
    (fun i σ H' => ∃ y : Option V, σ = [some (.ref a), some (.int x), some (.ref l), some (vT ((List.range i).map fun y => if y = x then .X else if adj h x y then .Z else .O)), y] ∧ H' = H1)
    ⟨none, by rw [nil_txt]; rfl, rfl⟩ ?_ ?_⟩
  · rintro i σ _ hi ⟨y, rfl, rfl⟩
    have nx : ∀ c : Lk, c = (if i = x then Lk.X else if adj h x i then .Z else .O) → txt ((List.range i).map fun y => if y = x then Lk.X else if adj h x y then .Z else .O) ++ sg c = txt ((List.range (i + 1)).map fun y => if y = x then Lk.X else if adj h x y then .Z else .O) := fun c e => by
      rw [txt_snoc, range_next, e]
    have sz : ∀ c : Lk, (txt ((List.range i).map fun y => if y = x then Lk.X else if adj h x y then .Z else .O)).length + (sg c).length ≤ sizeLine := fun c => by
      rw [txt_len, sg_len, List.length_map, List.length_range]
      exact Nat.le_of_lt (small1000 (by omega))
    show gName 4 (V.int (0 + (i : Int))) _ _ _
    rw [Int.zero_add]
    refine ⟨_, rfl, _, rfl, _, rfl, rfl, _, rfl, eqi (fun c => ?_) fun c => ?_⟩
    · rw [x_sg]
      refine ⟨_, _, rfl, rfl, sz .X, some (.int (i : Nat)), ?_, rfl⟩
      rw [nx .X (by rw [if_pos c])]
      rfl
    · refine ⟨_, rfl, _, rfl, l, _, rfl, .inl (SqL.of e1), rfl, flat_nats _, _, rfl, ?_⟩
      rw [if_neg Bool.false_ne_true, inV_nat]
      have ea : decide (i ∈ frs h x) = adj h x i := by
        rw [Bool.eq_iff_iff, decide_eq_true_eq, mem_frs]
        exact ⟨fun q => q.2, fun q => ⟨hi, q⟩⟩
      rw [ea, z_sg, dot_sg]
      cases hc : adj h x i with
      | true =>
        refine iteT ⟨_, _, rfl, rfl, sz .Z, some (.int (i : Nat)), ?_, rfl⟩
        rw [nx .Z (by rw [if_neg c, hc, if_pos rfl])]
        rfl
      | false =>
        refine iteF ⟨_, _, rfl, rfl, sz .O, some (.int (i : Nat)), ?_, rfl⟩
        rw [nx .O (by rw [if_neg c, hc, if_neg Bool.false_ne_true])]
        rfl
  · rintro σ _ ⟨y, rfl, rfl⟩
    exact ⟨_, rfl, q _ s1⟩

theorem room_many (h : Hall) : ∀ k, (roomL h k).length = 2 ^ k
  | 0 => rfl
  | k + 1 => by
    show (roomL h k ++ (roomL h k).map _).length = _
    rw [List.length_append, List.length_map, room_many h k, Nat.pow_succ]
    omega
theorem pow5 {k : Nat} (h : k ≤ 5) : 2 ^ k ≤ 32 := Nat.pow_le_pow_right (by decide) h
def spLRoom (K : PySem.W.Frag) : Sp := fun vs H Q _ => ∃ (v : V) (h : Hall), vs = [v] ∧ HlV K H v h ∧ Okh h ∧ ∀ H' D, Same H H' → H D = none → H' D = some (.lst ((roomL h h.1).map vT)) → Q (.ref D) H'
abbrev N45 : List Str := ["_law_hall_here", "_law_found", "_law_x", "_law_one"]
theorem sc45 : FnScope N45 ["_law_hall_here"] (defScope (top 45)) := ⟨rfl, rfl, rfl, by decide +kernel, rfl, by decide +kernel, by decide +kernel⟩
theorem ok_lRoom (G : Pg K mg) : FnOk P w K mg base CX0 3 G.lRoom.f G.lRoom.fd ["_law_hall_here"] (spLRoom K) := by
  refine G.lRoom.F.ok sc45 (fun vs H Q E h => ?_) (fun cdv A outer s H vs Q E hr h => ?_)
  · obtain ⟨v, h, rfl, _⟩ := h
    rfl
  obtain ⟨v, h, rfl, hp, O, q⟩ := h
  obtain ⟨a, b, qs, rfl, sa, sb, hq⟩ := hlV_open hp
  have hr1 : Room 1 _ := hr.mono (by decide)
  refine ⟨_, pss_cons (ps_set (i := 1) sc45.nd rfl (Or.inl rfl) (pe_lst (pa_cons (pe_op op_mulS pe_str (pe_ix ix_tup (pv 0) pe_int (fun _ _ => rfl))) pa_nil)))
    (pss_cons (ps_for PassesOwn.never rfl (pi_range1 rfl G.zrange (pa_cons (pe_ix ix_tup (pv 0) pe_int (fun _ _ => rfl)) pa_nil)) (pg_name (i := 2) sc45.nd rfl (Or.inr rfl))
      (pss_one (ps_set (i := 1) sc45.nd rfl (Or.inl rfl) (pe_op op_cat (pv 1) (pe_lc (own := [("_law_one", 3)]) (g := gName 3) (tt := tYes) rfl sc45.nd (pi_list (pv 1)) (blkOk_by (N := N45) (sc := defScope (top 45)) (by decide +kernel))
        (fun _ _ _ _ _ => pg_name (i := 3) sc45.nd rfl (Or.inl rfl)) (fun _ _ _ _ _ => pts_nil) (fun _ _ _ _ _ => pe_def G.lSum (ok_lSum G) hr1 (pa_cons (pv 3) (pa_cons (pe_def G.lOwn (ok_lOwn G) hr (pa_cons (pv 0) (pa_cons (pv 2) pa_nil))) pa_nil))))))))
    (pss_one (ps_ret (pv 1)))), ?_⟩
  refine ⟨_, rfl, a, _, _, .int h.1, rfl, rfl, sa, atI_nat (j := 0) rfl, .O, h.1, congrArg V.str dot_sg, rfl, O.2.1, Nat.le_trans O.2.2 (by decide), by show 1 ≤ sizeLine; decide, fun l0 h0 => ?_⟩
  have s0 : Same H (upd H l0 (.lst [.str (txt (List.replicate h.1 .O))])) := same_new h0
  refine ⟨_, rfl, a, _, _, .int h.1, rfl, rfl, same_t s0 sa, atI_nat (j := 0) rfl, h.1, rfl, by have := O.2.2; omega, by have := O.2.2; omega, for_range (lo := 0) (n := h.1)
    (fun i σ H' => ∃ (D : Addr) (y : Option V), σ = [some (.ref a), some (.ref D), y, none] ∧ Same H H' ∧ H D = none ∧ H' D = some (.lst ((roomL h i).map vT)))
    ⟨l0, none, rfl, s0, h0, upd_same⟩ ?_ ?_⟩
  · rintro i σ H1 hi ⟨D, y, rfl, s1, nD, e1⟩
    show gName 2 (V.int (0 + (i : Int))) _ _ _
    rw [Int.zero_add]
    have l32 : (roomL h i).length ≤ 32 := by rw [room_many]; exact pow5 (by have := O.2.2; omega)
    refine ⟨_, rfl, _, rfl, D, rfl, ⟨_, SqL.of e1⟩, fun D2 hD2 => lc_out (walk_list (K := K) (a := D) (xs := (roomL h i).map vT))
      (fun j H' => Same H1 H' ∧ H' D2 = some (.lst ((((roomL h i).take j).map fun v => addL v (ownL h i)).map vT))) ⟨same_new hD2, upd_same⟩ (fun j H' _ p => SqL.of (p.1 _ _ e1)) ?_ ?_⟩
    · rintro j y _ H2 hj ⟨s2, e2⟩ ⟨rfl, hy⟩
      obtain ⟨r, hr', rfl⟩ := map_at hy
      have lr : r.length = h.1 := room_len h i r (List.mem_of_getElem? hr')
      refine ⟨rfl, _, rfl, _, rfl, _, rfl, .ref a, h, i, rfl, dp_same (s1.trans s2) _ _ hp, O.2.2, fun H3 s3 => ⟨r, ownL h i, rfl, by rw [lr, ownL_len], by rw [lr]; exact Nat.le_trans O.2.2 (by decide), fun H4 s4 => ?_⟩⟩
      refine ⟨_, s4 _ _ (s3 _ _ e2), ?_, same_put (s2.trans (s3.trans s4)) hD2, ?_⟩
      · rw [List.length_map, List.length_map, List.length_take]
        exact small1000 (by omega)
      · rw [upd_same, take_next hr', List.map_append, List.map_append]
        rfl
    · rintro H2 ⟨s2, e2⟩
      rw [List.length_map, List.take_length] at e2
      have s12 := s1.trans s2
      refine ⟨D, D2, _, _, rfl, rfl, s2 _ _ e1, e2, ?_, fun p hp => ?_⟩
      · rw [List.length_map, List.length_map, List.length_map]
        exact Nat.le_of_lt (small1000 (by omega))
      · refine ⟨p, _, rfl, same_put s12 (s12.free hp), s12.free hp, ?_⟩
        rw [upd_same, ← List.map_append]
        rfl
  · rintro σ H1 ⟨D, y, rfl, s1, nD, e1⟩
    exact ⟨_, rfl, q _ D s1 nD e1⟩

theorem choices_few {n : Nat} (h : n ≤ 5) : (allChoices n).length ≤ 243 := by
  rw [choices_len]
  exact Nat.pow_le_pow_right (n := 3) (by decide) h
def spLChoices : Sp := fun vs H Q _ => ∃ n : Nat, vs = [.int n] ∧ n ≤ 5 ∧ ∀ H' D, Same H H' → H D = none → H' D = some (.lst ((allChoices n).map vT)) → Q (.ref D) H'
abbrev N46 : List Str := ["_law_n", "_law_found", "_law_turn_here", "_law_longer", "_law_one", "_law_look"]
theorem sc46 : FnScope N46 ["_law_n"] (defScope (top 46)) := ⟨rfl, rfl, rfl, by decide +kernel, rfl, by decide +kernel, by decide +kernel⟩
def grow (ts : List (List Lk)) : List (List Lk) := ts.flatMap fun one => [one ++ [Lk.X], one ++ [Lk.Y], one ++ [Lk.Z]]
theorem grow_next {ts : List (List Lk)} {i : Nat} {t : List Lk} (h : ts[i]? = some t) : grow (ts.take (i + 1)) = grow (ts.take i) ++ [t ++ [Lk.X], t ++ [Lk.Y], t ++ [Lk.Z]] := by
  unfold grow
  rw [take_next h, List.flatMap_append, List.flatMap_singleton]
theorem grow_len : ∀ ts : List (List Lk), (grow ts).length = 3 * ts.length
  | [] => rfl
  | t :: ts => by
    show ([t ++ [Lk.X], t ++ [Lk.Y], t ++ [Lk.Z]] ++ grow ts).length = _
    rw [List.length_append, grow_len ts]
    show 3 + _ = 3 * (ts.length + 1)
    omega
theorem ok_lChoices (G : Pg K mg) : FnOk P w K mg base CX0 1 G.lChoices.f G.lChoices.fd ["_law_n"] spLChoices := by
  refine G.lChoices.F.ok sc46 (fun vs H Q E h => ?_) (fun cdv A outer s H vs Q E hr h => ?_)
  · obtain ⟨n, rfl, _⟩ := h
    rfl
  obtain ⟨n, rfl, h5, q⟩ := h
  refine ⟨_, pss_cons (ps_set (i := 1) sc46.nd rfl (Or.inl rfl) (pe_lst (pa_cons pe_str pa_nil)))
    (pss_cons (ps_for PassesOwn.never rfl (pi_range1 rfl G.zrange (pa_cons (pv 0) pa_nil)) (pg_name (i := 2) sc46.nd rfl (Or.inl rfl))
      (pss_cons (ps_set (i := 3) sc46.nd rfl (Or.inl rfl) (pe_lst pa_nil))
      (pss_cons (ps_for PassesOwn.never rfl (pi_list (pv 1)) (pg_name (i := 4) sc46.nd rfl (Or.inr rfl))
        (pss_one (ps_set (i := 3) sc46.nd rfl (Or.inl rfl) (pe_op op_cat (pv 3) (pe_lc (own := [("_law_look", 5)]) (g := gName 5) (tt := tYes) rfl sc46.nd (pi_str pe_str) (blkOk_by (N := N46) (sc := defScope (top 46)) (by decide +kernel))
          (fun _ _ _ _ _ => pg_name (i := 5) sc46.nd rfl (Or.inl rfl)) (fun _ _ _ _ _ => pts_nil) (fun _ _ _ _ _ => pe_op op_add_str (pv 4) (pv 5)))))))
      (pss_one (ps_set (i := 1) sc46.nd rfl (Or.inl rfl) (pv 3))))))
    (pss_one (ps_ret (pv 1)))), ?_⟩
  refine ⟨by show 1 ≤ sizeLine; decide, fun l0 h0 => ?_⟩
  refine ⟨_, rfl, (n : Int), rfl, by omega, by omega, for_range (lo := 0) (n := n)
    (fun i σ H' => ∃ (D : Addr) (x y z : Option V), σ = [some (.int n), some (.ref D), x, y, z, none] ∧ Same H H' ∧ H D = none ∧ H' D = some (.lst ((allChoices i).map vT)))
    ⟨l0, none, none, none, rfl, same_new h0, h0, by rw [upd_same, nil_txt]; rfl⟩ ?_ ?_⟩
  · rintro i σ H1 hi ⟨D, x, y, z, rfl, s1, nD, e1⟩
    have few := choices_few (show i ≤ 5 by omega)
    refine ⟨Nat.zero_le _, fun l1 h1 => ?_⟩
    have s2 : Same H1 (upd H1 l1 (.lst [])) := same_new h1
    refine ⟨_, rfl, D, rfl, ⟨_, SqL.of (s2 _ _ e1)⟩, for_list (K := K) (a := D) (xs := (allChoices i).map vT)
      (fun j σ H' => ∃ (L : Addr) (x z : Option V), σ = [some (.int n), some (.ref D), x, some (.ref L), z, none] ∧ Same H1 H' ∧ H1 L = none ∧ H' L = some (.lst ((grow ((allChoices i).take j)).map vT)))
      ⟨l1, _, _, rfl, s2, h1, upd_same⟩ (fun j σ H' _ p => SqL.of (p.choose_spec.choose_spec.choose_spec.2.1 _ _ e1)) ?_ ?_⟩
    · rintro j y σ H3 hy ⟨L, x', z', rfl, s3, nL, e3⟩
      obtain ⟨t, ht, rfl⟩ := map_at hy
      have tl : t.length = i := ((mem_allChoices i t).mp (List.mem_of_getElem? ht)).1
      refine ⟨_, rfl, _, rfl, fun D2 hD2 => lc_out (walk_str (z := "XYZ")) (fun k H' => Same H3 H' ∧ H' D2 = some (.lst ((([Lk.X, .Y, .Z].take k).map fun x => t ++ [x]).map vT))) ⟨same_new hD2, upd_same⟩ (fun _ _ _ _ => trivial) ?_ ?_⟩
      · rintro k _ _ H' hk ⟨s5, e5⟩ ⟨rfl, c, hc, rfl⟩
        rw [looks_txt] at hc
        obtain ⟨x, hx, ex⟩ := txt_at hc
        rw [ex]
        refine ⟨rfl, _, rfl, _, rfl, txt t, sg x, rfl, rfl, ?_, _, e5, ?_, same_put s5 hD2, ?_⟩
        · rw [txt_len, sg_len]
          exact Nat.le_of_lt (small1000 (by omega))
        · rw [List.length_map, List.length_map, List.length_take]
          exact small1000 (by show min k 3 ≤ 1000; omega)
        · rw [upd_same, take_next hx, List.map_append, List.map_append, txt_snoc]
          rfl
      · rintro H' ⟨s5, e5⟩
        have e5 : H' D2 = some (.lst ([t ++ [Lk.X], t ++ [Lk.Y], t ++ [Lk.Z]].map vT)) := e5
        have s35 := s3.trans s5
        refine ⟨L, D2, _, _, rfl, rfl, s5 _ _ e3, e5, ?_, fun p hp => ?_⟩
        · rw [List.length_map, grow_len, List.length_take]
          exact Nat.le_of_lt (small1000 (by show 3 * min j _ + 3 ≤ 1000; omega))
        · refine ⟨p, _, _, rfl, same_put s35 (s35.free hp), s35.free hp, ?_⟩
          rw [upd_same, grow_next ht, List.map_append]
    · rintro σ H3 ⟨L, x', z', rfl, s3, nL, e3⟩
      rw [List.length_map, List.take_length] at e3
      refine ⟨_, rfl, L, _, _, _, rfl, s1.trans s3, s1.free nL, ?_⟩
      exact e3
  · rintro σ H1 ⟨D, x, y, z, rfl, s1, nD, e1⟩
    exact ⟨_, rfl, q _ D s1 nD e1⟩
end
end TF
set_option autoImplicit false
set_option Elab.async false
set_option maxRecDepth 100000
namespace TF
open PySem L2 PyProof.Rows
def fit1 (p : Lk × Lk) : Bool := decide (p.1 = .O) || decide (p.1 = p.2)
theorem zip_at {v t : List Lk} {i : Nat} {a b : Lk} (h1 : v[i]? = some a) (h2 : t[i]? = some b) : (v.zip t)[i]? = some (a, b) := by
  rw [List.getElem?_zip_eq_some]
  exact ⟨h1, h2⟩
theorem snoc_empty {α : Type} (l : List α) (a : α) : (l ++ [a]).isEmpty = false := by cases l <;> rfl
section
variable {P : Program} {w : World} {K : PySem.W.Frag} {mg : Str → Option Value} {base : Heap}
def spLOver : Sp := fun vs H Q _ => ∃ (R : Addr) (rows : List (List Lk)) (t : List Lk), vs = [.ref R, vT t] ∧ H R = some (.lst (rows.map vT)) ∧ rows.length ≤ 32 ∧ (∀ r ∈ rows, r.length = t.length) ∧ t.length ≤ 8 ∧
  ∀ H' D acc, Same H H' → H D = none → H' D = some (.lst acc) → acc.length = (overL rows t).length → Q (.ref D) H'
abbrev N47 : List Str := ["_law_rows", "_law_choice", "_law_one", "_law_left", "_law_right"]
theorem sc47 : FnScope N47 ["_law_rows", "_law_choice"] (defScope (top 47)) := ⟨rfl, rfl, rfl, by decide +kernel, rfl, by decide +kernel, by decide +kernel⟩
theorem ok_lOver (G : Pg K mg) : FnOk P w K mg base CX0 1 G.lOver.f G.lOver.fd ["_law_rows", "_law_choice"] spLOver := by
  refine G.lOver.F.ok sc47 (fun vs H Q E h => ?_) (fun cdv A outer s H vs Q E hr h => ?_)
  · obtain ⟨R, rows, t, rfl, _⟩ := h
    rfl
  obtain ⟨R, rows, t, rfl, eR, few, len, t8, q⟩ := h
  have hu := hr.units0
  refine ⟨_, pss_one (ps_ret (pe_lc (own := [("_law_one", 2)]) (g := gName 2) rfl sc47.nd (pi_list (pv 0)) (blkOk_by (N := N47) (sc := defScope (top 47)) (by decide +kernel))
    (fun _ _ _ _ _ => pg_name (i := 2) sc47.nd rfl (Or.inl rfl)) (fun _ _ _ _ _ => pts_one (pt_cmpR (r := rNil K true) (op_eqNil hu) (pe_lc (own := [("_law_left", 3), ("_law_right", 4)]) (g := gTup K 2 (gCons (gName 3) (gCons (gName 4) gNil))) rfl sc47.nd (pi_zipS rfl G.zzip (pa_cons (pv 2) (pa_cons (pv 1) pa_nil)))
        (blkOk_by (N := N47) (sc := { kind := .function, names := [(".0", .local), ("_law_one", .local), ("zip", .globalImplicit), ("_law_choice", .cell)], isGenerator := false, isCoroutine := false }) (by decide +kernel))
        (fun _ _ _ _ _ => pg_tup rfl (pgs_cons (pg_name (i := 3) sc47.nd rfl (Or.inl rfl)) (pgs_cons (pg_name (i := 4) sc47.nd rfl (Or.inl rfl)) pgs_nil)))
        (fun _ _ _ _ _ => pts_one (PW.pt (pw_and (pt_cmpR op_ne (pv 3) pe_str (nomark _)) (pw_and1 (pt_cmpR op_ne (pv 3) (pv 4) (nomark _)))))) (fun _ _ _ _ _ => pe_int)) (pe_lst pa_nil) (nomark _)))
    (fun _ _ _ _ _ => pv 2))), ?_⟩
  refine ⟨_, rfl, R, rfl, ⟨_, SqL.of eR⟩, fun D hD => lc_out (walk_list (K := K) (a := R) (xs := rows.map vT)) (fun i H' => Same H H' ∧ ∃ acc, H' D = some (.lst acc) ∧ acc.length = ((rows.take i).filter fun v => fitsL v t).length)
    ⟨same_new hD, [], upd_same, rfl⟩ (fun i H' _ p => SqL.of (p.1 _ _ eR)) ?_ ?_⟩
  · rintro i y _ H1 hi ⟨s1, acc, e1, l1⟩ ⟨rfl, hy⟩
    obtain ⟨v, hv, rfl⟩ := map_at hy
    have lv := len v (List.mem_of_getElem? hv)
    have sz : acc.length < sizeLine := by
      rw [l1]
      exact small1000 (Nat.le_trans flt_len (by omega))
    refine ⟨rfl, _, rfl, _, rfl, txt v, txt t, rfl, fun D2 hD2 => lc_out (walk_zipS lv) (fun j H' => Same H1 H' ∧ ∃ bs, H' D2 = some (.lst bs) ∧ bs.length ≤ j ∧ bs.isEmpty = ((v.zip t).take j).all fit1) ⟨same_new hD2, [], upd_same, Nat.le_refl _, rfl⟩ (fun _ _ _ _ => trivial) ?_ ?_⟩
    · rintro j _ H2 _ hj ⟨s2, bs, e2, l2, f2⟩ ⟨T, a, b, rfl, hT, rfl, ha, hb⟩
      have sT : Same H2 (upd H2 T (.tup [.str (sg a), .str (sg b)])) := same_new hT
      have e3 := sT _ _ e2
      have s3 := s2.trans sT
      have sz2 : bs.length < sizeLine := small1000 (by omega)
      have fx : ((v.zip t).take (j + 1)).all fit1 = (bs.isEmpty && fit1 (a, b)) := by
        rw [take_next (zip_at ha hb), List.all_append, ← f2]
        show (_ && (fit1 (a, b) && true)) = _
        rw [Bool.and_true]
      refine ⟨T, _, rfl, SqT.of upd_same, rfl, _, _, rfl, _, _, rfl, rfl, rfl, ?_⟩
      refine ⟨_, rfl, rfl, _, rfl, ?_⟩
      rw [dot_sg, ne_sg]
      by_cases c1 : a ≠ .O
      · rw [decide_eq_true c1]
        refine iteT ⟨_, rfl, _, rfl, rfl, _, rfl, ?_⟩
        rw [ne_sg]
        by_cases c2 : a ≠ b
        · rw [decide_eq_true c2]
          refine iteT ⟨bs, e3, sz2, same_put s3 hD2, _, upd_same, ?_, ?_⟩
          · rw [List.length_append]
            show bs.length + 1 ≤ j + 1
            omega
          · rw [fx, snoc_empty, show fit1 (a, b) = false by simp [fit1, c1, c2], Bool.and_false]
        · rw [decide_eq_false c2]
          refine iteF ⟨s3, bs, e3, by omega, ?_⟩
          have : a = b := Decidable.of_not_not c2
          rw [fx, show fit1 (a, b) = true by simp [fit1, this], Bool.and_true]
      · rw [decide_eq_false c1]
        refine iteF (iteF ⟨s3, bs, e3, by omega, ?_⟩)
        have : a = .O := Decidable.of_not_not c1
        rw [fx, show fit1 (a, b) = true by simp [fit1, this], Bool.and_true]
    · rintro H2 ⟨s2, bs, e2, l2, f2⟩
      rw [List.take_of_length_le (by rw [List.length_zip]; omega)] at f2
      have f2 : bs.isEmpty = fitsL v t := f2
      refine ⟨Nat.zero_le _, fun e he => ⟨D2, e, bs, rfl, rfl, SqL.of (by rw [upd_ne (ne_of_none e2 he)]; exact e2), SqL.of upd_same, _, rfl, ?_⟩⟩
      have se : Same H2 (upd H2 e (.lst [])) := same_new he
      have s12 := s2.trans se
      rw [if_pos rfl, f2]
      cases c : fitsL v t with
      | true =>
        refine iteT ⟨_, rfl, acc, s12 _ _ e1, sz, same_put (s1.trans s12) hD, _, upd_same, ?_⟩
        rw [flt_next hv, if_pos c, List.length_append, List.length_append, l1]
        rfl
      | false =>
        refine iteF ⟨s1.trans s12, acc, s12 _ _ e1, ?_⟩
        rw [flt_next hv, if_neg (by rw [c]; exact Bool.false_ne_true), List.append_nil]
        exact l1
  · rintro H1 ⟨s1, acc, e1, l1⟩
    rw [List.length_map, List.take_length] at l1
    exact q _ D acc s1 hD e1 l1
end
end TF
set_option autoImplicit false
set_option Elab.async false
set_option maxRecDepth 100000
namespace TF
open PySem L2 PyProof.Rows
def rLenK (K : PySem.W.Frag) : List V → Hp → VK → Prop := fun xs H Q => ∃ (p : Addr) (ys : List V), xs = [.ref p] ∧ SqL K H p ys ∧ Q (.int (ys.length : Nat)) H
theorem call_lenK {X : Cx} : CallR X (.builtin "len") (rLenK X.K) := fun pins s σ H xs us Q I r ⟨p, ys, e, h, q⟩ => call_len_seq pins s σ H xs us Q I r ⟨p, ys, e, .inl h, q⟩
theorem class_shift {h m : Hall} (c : Can h) (r : Reach h m) {L : List Hall} (C : IsClass m L) : IsClass h L :=
  ⟨C.1, fun g => (C.2 g).trans ⟨fun q => r.trans q, fun q => (r.symm c).trans q⟩⟩
section
variable {P : Program} {w : World} {K : PySem.W.Frag} {mg : Str → Option Value} {base : Heap}
def spLaw (K : PySem.W.Frag) : Sp := fun vs H Q _ => ∃ (a : Addr) (ns : List Int), vs = [.ref a] ∧ SqL K H a (ns.map V.int) ∧ ns.length ≤ 63 ∧ ∀ H', Q (.bl true) H'
abbrev N48 : List Str := ["_law_script", "_law_row", "_law_hall_here", "_law_due", "_law_at", "_law_rows", "_law_fine", "_law_choice"]
theorem sc48 : FnScope N48 ["_law_script"] (defScope (top 48)) := ⟨rfl, rfl, rfl, by decide +kernel, rfl, by decide +kernel, by decide +kernel⟩
theorem ok_law (G : Pg K mg) : FnOk P w K mg base CX0 8 G.lLaw.f G.lLaw.fd ["_law_script"] (spLaw K) := by
  refine G.lLaw.F.ok sc48 (fun vs H Q E h => ?_) (fun cdv A outer s H vs Q E hr h => ?_)
  · obtain ⟨a, ns, rfl, _⟩ := h
    rfl
  obtain ⟨a, ns, rfl, src, _, q⟩ := h
  have hr1 : Room 1 _ := hr.mono (by decide)
  have hr2 : Room 2 _ := hr.mono (by decide)
  have hr3 : Room 3 _ := hr.mono (by decide)
  have hr4 : Room 4 _ := hr.mono (by decide)
  have hr5 : Room 5 _ := hr.mono (by decide)
  have last : ∃ tR, PSs (cxOf CX0 P w K mg base N48 "law" (defScope (top 48)) G.lLaw.f cdv A outer s H E).nox ((defBody (top 48)).drop 2) tR ∧
      ∀ (H3 : Hp) (l : Addr) (v : V) (h : Hall), Drawn K H3 l a ns → HlV K H3 v h → Okh h →
        tR { nx := fun _ H' => Q .non H', rt := Q } [some (.ref a), some (.ref l), some v, none, none, none, none, none] H3 := by
    refine ⟨_, pss_cons (ps_set (i := 3) sc48.nd rfl (Or.inl rfl) (pe_bi G.zsorted (cr_sortN rfl (room_w hr)) (pa_cons (pe_def G.lClass (ok_lClass G) hr3 (pa_cons (pv 2) pa_nil)) pa_nil)))
      (pss_cons (ps_if (PW.pt (pw_or (pt_not (pt_val (pe_def G.lAlike (ok_alike G 4) hr5 (pa_cons (pe_def G.members (ok_members G) hr (pa_cons (pv 2) pa_nil)) (pa_cons (pe_ty G.ztuple call_tuple_of (pa_cons (pv 3) pa_nil)) pa_nil)))))
        (pw_or1 (pt_not (pt_val (pe_def G.lAlike (ok_alike G 0) hr1 (pa_cons (pe_def G.countMem (ok_countMem G) hr (pa_cons (pv 2) pa_nil)) (pa_cons (pe_bi G.zlen call_len_seq (pa_cons (pv 3) pa_nil)) pa_nil)))))))) pss_never pss_nil)
      (pss_cons (ps_if (PW.pt (pw_or (pt_not (pt_val (pe_def G.lAlike (ok_alike G 3) hr4 (pa_cons (pe_def G.leastMem (ok_least G) hr (pa_cons (pv 2) pa_nil)) (pa_cons (pe_ix ix_list (pv 3) pe_int (fun _ _ => rfl)) pa_nil)))))
        (pw_or1 (pt_not (pt_val (pe_def G.lAlike (ok_alike G 0) hr1 (pa_cons (pe_def G.numberOf (ok_numberOf G) hr (pa_cons (pv 2) pa_nil)) (pa_cons (pe_bm PySem.F.plainAttrs_list PySem.F.slot_list_index PySem.F.type_list_index (mt_indexD (room_v hr)) (pv 3) (pa_cons (pv 2) pa_nil)) pa_nil)))))))) pss_never pss_nil)
      (pss_cons (ps_set (i := 4) sc48.nd rfl (Or.inl rfl) (pe_def G.lTaken (ok_taken G) hr1 (pa_cons (pv 1) (pa_cons (pe_bi G.zlen call_len_seq (pa_cons (pv 3) pa_nil)) pa_nil))))
      (pss_cons (ps_if (PW.pt (pw_or (pt_not (pt_val (pe_def G.lAlike (ok_alike G 3) hr4 (pa_cons (pe_def G.memberAt (ok_memberAt G) hr (pa_cons (pv 2) (pa_cons (pv 4) pa_nil))) (pa_cons (pe_ix ix_list (pv 3) (pv 4) (fun _ _ => rfl)) pa_nil)))))
        (pw_or1 (pt_cmpR op_ne (pe_def G.numberOf (ok_numberOf G) hr (pa_cons (pe_ix ix_list (pv 3) (pv 4) (fun _ _ => rfl)) pa_nil)) (pv 4) (nomark _))))) pss_never pss_nil)
      (pss_cons (ps_if (pt_cmpR op_gt (pe_ix ix_tup (pv 2) pe_int (fun _ _ => rfl)) pe_int (nomark _)) (pss_one (ps_ret pe_bl)) pss_nil)
      (pss_cons (ps_set (i := 5) sc48.nd rfl (Or.inr rfl) (pe_def G.lRoom (ok_lRoom G) hr3 (pa_cons (pv 2) pa_nil)))
      (pss_cons (ps_setLc (i := 6) (own := [("_law_choice", 7)]) (g := gName 7) rfl sc48.nd rfl rfl (sw_true rfl rfl rfl (by decide +kernel)) (pi_list (pe_def G.lChoices (ok_lChoices G) hr1 (pa_cons (pe_ix ix_tup (pv 2) pe_int (fun _ _ => rfl)) pa_nil))) (blkOk_by (N := N48) (sc := defScope (top 48)) (by decide +kernel))
        (fun _ _ _ _ _ => pg_name (i := 7) sc48.nd rfl (Or.inl rfl)) (fun _ _ _ _ _ => pts_one (pt_cmpR op_eq (pe_bi (r := rLenK K) G.zlen call_lenK (pa_cons (pe_def G.lOver (ok_lOver G) hr1 (pa_cons (pv 5) (pa_cons (pv 7) pa_nil))) pa_nil)) pe_int (nomark _))) (fun _ _ _ _ _ => pv 7))
      (pss_one (ps_ret (pe_cmpR op_eq (pe_bi G.zlen call_len_seq (pa_cons (pv 6) pa_nil)) (pe_op op_mul (pe_bi G.zlen call_len_seq (pa_cons (pv 3) pa_nil)) (pe_def G.countAns (ok_count G) hr (pa_cons (pv 2) (pa_cons (pv 2) pa_nil)))) (nomark _))))))))))), ?_⟩
    intro H3 l v h d3 hv O
    refine ⟨_, rfl, v, h, rfl, hv, O, fun H4 d ks s4 C N few => ⟨d, ks, rfl, N, Nat.le_trans few (by decide), fun U us nU lu du => ?_⟩⟩
    have du : DpAll K H4 us ((sortH ks).map dH) := du
    have sU : Same H4 (upd H4 U (.lst us)) := same_new nU
    have eU : (upd H4 U (.lst us)) U = some (.lst us) := upd_same
    have fU := dps_same sU _ _ du
    have s35 := s4.trans sU
    have d5 := d3.same s35
    have hv5 := dp_same s35 _ _ hv
    have nUl : U ≠ l := fun z => by
      have nU3 := s4.free nU
      obtain ⟨_, _, _, e, _⟩ := d3.row
      rw [z, e] at nU3
      cases nU3
    generalize upd H4 U (.lst us) = H5 at sU eU fU s35 d5 hv5
    clear sU s35 du nU N d3 hv s4
    have lus : us.length = ks.length := lu
    have lsk : us.length = (sortH ks).length := by rw [lus, sortH_len]
    have kpos : 0 < ks.length := class_pos C
    have reach : ∀ m ∈ sortH ks, Reach h m := fun m hm => (C.2 m).mp ((sortH_perm ks).mem_iff.mp hm)
    have okm : ∀ m, Reach h m → Okh m := fun m r => ⟨r.can O.1, by rw [r.one]; exact O.2.1, by rw [r.one]; exact O.2.2⟩
    have pf : ∀ m ∈ sortH ks, m.2.length ≤ 1100 := fun m hm => Nat.le_trans (okm m (reach m hm)).few (by decide)
    -- members, count
    refine ⟨_, rfl, v, h, rfl, hv5, O, fun H6 u L s6 CL du6 => ⟨_, rfl, U, us, rfl, .inl ⟨SqL.of (s6 _ _ eU), fun t ht => ?_⟩⟩⟩
    have s7 : Same H6 (upd H6 t (.tup us)) := same_new ht
    rw [class_sort CL C] at du6
    refine ⟨u, .ref t, _, rfl, dp_same s7 _ _ du6, .tup (SqT.of upd_same) (dps_same (s6.trans s7) _ _ fU), al_dHs (by rw [sortH_len]; omega) pf, fun H8 s8 => ⟨true, rfl, iteF ?_⟩⟩
    have a8 := s6.trans (s7.trans s8)
    refine ⟨_, rfl, v, h, rfl, dp_same a8 _ _ hv5, O, fun H9 n s9 hn => ⟨_, rfl, U, us, rfl, .inl (SqL.of (a8.trans s9 _ _ eU)), ?_⟩⟩
    rw [hn ks C, ← lus]
    refine ⟨_, _, .int (us.length : Nat), rfl, .int _, .int _, al_int 0 _, fun H10 s10 => ⟨true, rfl, iteF ?_⟩⟩
    have a10 := a8.trans (s9.trans s10)
    -- least, number
    refine ⟨_, rfl, v, h, rfl, dp_same a10 _ _ hv5, O, fun H11 u2 L2 m s11 CL2 hm hu2 => ?_⟩
    have a11 := a10.trans s11
    rw [class_sort CL2 C] at hm
    obtain ⟨w2, hw2, gw2⟩ := hl_get fU hm
    refine ⟨_, rfl, U, _, _, w2, rfl, rfl, SqL.of (a11 _ _ eU), atI_nat (j := 0) hw2, u2, w2, dH m, rfl, hu2, dp_same a11 _ _ gw2, al_dH (pf m (List.mem_of_getElem? hm)), fun H12 s12 => ⟨true, rfl, iteF ?_⟩⟩
    have a12 := a11.trans s12
    refine ⟨_, rfl, v, h, rfl, dp_same a12 _ _ hv5, O, fun H13 L3 j s13 CL3 hj => ?_⟩
    have a13 := a12.trans s13
    rw [class_sort CL3 C] at hj
    refine ⟨_, rfl, .inl ⟨rfl, _, SqL.of (a13 _ _ eU)⟩, _, rfl, U, v, dH h, (sortH ks).map dH, j, dH h, rfl, rfl, .lst (SqL.of (a13 _ _ eU)) (dps_same a13 _ _ fU), dp_same a13 _ _ hv5, dHs_shapedL _, dH_shaped _, ?_, ?_, not_ahead (sortH_nodup C.1) hj, ?_⟩
    · rw [List.getElem?_map, hj]
      rfl
    · rw [dH_eqv]
      exact decide_eq_true rfl
    refine ⟨_, _, .int (j : Nat), rfl, .int _, .int _, al_int 0 _, fun H14 s14 => ⟨true, rfl, iteF ?_⟩⟩
    have a14 := a13.trans s14
    -- at
    refine ⟨_, rfl, _, rfl, U, us, rfl, .inl (SqL.of (a14 _ _ eU)), l, a, ns, us.length, rfl, d5.same a14, by omega, by omega, fun H15 k s15 d15 hk => ?_⟩
    have t15 := s15.tp (d5.same a14).row
    have eU15 := s15 _ _ nUl (a14 _ _ eU)
    have fU15 := t15.hls (dps_same a14 _ _ fU)
    have hv15 := t15.hl (dp_same a14 _ _ hv5)
    clear a14 a13 a12 a11 a10 a8 fU eU hv5 s14 s13 s12 s11 s10 s9 s8 s7 s6 d5
    refine ⟨_, rfl, _, rfl, v, h, k, rfl, hv15, O, (fun L4 C4 => by rw [class_len C4 C]; omega), fun H16 u4 L4 m4 s16 CL4 hm4 hu4 => ?_⟩
    rw [class_sort CL4 C] at hm4
    obtain ⟨w4, hw4, gw4⟩ := hl_get fU15 hm4
    refine ⟨_, rfl, _, rfl, U, _, _, w4, rfl, rfl, SqL.of (s16 _ _ eU15), atI_nat hw4, u4, w4, dH m4, rfl, hu4, dp_same s16 _ _ gw4, al_dH (pf m4 (List.mem_of_getElem? hm4)), fun H17 s17 => ⟨true, rfl, iteF ?_⟩⟩
    have a17 := s16.trans s17
    have r4 := reach m4 (List.mem_of_getElem? hm4)
    refine ⟨_, rfl, _, rfl, U, _, _, w4, rfl, rfl, SqL.of (a17 _ _ eU15), atI_nat hw4, w4, m4, rfl, dp_same a17 _ _ gw4, okm m4 r4, fun H18 L5 j5 s18 CL5 hj5 => ?_⟩
    rw [class_sort (class_shift O.1 r4 CL5) C] at hj5
    have ejk : j5 = k := by
      obtain ⟨b1, e1⟩ := List.getElem?_eq_some_iff.mp hj5
      obtain ⟨b2, e2⟩ := List.getElem?_eq_some_iff.mp hm4
      exact (List.getElem_inj (sortH_nodup C.1)).mp (e1.trans e2.symm)
    subst ejk
    refine ⟨_, rfl, rfl, _, rfl, ?_⟩
    refine iteNS ?_ ?_
    · simp
    have a18 := a17.trans s18
    have eU18 := a18 _ _ eU15
    have hv18 := dp_same a18 _ _ hv15
    clear a18 a17 s18 s17 s16 eU15 fU15 hv15 t15 s15 d15
    obtain ⟨ah, bh, qs, rfl, sa, sb, hq⟩ := hlV_open hv18
    refine ⟨_, rfl, ah, _, _, .int h.1, rfl, rfl, sa, atI_nat (j := 0) rfl, _, _, rfl, rfl, _, rfl, ite2 (fun _ => q _) (fun _ => ?_)⟩
    -- choices
    refine ⟨_, rfl, .ref ah, h, rfl, hv18, O, fun H19 D s19 nD eD => ?_⟩
    refine ⟨_, rfl, ah, _, _, .int h.1, rfl, rfl, same_t s19 sa, atI_nat (j := 0) rfl, h.1, rfl, O.2.2, fun H20 c s20 nc ec => ?_⟩
    have few3 := choices_few O.2.2
    refine ⟨c, rfl, ⟨_, SqL.of ec⟩, fun F hF => lc_out (walk_list (K := K) (a := c) (xs := (allChoices h.1).map vT))
      (fun i H' => Same H20 H' ∧ ∃ acc, H' F = some (.lst acc) ∧ acc.length = (((allChoices h.1).take i).filter fun t => decide ((overL (roomL h h.1) t).length = 1)).length) ⟨same_new hF, [], upd_same, rfl⟩ (fun i H' _ p => SqL.of (p.1 _ _ ec)) ?_ ?_⟩
    · rintro i y _ H21 hi ⟨s21, acc, e21, l21⟩ ⟨rfl, hy⟩
      obtain ⟨t, ht, rfl⟩ := map_at hy
      have lt : t.length = h.1 := ((mem_allChoices h.1 t).mp (List.mem_of_getElem? ht)).1
      have sz : acc.length < sizeLine := by
        rw [l21]
        exact small1000 (Nat.le_trans flt_len (by omega))
      refine ⟨rfl, _, rfl, _, rfl, D, roomL h h.1, t, rfl, s21 _ _ (s20 _ _ eD), by rw [room_many]; exact pow5 O.2.2, fun r hr' => by rw [lt]; exact room_len h h.1 r hr', by rw [lt]; exact Nat.le_trans O.2.2 (by decide), fun H22 B acc2 s22 nB eB lB => ?_⟩
      refine ⟨B, acc2, rfl, SqL.of eB, rfl, _, rfl, ?_⟩
      rw [lB]
      refine eqi (b := 1) (fun c1 => ?_) fun c1 => ?_
      · refine ⟨_, rfl, acc, s22 _ _ e21, sz, same_put (s21.trans s22) hF, _, upd_same, ?_⟩
        rw [flt_next ht, if_pos (decide_eq_true c1), List.length_append, List.length_append, l21]
        rfl
      · refine ⟨s21.trans s22, acc, s22 _ _ e21, ?_⟩
        rw [flt_next ht, if_neg (by rw [decide_eq_false c1]; exact Bool.false_ne_true), List.append_nil]
        exact l21
    · rintro H21 ⟨s21, acc, e21, l21⟩
      rw [List.length_map, List.take_length] at l21
      have a21 := s19.trans (s20.trans s21)
      have hv21 := dp_same a21 _ _ hv18
      refine ⟨_, rfl, F, acc, rfl, .inl (SqL.of e21), _, rfl, U, us, rfl, .inl (SqL.of (a21 _ _ eU18)), _, rfl, _, rfl, .ref ah, .ref ah, h, h, rfl, hv21, hv21, O, O, rfl, fun H23 S s23 A => ?_⟩
      refine ⟨_, _, rfl, rfl, .inl ⟨by omega, by omega⟩, rfl, ?_⟩
      have e : acc.length = us.length * (atHall S h).length := by
        rw [lus, ← A.law O.1 C]
        exact l21
      refine q_true (congrArg V.int ?_) (q _)
      rw [e]
      exact Int.natCast_mul _ _
  obtain ⟨tR, hR, kR⟩ := last
  refine ⟨_, pss_cons (ps_set (i := 1) sc48.nd rfl (Or.inl rfl) (pe_lst (pa_cons (pv 0) (pa_cons pe_int (pa_cons pe_int (pa_cons pe_int pa_nil))))))
    (pss_cons (ps_set (i := 2) sc48.nd rfl (Or.inl rfl) (pe_def G.lHall (ok_lHall G) hr2 (pa_cons (pv 1) (pa_cons (pe_ifExp (pt_cmpR op_gt (pe_def G.lTaken (ok_taken G) hr1 (pa_cons (pv 1) (pa_cons pe_int pa_nil))) pe_int (nomark _)) pe_int pe_int) pa_nil)))) hR), ?_⟩
  refine ⟨_, rfl, by show 4 ≤ sizeLine; decide, fun l hl => ?_⟩
  have s1 : Same H (upd H l (.lst [.ref a, .int 0, .int 7215, .int 0])) := same_new hl
  have d1 : Drawn K (upd H l (.lst [.ref a, .int 0, .int 7215, .int 0])) l a ns := by
    refine ⟨⟨0, 7215, 0, upd_same, by decide, by decide, by decide⟩, s1.seq src, fun H' s => ?_⟩
    rcases src with (e | ⟨o, e⟩) | k
    · exact .inl (.inl (s _ _ (ne_of_none e hl) (s1 _ _ e)))
    · exact .inl (.inr ⟨o, s _ _ (ne_of_none e hl) (s1 _ _ e)⟩)
    · exact .inr k
  generalize upd H l (.lst [.ref a, .int 0, .int 7215, .int 0]) = H1 at d1
  refine ⟨_, rfl, _, rfl, l, a, ns, 8, rfl, d1, by decide, by decide, fun H2 k s2 d2 hk => ⟨_, _, rfl, rfl, _, rfl, ite2 (fun _ => ?_) (fun _ => ?_)⟩⟩
  · exact ⟨l, a, ns, 4, rfl, d2, by decide, by decide, fun H3 v h s3 d3 hv O => kR H3 l v h d3 hv O⟩
  · exact ⟨l, a, ns, 5, rfl, d2, by decide, by decide, fun H3 v h s3 d3 hv O => kR H3 l v h d3 hv O⟩
end
end TF
set_option autoImplicit false
set_option Elab.async false
set_option maxRecDepth 100000
namespace TF
open PySem L2 PyProof.Rows
/-! ### what stands behind the top -/
def mkDef {K : PySem.W.Frag} {h : Heap} {mg : Str → Option Value} (X : K.In h) (G : h.Ns mainGlobals mg) {x : Str} {i : Nat} {ps : List Str} {f : Addr} {od an : Option Addr} {sl : Array (Option Value)} {oc kV dc pm cd ct : Value}
    (a : PySem.W.nsIn K mainGlobals x = some (some (.ref f))) (l : K.lookup f = some ⟨oc, od, .func (PySem.W.fnOf x x (defArgs (top i)) (defBody (top i)) (defScope (top i)) .none kV dc pm an cd ct), sl⟩) (c : PySem.W.codeIn K cd x = true) (k : PySem.W.keepIn K (.ref f) = true)
    (hb : ∀ (kV doc pm : Value) (an : Option Addr) (cdv ct : Value) (us : List Value), us.length = ps.length → bindArgs (PySem.W.fnOf x x (defArgs (top i)) (defBody (top i)) (defScope (top i)) .none kV doc pm an cdv ct) ⟨us, []⟩ = pure (ps.zip us)) : Def K mg x i ps :=
  ⟨f, _, fun_mk l c k, PySem.W.mg_of X G a, (fun_mk (st := top i) l c k).binds hb⟩

set_option maxHeartbeats 4000000 in
theorem all_mk {l : PySem.W.OpenLaw} {w : World} {K : PySem.W.Frag} {h : Heap} {mg : Str → Option Value} {fa : Addr} (X : K.In h) (G : h.Ns mainGlobals mg) (hfa : mg "law" = some (.ref fa))
    {f7 : Addr} {od7 an7 : Option Addr} {sl7 : Array (Option Value)} {oc7 kV7 dc7 pm7 cd7 ct7 : Value}
    (a7 : PySem.W.nsIn K mainGlobals "is_integer" = some (some (.ref f7))) (l7 : K.lookup f7 = some ⟨oc7, od7, .func (PySem.W.fnOf "is_integer" "is_integer" (defArgs (top 7)) (defBody (top 7)) (defScope (top 7)) .none kV7 dc7 pm7 an7 cd7 ct7), sl7⟩) (c7 : PySem.W.codeIn K cd7 "is_integer" = true) (k7 : PySem.W.keepIn K (.ref f7) = true)
    {f8 : Addr} {od8 an8 : Option Addr} {sl8 : Array (Option Value)} {oc8 kV8 dc8 pm8 cd8 ct8 : Value}
    (a8 : PySem.W.nsIn K mainGlobals "is_from" = some (some (.ref f8))) (l8 : K.lookup f8 = some ⟨oc8, od8, .func (PySem.W.fnOf "is_from" "is_from" (defArgs (top 8)) (defBody (top 8)) (defScope (top 8)) .none kV8 dc8 pm8 an8 cd8 ct8), sl8⟩) (c8 : PySem.W.codeIn K cd8 "is_from" = true) (k8 : PySem.W.keepIn K (.ref f8) = true)
    {f9 : Addr} {od9 an9 : Option Addr} {sl9 : Array (Option Value)} {oc9 kV9 dc9 pm9 cd9 ct9 : Value}
    (a9 : PySem.W.nsIn K mainGlobals "is_pair_of" = some (some (.ref f9))) (l9 : K.lookup f9 = some ⟨oc9, od9, .func (PySem.W.fnOf "is_pair_of" "is_pair_of" (defArgs (top 9)) (defBody (top 9)) (defScope (top 9)) .none kV9 dc9 pm9 an9 cd9 ct9), sl9⟩) (c9 : PySem.W.codeIn K cd9 "is_pair_of" = true) (k9 : PySem.W.keepIn K (.ref f9) = true)
    {f10 : Addr} {od10 an10 : Option Addr} {sl10 : Array (Option Value)} {oc10 kV10 dc10 pm10 cd10 ct10 : Value}
    (a10 : PySem.W.nsIn K mainGlobals "is_hall" = some (some (.ref f10))) (l10 : K.lookup f10 = some ⟨oc10, od10, .func (PySem.W.fnOf "is_hall" "is_hall" (defArgs (top 10)) (defBody (top 10)) (defScope (top 10)) .none kV10 dc10 pm10 an10 cd10 ct10), sl10⟩) (c10 : PySem.W.codeIn K cd10 "is_hall" = true) (k10 : PySem.W.keepIn K (.ref f10) = true)
    {f11 : Addr} {od11 an11 : Option Addr} {sl11 : Array (Option Value)} {oc11 kV11 dc11 pm11 cd11 ct11 : Value}
    (a11 : PySem.W.nsIn K mainGlobals "need_hall" = some (some (.ref f11))) (l11 : K.lookup f11 = some ⟨oc11, od11, .func (PySem.W.fnOf "need_hall" "need_hall" (defArgs (top 11)) (defBody (top 11)) (defScope (top 11)) .none kV11 dc11 pm11 an11 cd11 ct11), sl11⟩) (c11 : PySem.W.codeIn K cd11 "need_hall" = true) (k11 : PySem.W.keepIn K (.ref f11) = true)
    {f12 : Addr} {od12 an12 : Option Addr} {sl12 : Array (Option Value)} {oc12 kV12 dc12 pm12 cd12 ct12 : Value}
    (a12 : PySem.W.nsIn K mainGlobals "are_pair" = some (some (.ref f12))) (l12 : K.lookup f12 = some ⟨oc12, od12, .func (PySem.W.fnOf "are_pair" "are_pair" (defArgs (top 12)) (defBody (top 12)) (defScope (top 12)) .none kV12 dc12 pm12 an12 cd12 ct12), sl12⟩) (c12 : PySem.W.codeIn K cd12 "are_pair" = true) (k12 : PySem.W.keepIn K (.ref f12) = true)
    {f13 : Addr} {od13 an13 : Option Addr} {sl13 : Array (Option Value)} {oc13 kV13 dc13 pm13 cd13 ct13 : Value}
    (a13 : PySem.W.nsIn K mainGlobals "friends_of" = some (some (.ref f13))) (l13 : K.lookup f13 = some ⟨oc13, od13, .func (PySem.W.fnOf "friends_of" "friends_of" (defArgs (top 13)) (defBody (top 13)) (defScope (top 13)) .none kV13 dc13 pm13 an13 cd13 ct13), sl13⟩) (c13 : PySem.W.codeIn K cd13 "friends_of" = true) (k13 : PySem.W.keepIn K (.ref f13) = true)
    {f14 : Addr} {od14 an14 : Option Addr} {sl14 : Array (Option Value)} {oc14 kV14 dc14 pm14 cd14 ct14 : Value}
    (a14 : PySem.W.nsIn K mainGlobals "behind_turn" = some (some (.ref f14))) (l14 : K.lookup f14 = some ⟨oc14, od14, .func (PySem.W.fnOf "behind_turn" "behind_turn" (defArgs (top 14)) (defBody (top 14)) (defScope (top 14)) .none kV14 dc14 pm14 an14 cd14 ct14), sl14⟩) (c14 : PySem.W.codeIn K cd14 "behind_turn" = true) (k14 : PySem.W.keepIn K (.ref f14) = true)
    {f17 : Addr} {od17 an17 : Option Addr} {sl17 : Array (Option Value)} {oc17 kV17 dc17 pm17 cd17 ct17 : Value}
    (a17 : PySem.W.nsIn K mainGlobals "sum_of" = some (some (.ref f17))) (l17 : K.lookup f17 = some ⟨oc17, od17, .func (PySem.W.fnOf "sum_of" "sum_of" (defArgs (top 17)) (defBody (top 17)) (defScope (top 17)) .none kV17 dc17 pm17 an17 cd17 ct17), sl17⟩) (c17 : PySem.W.codeIn K cd17 "sum_of" = true) (k17 : PySem.W.keepIn K (.ref f17) = true)
    {f20 : Addr} {od20 an20 : Option Addr} {sl20 : Array (Option Value)} {oc20 kV20 dc20 pm20 cd20 ct20 : Value}
    (a20 : PySem.W.nsIn K mainGlobals "first_step" = some (some (.ref f20))) (l20 : K.lookup f20 = some ⟨oc20, od20, .func (PySem.W.fnOf "first_step" "first_step" (defArgs (top 20)) (defBody (top 20)) (defScope (top 20)) .none kV20 dc20 pm20 an20 cd20 ct20), sl20⟩) (c20 : PySem.W.codeIn K cd20 "first_step" = true) (k20 : PySem.W.keepIn K (.ref f20) = true)
    {f21 : Addr} {od21 an21 : Option Addr} {sl21 : Array (Option Value)} {oc21 kV21 dc21 pm21 cd21 ct21 : Value}
    (a21 : PySem.W.nsIn K mainGlobals "all_steps" = some (some (.ref f21))) (l21 : K.lookup f21 = some ⟨oc21, od21, .func (PySem.W.fnOf "all_steps" "all_steps" (defArgs (top 21)) (defBody (top 21)) (defScope (top 21)) .none kV21 dc21 pm21 an21 cd21 ct21), sl21⟩) (c21 : PySem.W.codeIn K cd21 "all_steps" = true) (k21 : PySem.W.keepIn K (.ref f21) = true)
    {f23 : Addr} {od23 an23 : Option Addr} {sl23 : Array (Option Value)} {oc23 kV23 dc23 pm23 cd23 ct23 : Value}
    (a23 : PySem.W.nsIn K mainGlobals "need_halls" = some (some (.ref f23))) (l23 : K.lookup f23 = some ⟨oc23, od23, .func (PySem.W.fnOf "need_halls" "need_halls" (defArgs (top 23)) (defBody (top 23)) (defScope (top 23)) .none kV23 dc23 pm23 an23 cd23 ct23), sl23⟩) (c23 : PySem.W.codeIn K cd23 "need_halls" = true) (k23 : PySem.W.keepIn K (.ref f23) = true)
    {f24 : Addr} {od24 an24 : Option Addr} {sl24 : Array (Option Value)} {oc24 kV24 dc24 pm24 cd24 ct24 : Value}
    (a24 : PySem.W.nsIn K mainGlobals "change_of" = some (some (.ref f24))) (l24 : K.lookup f24 = some ⟨oc24, od24, .func (PySem.W.fnOf "change_of" "change_of" (defArgs (top 24)) (defBody (top 24)) (defScope (top 24)) .none kV24 dc24 pm24 an24 cd24 ct24), sl24⟩) (c24 : PySem.W.codeIn K cd24 "change_of" = true) (k24 : PySem.W.keepIn K (.ref f24) = true)
    {f25 : Addr} {od25 an25 : Option Addr} {sl25 : Array (Option Value)} {oc25 kV25 dc25 pm25 cd25 ct25 : Value}
    (a25 : PySem.W.nsIn K mainGlobals "answers_to" = some (some (.ref f25))) (l25 : K.lookup f25 = some ⟨oc25, od25, .func (PySem.W.fnOf "answers_to" "answers_to" (defArgs (top 25)) (defBody (top 25)) (defScope (top 25)) .none kV25 dc25 pm25 an25 cd25 ct25), sl25⟩) (c25 : PySem.W.codeIn K cd25 "answers_to" = true) (k25 : PySem.W.keepIn K (.ref f25) = true)
    {f26 : Addr} {od26 an26 : Option Addr} {sl26 : Array (Option Value)} {oc26 kV26 dc26 pm26 cd26 ct26 : Value}
    (a26 : PySem.W.nsIn K mainGlobals "count_answers" = some (some (.ref f26))) (l26 : K.lookup f26 = some ⟨oc26, od26, .func (PySem.W.fnOf "count_answers" "count_answers" (defArgs (top 26)) (defBody (top 26)) (defScope (top 26)) .none kV26 dc26 pm26 an26 cd26 ct26), sl26⟩) (c26 : PySem.W.codeIn K cd26 "count_answers" = true) (k26 : PySem.W.keepIn K (.ref f26) = true)
    {f28 : Addr} {od28 an28 : Option Addr} {sl28 : Array (Option Value)} {oc28 kV28 dc28 pm28 cd28 ct28 : Value}
    (a28 : PySem.W.nsIn K mainGlobals "members_of" = some (some (.ref f28))) (l28 : K.lookup f28 = some ⟨oc28, od28, .func (PySem.W.fnOf "members_of" "members_of" (defArgs (top 28)) (defBody (top 28)) (defScope (top 28)) .none kV28 dc28 pm28 an28 cd28 ct28), sl28⟩) (c28 : PySem.W.codeIn K cd28 "members_of" = true) (k28 : PySem.W.keepIn K (.ref f28) = true)
    {f29 : Addr} {od29 an29 : Option Addr} {sl29 : Array (Option Value)} {oc29 kV29 dc29 pm29 cd29 ct29 : Value}
    (a29 : PySem.W.nsIn K mainGlobals "members" = some (some (.ref f29))) (l29 : K.lookup f29 = some ⟨oc29, od29, .func (PySem.W.fnOf "members" "members" (defArgs (top 29)) (defBody (top 29)) (defScope (top 29)) .none kV29 dc29 pm29 an29 cd29 ct29), sl29⟩) (c29 : PySem.W.codeIn K cd29 "members" = true) (k29 : PySem.W.keepIn K (.ref f29) = true)
    {f30 : Addr} {od30 an30 : Option Addr} {sl30 : Array (Option Value)} {oc30 kV30 dc30 pm30 cd30 ct30 : Value}
    (a30 : PySem.W.nsIn K mainGlobals "number_in_class" = some (some (.ref f30))) (l30 : K.lookup f30 = some ⟨oc30, od30, .func (PySem.W.fnOf "number_in_class" "number_in_class" (defArgs (top 30)) (defBody (top 30)) (defScope (top 30)) .none kV30 dc30 pm30 an30 cd30 ct30), sl30⟩) (c30 : PySem.W.codeIn K cd30 "number_in_class" = true) (k30 : PySem.W.keepIn K (.ref f30) = true)
    {f31 : Addr} {od31 an31 : Option Addr} {sl31 : Array (Option Value)} {oc31 kV31 dc31 pm31 cd31 ct31 : Value}
    (a31 : PySem.W.nsIn K mainGlobals "count_members" = some (some (.ref f31))) (l31 : K.lookup f31 = some ⟨oc31, od31, .func (PySem.W.fnOf "count_members" "count_members" (defArgs (top 31)) (defBody (top 31)) (defScope (top 31)) .none kV31 dc31 pm31 an31 cd31 ct31), sl31⟩) (c31 : PySem.W.codeIn K cd31 "count_members" = true) (k31 : PySem.W.keepIn K (.ref f31) = true)
    {f32 : Addr} {od32 an32 : Option Addr} {sl32 : Array (Option Value)} {oc32 kV32 dc32 pm32 cd32 ct32 : Value}
    (a32 : PySem.W.nsIn K mainGlobals "least_member" = some (some (.ref f32))) (l32 : K.lookup f32 = some ⟨oc32, od32, .func (PySem.W.fnOf "least_member" "least_member" (defArgs (top 32)) (defBody (top 32)) (defScope (top 32)) .none kV32 dc32 pm32 an32 cd32 ct32), sl32⟩) (c32 : PySem.W.codeIn K cd32 "least_member" = true) (k32 : PySem.W.keepIn K (.ref f32) = true)
    {f33 : Addr} {od33 an33 : Option Addr} {sl33 : Array (Option Value)} {oc33 kV33 dc33 pm33 cd33 ct33 : Value}
    (a33 : PySem.W.nsIn K mainGlobals "member_at" = some (some (.ref f33))) (l33 : K.lookup f33 = some ⟨oc33, od33, .func (PySem.W.fnOf "member_at" "member_at" (defArgs (top 33)) (defBody (top 33)) (defScope (top 33)) .none kV33 dc33 pm33 an33 cd33 ct33), sl33⟩) (c33 : PySem.W.codeIn K cd33 "member_at" = true) (k33 : PySem.W.keepIn K (.ref f33) = true)
    {f34 : Addr} {od34 an34 : Option Addr} {sl34 : Array (Option Value)} {oc34 kV34 dc34 pm34 cd34 ct34 : Value}
    (a34 : PySem.W.nsIn K mainGlobals "number_of" = some (some (.ref f34))) (l34 : K.lookup f34 = some ⟨oc34, od34, .func (PySem.W.fnOf "number_of" "number_of" (defArgs (top 34)) (defBody (top 34)) (defScope (top 34)) .none kV34 dc34 pm34 an34 cd34 ct34), sl34⟩) (c34 : PySem.W.codeIn K cd34 "number_of" = true) (k34 : PySem.W.keepIn K (.ref f34) = true)
    {f36 : Addr} {od36 an36 : Option Addr} {sl36 : Array (Option Value)} {oc36 kV36 dc36 pm36 cd36 ct36 : Value}
    (a36 : PySem.W.nsIn K mainGlobals "_law_taken" = some (some (.ref f36))) (l36 : K.lookup f36 = some ⟨oc36, od36, .func (PySem.W.fnOf "_law_taken" "_law_taken" (defArgs (top 36)) (defBody (top 36)) (defScope (top 36)) .none kV36 dc36 pm36 an36 cd36 ct36), sl36⟩) (c36 : PySem.W.codeIn K cd36 "_law_taken" = true) (k36 : PySem.W.keepIn K (.ref f36) = true)
    {f37 : Addr} {od37 an37 : Option Addr} {sl37 : Array (Option Value)} {oc37 kV37 dc37 pm37 cd37 ct37 : Value}
    (a37 : PySem.W.nsIn K mainGlobals "_law_alike" = some (some (.ref f37))) (l37 : K.lookup f37 = some ⟨oc37, od37, .func (PySem.W.fnOf "_law_alike" "_law_alike" (defArgs (top 37)) (defBody (top 37)) (defScope (top 37)) .none kV37 dc37 pm37 an37 cd37 ct37), sl37⟩) (c37 : PySem.W.codeIn K cd37 "_law_alike" = true) (k37 : PySem.W.keepIn K (.ref f37) = true)
    {f38 : Addr} {od38 an38 : Option Addr} {sl38 : Array (Option Value)} {oc38 kV38 dc38 pm38 cd38 ct38 : Value}
    (a38 : PySem.W.nsIn K mainGlobals "_law_pairs" = some (some (.ref f38))) (l38 : K.lookup f38 = some ⟨oc38, od38, .func (PySem.W.fnOf "_law_pairs" "_law_pairs" (defArgs (top 38)) (defBody (top 38)) (defScope (top 38)) .none kV38 dc38 pm38 an38 cd38 ct38), sl38⟩) (c38 : PySem.W.codeIn K cd38 "_law_pairs" = true) (k38 : PySem.W.keepIn K (.ref f38) = true)
    {f39 : Addr} {od39 an39 : Option Addr} {sl39 : Array (Option Value)} {oc39 kV39 dc39 pm39 cd39 ct39 : Value}
    (a39 : PySem.W.nsIn K mainGlobals "_law_hall" = some (some (.ref f39))) (l39 : K.lookup f39 = some ⟨oc39, od39, .func (PySem.W.fnOf "_law_hall" "_law_hall" (defArgs (top 39)) (defBody (top 39)) (defScope (top 39)) .none kV39 dc39 pm39 an39 cd39 ct39), sl39⟩) (c39 : PySem.W.codeIn K cd39 "_law_hall" = true) (k39 : PySem.W.keepIn K (.ref f39) = true)
    {f40 : Addr} {od40 an40 : Option Addr} {sl40 : Array (Option Value)} {oc40 kV40 dc40 pm40 cd40 ct40 : Value}
    (a40 : PySem.W.nsIn K mainGlobals "_law_friends" = some (some (.ref f40))) (l40 : K.lookup f40 = some ⟨oc40, od40, .func (PySem.W.fnOf "_law_friends" "_law_friends" (defArgs (top 40)) (defBody (top 40)) (defScope (top 40)) .none kV40 dc40 pm40 an40 cd40 ct40), sl40⟩) (c40 : PySem.W.codeIn K cd40 "_law_friends" = true) (k40 : PySem.W.keepIn K (.ref f40) = true)
    {f41 : Addr} {od41 an41 : Option Addr} {sl41 : Array (Option Value)} {oc41 kV41 dc41 pm41 cd41 ct41 : Value}
    (a41 : PySem.W.nsIn K mainGlobals "_law_turn" = some (some (.ref f41))) (l41 : K.lookup f41 = some ⟨oc41, od41, .func (PySem.W.fnOf "_law_turn" "_law_turn" (defArgs (top 41)) (defBody (top 41)) (defScope (top 41)) .none kV41 dc41 pm41 an41 cd41 ct41), sl41⟩) (c41 : PySem.W.codeIn K cd41 "_law_turn" = true) (k41 : PySem.W.keepIn K (.ref f41) = true)
    {f42 : Addr} {od42 an42 : Option Addr} {sl42 : Array (Option Value)} {oc42 kV42 dc42 pm42 cd42 ct42 : Value}
    (a42 : PySem.W.nsIn K mainGlobals "_law_class" = some (some (.ref f42))) (l42 : K.lookup f42 = some ⟨oc42, od42, .func (PySem.W.fnOf "_law_class" "_law_class" (defArgs (top 42)) (defBody (top 42)) (defScope (top 42)) .none kV42 dc42 pm42 an42 cd42 ct42), sl42⟩) (c42 : PySem.W.codeIn K cd42 "_law_class" = true) (k42 : PySem.W.keepIn K (.ref f42) = true)
    {f43 : Addr} {od43 an43 : Option Addr} {sl43 : Array (Option Value)} {oc43 kV43 dc43 pm43 cd43 ct43 : Value}
    (a43 : PySem.W.nsIn K mainGlobals "_law_sum" = some (some (.ref f43))) (l43 : K.lookup f43 = some ⟨oc43, od43, .func (PySem.W.fnOf "_law_sum" "_law_sum" (defArgs (top 43)) (defBody (top 43)) (defScope (top 43)) .none kV43 dc43 pm43 an43 cd43 ct43), sl43⟩) (c43 : PySem.W.codeIn K cd43 "_law_sum" = true) (k43 : PySem.W.keepIn K (.ref f43) = true)
    {f44 : Addr} {od44 an44 : Option Addr} {sl44 : Array (Option Value)} {oc44 kV44 dc44 pm44 cd44 ct44 : Value}
    (a44 : PySem.W.nsIn K mainGlobals "_law_own" = some (some (.ref f44))) (l44 : K.lookup f44 = some ⟨oc44, od44, .func (PySem.W.fnOf "_law_own" "_law_own" (defArgs (top 44)) (defBody (top 44)) (defScope (top 44)) .none kV44 dc44 pm44 an44 cd44 ct44), sl44⟩) (c44 : PySem.W.codeIn K cd44 "_law_own" = true) (k44 : PySem.W.keepIn K (.ref f44) = true)
    {f45 : Addr} {od45 an45 : Option Addr} {sl45 : Array (Option Value)} {oc45 kV45 dc45 pm45 cd45 ct45 : Value}
    (a45 : PySem.W.nsIn K mainGlobals "_law_room" = some (some (.ref f45))) (l45 : K.lookup f45 = some ⟨oc45, od45, .func (PySem.W.fnOf "_law_room" "_law_room" (defArgs (top 45)) (defBody (top 45)) (defScope (top 45)) .none kV45 dc45 pm45 an45 cd45 ct45), sl45⟩) (c45 : PySem.W.codeIn K cd45 "_law_room" = true) (k45 : PySem.W.keepIn K (.ref f45) = true)
    {f46 : Addr} {od46 an46 : Option Addr} {sl46 : Array (Option Value)} {oc46 kV46 dc46 pm46 cd46 ct46 : Value}
    (a46 : PySem.W.nsIn K mainGlobals "_law_choices" = some (some (.ref f46))) (l46 : K.lookup f46 = some ⟨oc46, od46, .func (PySem.W.fnOf "_law_choices" "_law_choices" (defArgs (top 46)) (defBody (top 46)) (defScope (top 46)) .none kV46 dc46 pm46 an46 cd46 ct46), sl46⟩) (c46 : PySem.W.codeIn K cd46 "_law_choices" = true) (k46 : PySem.W.keepIn K (.ref f46) = true)
    {f47 : Addr} {od47 an47 : Option Addr} {sl47 : Array (Option Value)} {oc47 kV47 dc47 pm47 cd47 ct47 : Value}
    (a47 : PySem.W.nsIn K mainGlobals "_law_over" = some (some (.ref f47))) (l47 : K.lookup f47 = some ⟨oc47, od47, .func (PySem.W.fnOf "_law_over" "_law_over" (defArgs (top 47)) (defBody (top 47)) (defScope (top 47)) .none kV47 dc47 pm47 an47 cd47 ct47), sl47⟩) (c47 : PySem.W.codeIn K cd47 "_law_over" = true) (k47 : PySem.W.keepIn K (.ref f47) = true)
    {f48 : Addr} {od48 an48 : Option Addr} {sl48 : Array (Option Value)} {oc48 kV48 dc48 pm48 cd48 ct48 : Value}
    (a48 : PySem.W.nsIn K mainGlobals "law" = some (some (.ref f48))) (l48 : K.lookup f48 = some ⟨oc48, od48, .func (PySem.W.fnOf "law" "law" (defArgs (top 48)) (defBody (top 48)) (defScope (top 48)) .none kV48 dc48 pm48 an48 cd48 ct48), sl48⟩) (c48 : PySem.W.codeIn K cd48 "law" = true) (k48 : PySem.W.keepIn K (.ref f48) = true)
    {C fI fT : Addr} {odI anI odT anT : Option Addr} {slI slT : Array (Option Value)} {ocI kVI dcI pmI cdI ctI ocT kVT dcT pmT cdT ctT : Value}
    (aC : PySem.W.nsIn K mainGlobals "Step" = some (some (.ref C)))
    (aI : PySem.W.findIn K (.ref C) "__init__" = some (some (.ref fI))) (iI : PySem.W.isFn K (.ref fI) = true) (lI : K.lookup fI = some ⟨ocI, odI, .func (PySem.W.fnOf "__init__" "Step.__init__" (defArgs (inClass (top 19) 0)) (defBody (inClass (top 19) 0)) (defScope (inClass (top 19) 0)) .none kVI dcI pmI anI cdI ctI), slI⟩) (cI : PySem.W.codeIn K cdI "Step.__init__" = true) (kI : PySem.W.keepIn K (.ref fI) = true)
    (aT : PySem.W.findIn K (.ref C) "third" = some (some (.ref fT))) (iT : PySem.W.isFn K (.ref fT) = true) (lT : K.lookup fT = some ⟨ocT, odT, .func (PySem.W.fnOf "third" "Step.third" (defArgs (inClass (top 19) 1)) (defBody (inClass (top 19) 1)) (defScope (inClass (top 19) 1)) .none kVT dcT pmT anT cdT ctT), slT⟩) (cT : PySem.W.codeIn K cdT "Step.third" = true) (kT : PySem.W.keepIn K (.ref fT) = true)
    (pg : PySem.W.plainGet K C Str.empty = true) (hd : PySem.W.hasDictIn K C = true) (po : PySem.W.plainOver K C = true) (sa : PySem.W.findIn K (.ref C) "__setattr__" = some (some (.builtin "object.__setattr__"))) (mk : PySem.W.makesIn K C = true) (kc : PySem.W.keepIn K (.ref C) = true)
    (nc : PySem.W.findIn K (.ref C) "choice" = some none) (nb : PySem.W.findIn K (.ref C) "bases" = some none) (nh : PySem.W.findIn K (.ref C) "hall" = some none)
    (zlen : PySem.W.nsIn K mainGlobals "len" = some none)
    (zisinstance : PySem.W.nsIn K mainGlobals "isinstance" = some none)
    (zint : PySem.W.nsIn K mainGlobals "int" = some none)
    (zbool : PySem.W.nsIn K mainGlobals "bool" = some none)
    (ztuple : PySem.W.nsIn K mainGlobals "tuple" = some none)
    (zlist : PySem.W.nsIn K mainGlobals "list" = some none)
    (zdict : PySem.W.nsIn K mainGlobals "dict" = some none)
    (zstr : PySem.W.nsIn K mainGlobals "str" = some none)
    (zall : PySem.W.nsIn K mainGlobals "all" = some none)
    (zmin : PySem.W.nsIn K mainGlobals "min" = some none)
    (zmax : PySem.W.nsIn K mainGlobals "max" = some none)
    (zrange : PySem.W.nsIn K mainGlobals "range" = some none)
    (zsorted : PySem.W.nsIn K mainGlobals "sorted" = some none)
    (zzip : PySem.W.nsIn K mainGlobals "zip" = some none)
    (zset : PySem.W.nsIn K mainGlobals "set" = some none)
    {tM tL : Tok} (gM : PySem.W.nsIn K mainGlobals "MOST_PEOPLE" = some (some (.int 8 tM))) (gL : PySem.W.nsIn K mainGlobals "LOOKS" = some (some (.str "XYZ" tL))) :
    ∃ fd : FuncData, (∀ (s : Shared) (v : Value), BindsTo s fd ⟨[v], []⟩ [("_law_script", v)]) ∧ ∀ base : Heap, K.In base → base.Ns mainGlobals mg → FnOk l.prog w K mg base CX0 8 fa fd ["_law_script"] (spLaw K) := by
  have e := hfa.symm.trans (PySem.W.mg_of X G a48)
  cases e
  refine ⟨PySem.W.fnOf "law" "law" (defArgs (top 48)) (defBody (top 48)) (defScope (top 48)) .none kV48 dc48 pm48 an48 cd48 ct48, fun s v => .of_eq rfl, fun base _ _ => ?_⟩
  have FI := fun_mk (st := inClass (top 19) 0) lI cI kI
  have FT := fun_mk (st := inClass (top 19) 1) lT cT kT
  exact ok_law {
    isInt := mkDef X G a7 l7 c7 k7 (fun _ _ _ _ _ _ us hl => match us, hl with | [_], _ => rfl),
    isFrom := mkDef X G a8 l8 c8 k8 (fun _ _ _ _ _ _ us hl => match us, hl with | [_, _, _], _ => rfl),
    isPair := mkDef X G a9 l9 c9 k9 (fun _ _ _ _ _ _ us hl => match us, hl with | [_, _], _ => rfl),
    isHall := mkDef X G a10 l10 c10 k10 (fun _ _ _ _ _ _ us hl => match us, hl with | [_], _ => rfl),
    needHall := mkDef X G a11 l11 c11 k11 (fun _ _ _ _ _ _ us hl => match us, hl with | [_], _ => rfl),
    arePair := mkDef X G a12 l12 c12 k12 (fun _ _ _ _ _ _ us hl => match us, hl with | [_, _, _], _ => rfl),
    friends := mkDef X G a13 l13 c13 k13 (fun _ _ _ _ _ _ us hl => match us, hl with | [_, _], _ => rfl),
    behind := mkDef X G a14 l14 c14 k14 (fun _ _ _ _ _ _ us hl => match us, hl with | [_, _], _ => rfl),
    sumOf := mkDef X G a17 l17 c17 k17 (fun _ _ _ _ _ _ us hl => match us, hl with | [_, _], _ => rfl),
    firstStep := mkDef X G a20 l20 c20 k20 (fun _ _ _ _ _ _ us hl => match us, hl with | [_], _ => rfl),
    allSteps := mkDef X G a21 l21 c21 k21 (fun _ _ _ _ _ _ us hl => match us, hl with | [_], _ => rfl),
    needHalls := mkDef X G a23 l23 c23 k23 (fun _ _ _ _ _ _ us hl => match us, hl with | [_, _], _ => rfl),
    changeOf := mkDef X G a24 l24 c24 k24 (fun _ _ _ _ _ _ us hl => match us, hl with | [_], _ => rfl),
    answersTo := mkDef X G a25 l25 c25 k25 (fun _ _ _ _ _ _ us hl => match us, hl with | [_, _], _ => rfl),
    countAns := mkDef X G a26 l26 c26 k26 (fun _ _ _ _ _ _ us hl => match us, hl with | [_, _], _ => rfl),
    membersOf := mkDef X G a28 l28 c28 k28 (fun _ _ _ _ _ _ us hl => match us, hl with | [_], _ => rfl),
    members := mkDef X G a29 l29 c29 k29 (fun _ _ _ _ _ _ us hl => match us, hl with | [_], _ => rfl),
    numIn := mkDef X G a30 l30 c30 k30 (fun _ _ _ _ _ _ us hl => match us, hl with | [_], _ => rfl),
    countMem := mkDef X G a31 l31 c31 k31 (fun _ _ _ _ _ _ us hl => match us, hl with | [_], _ => rfl),
    leastMem := mkDef X G a32 l32 c32 k32 (fun _ _ _ _ _ _ us hl => match us, hl with | [_], _ => rfl),
    memberAt := mkDef X G a33 l33 c33 k33 (fun _ _ _ _ _ _ us hl => match us, hl with | [_, _], _ => rfl),
    numberOf := mkDef X G a34 l34 c34 k34 (fun _ _ _ _ _ _ us hl => match us, hl with | [_], _ => rfl),
    lTaken := mkDef X G a36 l36 c36 k36 (fun _ _ _ _ _ _ us hl => match us, hl with | [_, _], _ => rfl),
    lAlike := mkDef X G a37 l37 c37 k37 (fun _ _ _ _ _ _ us hl => match us, hl with | [_, _], _ => rfl),
    lPairs := mkDef X G a38 l38 c38 k38 (fun _ _ _ _ _ _ us hl => match us, hl with | [_], _ => rfl),
    lHall := mkDef X G a39 l39 c39 k39 (fun _ _ _ _ _ _ us hl => match us, hl with | [_, _], _ => rfl),
    lFriends := mkDef X G a40 l40 c40 k40 (fun _ _ _ _ _ _ us hl => match us, hl with | [_, _], _ => rfl),
    lTurn := mkDef X G a41 l41 c41 k41 (fun _ _ _ _ _ _ us hl => match us, hl with | [_, _], _ => rfl),
    lClass := mkDef X G a42 l42 c42 k42 (fun _ _ _ _ _ _ us hl => match us, hl with | [_], _ => rfl),
    lSum := mkDef X G a43 l43 c43 k43 (fun _ _ _ _ _ _ us hl => match us, hl with | [_, _], _ => rfl),
    lOwn := mkDef X G a44 l44 c44 k44 (fun _ _ _ _ _ _ us hl => match us, hl with | [_, _], _ => rfl),
    lRoom := mkDef X G a45 l45 c45 k45 (fun _ _ _ _ _ _ us hl => match us, hl with | [_], _ => rfl),
    lChoices := mkDef X G a46 l46 c46 k46 (fun _ _ _ _ _ _ us hl => match us, hl with | [_], _ => rfl),
    lOver := mkDef X G a47 l47 c47 k47 (fun _ _ _ _ _ _ us hl => match us, hl with | [_, _], _ => rfl),
    lLaw := mkDef X G a48 l48 c48 k48 (fun _ _ _ _ _ _ us hl => match us, hl with | [_], _ => rfl),
    C := C,
    cl := ⟨pg, hd, po, sa⟩,
    mC := PySem.W.mg_of X G aC,
    nc := nc,
    nb := nb,
    nh := nh,
    fI := fI,
    dI := _,
    FI := FI,
    bI := FI.binds (fun _ _ _ _ _ _ us hl => match us, hl with | [_, _, _, _], _ => rfl),
    M := ⟨mk, aI, iI, kc⟩,
    fT := fT,
    dT := _,
    FT := FT,
    bT := FT.binds (fun _ _ _ _ _ _ us hl => match us, hl with | [_, _], _ => rfl),
    mT := ⟨aT, iT, kT⟩,
    zlen := PySem.W.mg_none_of X G zlen,
    zisinstance := PySem.W.mg_none_of X G zisinstance,
    zint := PySem.W.mg_none_of X G zint,
    zbool := PySem.W.mg_none_of X G zbool,
    ztuple := PySem.W.mg_none_of X G ztuple,
    zlist := PySem.W.mg_none_of X G zlist,
    zdict := PySem.W.mg_none_of X G zdict,
    zstr := PySem.W.mg_none_of X G zstr,
    zall := PySem.W.mg_none_of X G zall,
    zmin := PySem.W.mg_none_of X G zmin,
    zmax := PySem.W.mg_none_of X G zmax,
    zrange := PySem.W.mg_none_of X G zrange,
    zsorted := PySem.W.mg_none_of X G zsorted,
    zzip := PySem.W.mg_none_of X G zzip,
    zset := PySem.W.mg_none_of X G zset,
    gMost := ⟨tM, PySem.W.mg_of X G gM⟩,
    gLooks := ⟨tL, PySem.W.mg_of X G gL⟩ }
theorem walk {l : PySem.W.OpenLaw} {q : Program} {loose : List Str} {XP : (Str → Option Value) → Heap → Prop} {YP : World → Heap → Prop} {d : DefRec} {K : Params → PySem.W.Frag} (hn : l.most = some 63) (hdf : d.params.defaults = [])
    (hY : ∀ (w : World) (h : Heap), YP w h → (K w.params).In h)
    (F : ∀ (w : World) (mg : Str → Option Value) (fa : Addr) (h : Heap), (K w.params).In h → h.Ns mainGlobals mg → mg d.name = some (.ref fa) →
      ∃ fd : FuncData, (∀ (s : Shared) (u : Value), BindsTo s fd ⟨[u], []⟩ [("_law_script", u)]) ∧ ∀ base : Heap, (K w.params).In base → base.Ns mainGlobals mg → FnOk l.prog w (K w.params) mg base CX0 8 fa fd ["_law_script"] (spLaw (K w.params))) :
    PySem.W.WalkO q loose XP YP l.row.toRowW d [] (fun f vs => PySem.call f vs) :=
  L2.walk_of (n := 63) (k := 8) (x := "_law_script") (CX := fun _ => CX0) (sp := fun w => spLaw (K w.params)) hn (by decide) hdf ⟨rfl, by decide, by decide⟩ hY F (fun _ _ a ns hl _ hS => ⟨a, ns, rfl, hS, hl, fun _ => rfl⟩) fun _ _ _ _ _ z => z
end TF
open PySem PySem.W PyProof.Rows in
set_option maxRecDepth 100000 in
set_option maxHeartbeats 0 in
theorem PySem.Challenge.cw_turnfriends_k15_whole_classes_holds : PySem.Challenge.rw_turnfriends_k15_whole_classes.Holds := by
  w_on; o_law; k_head; (case hw => w_witness2)
  k_fill
  refine TF.walk (l := PySem.Challenge.rw_turnfriends_k15_whole_classes) rfl rfl (fun w h Y => PySem.W.kIn_of Y) ?F
  case F =>
    intro w mg fa h KX G hmg
    refine' TF.all_mk KX G hmg ?a7 ?l7 ?c7 ?k7 ?a8 ?l8 ?c8 ?k8 ?a9 ?l9 ?c9 ?k9 ?a10 ?l10 ?c10 ?k10 ?a11 ?l11 ?c11 ?k11 ?a12 ?l12 ?c12 ?k12 ?a13 ?l13 ?c13 ?k13 ?a14 ?l14 ?c14 ?k14 ?a17 ?l17 ?c17 ?k17 ?a20 ?l20 ?c20 ?k20 ?a21 ?l21 ?c21 ?k21 ?a23 ?l23 ?c23 ?k23 ?a24 ?l24 ?c24 ?k24 ?a25 ?l25 ?c25 ?k25 ?a26 ?l26 ?c26 ?k26 ?a28 ?l28 ?c28 ?k28 ?a29 ?l29 ?c29 ?k29 ?a30 ?l30 ?c30 ?k30 ?a31 ?l31 ?c31 ?k31 ?a32 ?l32 ?c32 ?k32 ?a33 ?l33 ?c33 ?k33 ?a34 ?l34 ?c34 ?k34 ?a36 ?l36 ?c36 ?k36 ?a37 ?l37 ?c37 ?k37 ?a38 ?l38 ?c38 ?k38 ?a39 ?l39 ?c39 ?k39 ?a40 ?l40 ?c40 ?k40 ?a41 ?l41 ?c41 ?k41 ?a42 ?l42 ?c42 ?k42 ?a43 ?l43 ?c43 ?k43 ?a44 ?l44 ?c44 ?k44 ?a45 ?l45 ?c45 ?k45 ?a46 ?l46 ?c46 ?k46 ?a47 ?l47 ?c47 ?k47 ?a48 ?l48 ?c48 ?k48 ?aC ?aI ?iI ?lI ?cI ?kI ?aT ?iT ?lT ?cT ?kT ?pg ?hd ?po ?sa ?mk ?kc ?nc ?nb ?nh ?zlen ?zisinstance ?zint ?zbool ?ztuple ?zlist ?zdict ?zstr ?zall ?zmin ?zmax ?zrange ?zsorted ?zzip ?zset ?gM ?gL
    (case a7 => k_is)
    (case l7 => k_is)
    (case c7 => k_is)
    (case k7 => k_is)
    (case a8 => k_is)
    (case l8 => k_is)
    (case c8 => k_is)
    (case k8 => k_is)
    (case a9 => k_is)
    (case l9 => k_is)
    (case c9 => k_is)
    (case k9 => k_is)
    (case a10 => k_is)
    (case l10 => k_is)
    (case c10 => k_is)
    (case k10 => k_is)
    (case a11 => k_is)
    (case l11 => k_is)
    (case c11 => k_is)
    (case k11 => k_is)
    (case a12 => k_is)
    (case l12 => k_is)
    (case c12 => k_is)
    (case k12 => k_is)
    (case a13 => k_is)
    (case l13 => k_is)
    (case c13 => k_is)
    (case k13 => k_is)
    (case a14 => k_is)
    (case l14 => k_is)
    (case c14 => k_is)
    (case k14 => k_is)
    (case a17 => k_is)
    (case l17 => k_is)
    (case c17 => k_is)
    (case k17 => k_is)
    (case a20 => k_is)
    (case l20 => k_is)
    (case c20 => k_is)
    (case k20 => k_is)
    (case a21 => k_is)
    (case l21 => k_is)
    (case c21 => k_is)
    (case k21 => k_is)
    (case a23 => k_is)
    (case l23 => k_is)
    (case c23 => k_is)
    (case k23 => k_is)
    (case a24 => k_is)
    (case l24 => k_is)
    (case c24 => k_is)
    (case k24 => k_is)
    (case a25 => k_is)
    (case l25 => k_is)
    (case c25 => k_is)
    (case k25 => k_is)
    (case a26 => k_is)
    (case l26 => k_is)
    (case c26 => k_is)
    (case k26 => k_is)
    (case a28 => k_is)
    (case l28 => k_is)
    (case c28 => k_is)
    (case k28 => k_is)
    (case a29 => k_is)
    (case l29 => k_is)
    (case c29 => k_is)
    (case k29 => k_is)
    (case a30 => k_is)
    (case l30 => k_is)
    (case c30 => k_is)
    (case k30 => k_is)
    (case a31 => k_is)
    (case l31 => k_is)
    (case c31 => k_is)
    (case k31 => k_is)
    (case a32 => k_is)
    (case l32 => k_is)
    (case c32 => k_is)
    (case k32 => k_is)
    (case a33 => k_is)
    (case l33 => k_is)
    (case c33 => k_is)
    (case k33 => k_is)
    (case a34 => k_is)
    (case l34 => k_is)
    (case c34 => k_is)
    (case k34 => k_is)
    (case a36 => k_is)
    (case l36 => k_is)
    (case c36 => k_is)
    (case k36 => k_is)
    (case a37 => k_is)
    (case l37 => k_is)
    (case c37 => k_is)
    (case k37 => k_is)
    (case a38 => k_is)
    (case l38 => k_is)
    (case c38 => k_is)
    (case k38 => k_is)
    (case a39 => k_is)
    (case l39 => k_is)
    (case c39 => k_is)
    (case k39 => k_is)
    (case a40 => k_is)
    (case l40 => k_is)
    (case c40 => k_is)
    (case k40 => k_is)
    (case a41 => k_is)
    (case l41 => k_is)
    (case c41 => k_is)
    (case k41 => k_is)
    (case a42 => k_is)
    (case l42 => k_is)
    (case c42 => k_is)
    (case k42 => k_is)
    (case a43 => k_is)
    (case l43 => k_is)
    (case c43 => k_is)
    (case k43 => k_is)
    (case a44 => k_is)
    (case l44 => k_is)
    (case c44 => k_is)
    (case k44 => k_is)
    (case a45 => k_is)
    (case l45 => k_is)
    (case c45 => k_is)
    (case k45 => k_is)
    (case a46 => k_is)
    (case l46 => k_is)
    (case c46 => k_is)
    (case k46 => k_is)
    (case a47 => k_is)
    (case l47 => k_is)
    (case c47 => k_is)
    (case k47 => k_is)
    (case a48 => k_is)
    (case l48 => k_is)
    (case c48 => k_is)
    (case k48 => k_is)
    (case aC => k_is)
    (case aI => k_is)
    (case iI => k_is)
    (case lI => k_is)
    (case cI => k_is)
    (case kI => k_is)
    (case aT => k_is)
    (case iT => k_is)
    (case lT => k_is)
    (case cT => k_is)
    (case kT => k_is)
    (case pg => k_is)
    (case hd => k_is)
    (case po => k_is)
    (case sa => k_is)
    (case mk => k_is)
    (case kc => k_is)
    (case nc => k_is)
    (case nb => k_is)
    (case nh => k_is)
    (case zlen => k_is)
    (case zisinstance => k_is)
    (case zint => k_is)
    (case zbool => k_is)
    (case ztuple => k_is)
    (case zlist => k_is)
    (case zdict => k_is)
    (case zstr => k_is)
    (case zall => k_is)
    (case zmin => k_is)
    (case zmax => k_is)
    (case zrange => k_is)
    (case zsorted => k_is)
    (case zzip => k_is)
    (case zset => k_is)
    (case gM => k_is)
    (case gL => k_is)
#print axioms PySem.Challenge.cw_turnfriends_k15_whole_classes_holds
