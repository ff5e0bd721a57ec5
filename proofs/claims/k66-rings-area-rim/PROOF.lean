import PyProof.Rows.All
import Wide.All
import OpenK.AllK
import Wide.FinOn
import KE.KStateDown
import KE.KDictKeyed
import KE.GoesDict
import KE.DataMinKey
import KE.SortKeyHeap
import HandS.ForMost
import HandS.Walk
import HandS.IsInst
import HandS.Deep
import HandS.More
import HandS.Evl
import HandS.Sort
import HandS.Defaults
import HandS.Head0
import HandS.Head1
import HandS.Head2
import HandS.HeadEnd
import HandS.HeadHook1
import HandS.HeadHook2
import HandS.HeadHook3
import HandS.HeadHook4
import HandS.Rev
import HandS.SortRule
import HandS.SortKw
import HandS.Keys
import HandS.StrMore
import KE.SortData
import KE.GoesEnum
import KE.KDictWalk
import PyProof.MaxThree
import PySem.Challenge.RW_quartersheet_k66_whole_rings_area_and_ri
set_option Elab.async false
set_option linter.all false
set_option autoImplicit false
namespace QS

/-- the quarters -/
inductive Qd | q0 | q1 | q2 | q3
  deriving DecidableEq, Repr
namespace Qd
def num : Qd → Nat | q0 => 0 | q1 => 1 | q2 => 2 | q3 => 3
def bx : Qd → Int | q0 => 0 | q1 => 1 | q2 => 0 | q3 => 1
def bY : Qd → Int | q0 => 0 | q1 => 0 | q2 => 1 | q3 => 1
end Qd
open Qd
inductive Sd | up | right | down | left
  deriving DecidableEq, Repr
abbrev Code := List Qd
inductive Tr | leaf (c : Int) | node (a b c d : Tr)
  deriving DecidableEq
def pick (a b c d : Tr) : Qd → Tr | q0 => a | q1 => b | q2 => c | q3 => d

def pw (L : Nat) : Int := 2 ^ L
theorem pw_succ (L : Nat) : pw (L + 1) = 2 * pw L := by unfold pw; rw [Int.pow_succ]; omega
theorem pw_pos (L : Nat) : 0 < pw L := by
  induction L with
  | zero => decide
  | succ n ih => rw [pw_succ]; omega
theorem pw_zero : pw 0 = 1 := rfl

/-- a square: its upper left place, how wide -/
structure Sq where
  x : Int
  y : Int
  w : Int
  deriving DecidableEq

def sqr : Nat → Int → Int → Code → Sq
  | L, X, Y, [] => ⟨X, Y, pw L⟩
  | L + 1, X, Y, q :: c => sqr L (X + q.bx * pw L) (Y + q.bY * pw L) c
  | 0, X, Y, _ :: _ => ⟨X, Y, 1⟩

theorem sqr_nil (L : Nat) (X Y : Int) : sqr L X Y [] = ⟨X, Y, pw L⟩ := by cases L <;> rfl
theorem sqr_cons (L : Nat) (X Y : Int) (q : Qd) (c : Code) : sqr (L + 1) X Y (q :: c) = sqr L (X + q.bx * pw L) (Y + q.bY * pw L) c := rfl

inductive Fits : Tr → Nat → Prop
  | leaf (c : Int) (L : Nat) : Fits (.leaf c) L
  | node {a b c d : Tr} {L : Nat} : Fits a L → Fits b L → Fits c L → Fits d L → Fits (.node a b c d) (L + 1)
theorem Fits.pick {a b c d : Tr} {L : Nat} (h : Fits (.node a b c d) (L + 1)) (q : Qd) : Fits (pick a b c d q) L := by
  cases h with
  | node h1 h2 h3 h4 => cases q <;> assumption

def isLf : Tr → Code → Bool
  | .leaf _, [] => true
  | .leaf _, _ :: _ => false
  | .node _ _ _ _, [] => false
  | .node a b c d, q :: k => isLf (pick a b c d q) k

def Sq.has (s : Sq) (px py : Int) : Prop := s.x ≤ px ∧ px < s.x + s.w ∧ s.y ≤ py ∧ py < s.y + s.w

theorem sqr_len {t : Tr} : ∀ {L : Nat} {c : Code}, Fits t L → isLf t c = true → c.length ≤ L := by
  induction t with
  | leaf v => intro L c _ h; cases c with
    | nil => exact Nat.zero_le _
    | cons q c => simp [isLf] at h
  | node a b c d iha ihb ihc ihd =>
    intro L k hf h
    cases k with
    | nil => exact Nat.zero_le _
    | cons q k =>
      cases L with
      | zero => cases hf
      | succ L =>
        have hp := hf.pick q
        have h' : isLf (pick a b c d q) k = true := h
        have : k.length ≤ L := by cases q <;> (first | exact iha hp h' | exact ihb hp h' | exact ihc hp h' | exact ihd hp h')
        simp only [List.length_cons]; omega

theorem sqr_in : ∀ (c : Code) (L : Nat) (X Y : Int), c.length ≤ L → X ≤ (sqr L X Y c).x ∧ (sqr L X Y c).x + (sqr L X Y c).w ≤ X + pw L ∧ Y ≤ (sqr L X Y c).y ∧ (sqr L X Y c).y + (sqr L X Y c).w ≤ Y + pw L ∧ 0 < (sqr L X Y c).w := by
  intro c
  induction c with
  | nil => intro L X Y _; have := pw_pos L; rw [sqr_nil]; show X ≤ X ∧ X + pw L ≤ X + pw L ∧ Y ≤ Y ∧ Y + pw L ≤ Y + pw L ∧ 0 < pw L; omega
  | cons q c ih =>
    intro L X Y h
    cases L with
    | zero => simp at h
    | succ L =>
      have h' : c.length ≤ L := by simpa using h
      have := ih L (X + q.bx * pw L) (Y + q.bY * pw L) h'
      have hp := pw_pos L
      rw [pw_succ]
      simp only [sqr]
      cases q <;> simp only [bx, bY] at * <;> omega

/-- two leaves with a common place are one -/
theorem leaf_uniq {t : Tr} : ∀ {L : Nat} {X Y px py : Int} {c c' : Code}, Fits t L → isLf t c = true → isLf t c' = true → (sqr L X Y c).has px py → (sqr L X Y c').has px py → c = c' := by
  induction t with
  | leaf v =>
    intro L X Y px py c c' _ h h' _ _
    cases c <;> cases c' <;> simp [isLf] at h h' ⊢
  | node a b c d iha ihb ihc ihd =>
    intro L X Y px py k k' hf h h' hp hp'
    cases k with
    | nil => simp [isLf] at h
    | cons q k =>
    cases k' with
    | nil => simp [isLf] at h'
    | cons q' k' =>
    cases L with
    | zero => cases hf
    | succ L =>
      have h1 : isLf (pick a b c d q) k = true := h
      have h2 : isLf (pick a b c d q') k' = true := h'
      have l1 := sqr_len (hf.pick q) h1
      have l2 := sqr_len (hf.pick q') h2
      have i1 := sqr_in k L (X + q.bx * pw L) (Y + q.bY * pw L) l1
      have i2 := sqr_in k' L (X + q'.bx * pw L) (Y + q'.bY * pw L) l2
      simp only [sqr] at hp hp'
      have e : q = q' := by
        unfold Sq.has at hp hp'
        cases q <;> cases q' <;> simp only [bx, bY] at * <;> first | rfl | (exfalso; omega)
      subst e
      have hfq := hf.pick q
      congr 1
      cases q <;> (first | exact iha hfq h1 h2 hp hp' | exact ihb hfq h1 h2 hp hp' | exact ihc hfq h1 h2 hp hp' | exact ihd hfq h1 h2 hp hp')

/-- each place lies in a leaf -/
theorem leaf_ex {t : Tr} : ∀ {L : Nat} {X Y px py : Int}, Fits t L → X ≤ px → px < X + pw L → Y ≤ py → py < Y + pw L → ∃ c, isLf t c = true ∧ (sqr L X Y c).has px py := by
  induction t with
  | leaf v => intro L X Y px py _ h1 h2 h3 h4; exact ⟨[], rfl, by rw [sqr_nil]; exact ⟨h1, h2, h3, h4⟩⟩
  | node a b c d iha ihb ihc ihd =>
    intro L X Y px py hf h1 h2 h3 h4
    cases L with
    | zero => cases hf
    | succ L =>
      rw [pw_succ] at h2 h4
      have go : ∀ q : Qd, X + q.bx * pw L ≤ px → px < X + q.bx * pw L + pw L → Y + q.bY * pw L ≤ py → py < Y + q.bY * pw L + pw L → ∃ c', isLf (.node a b c d) c' = true ∧ (sqr (L + 1) X Y c').has px py := by
        intro q g1 g2 g3 g4
        have hq := hf.pick q
        have : ∃ k, isLf (pick a b c d q) k = true ∧ (sqr L (X + q.bx * pw L) (Y + q.bY * pw L) k).has px py := by
          cases q <;> (first | exact iha hq g1 g2 g3 g4 | exact ihb hq g1 g2 g3 g4 | exact ihc hq g1 g2 g3 g4 | exact ihd hq g1 g2 g3 g4)
        obtain ⟨k, k1, k2⟩ := this
        exact ⟨q :: k, k1, k2⟩
      by_cases hx : px < X + pw L <;> by_cases hy : py < Y + pw L
      · exact go q0 (by simp only [bx]; omega) (by simp only [bx]; omega) (by simp only [bY]; omega) (by simp only [bY]; omega)
      · exact go q2 (by simp only [bx]; omega) (by simp only [bx]; omega) (by simp only [bY]; omega) (by simp only [bY]; omega)
      · exact go q1 (by simp only [bx]; omega) (by simp only [bx]; omega) (by simp only [bY]; omega) (by simp only [bY]; omega)
      · exact go q3 (by simp only [bx]; omega) (by simp only [bx]; omega) (by simp only [bY]; omega) (by simp only [bY]; omega)
end QS
namespace QS
open Qd Sd

def flip : Sd → Qd → Qd
  | up, q0 => q2 | up, q1 => q3 | up, q2 => q0 | up, q3 => q1
  | down, q0 => q2 | down, q1 => q3 | down, q2 => q0 | down, q3 => q1
  | right, q0 => q1 | right, q1 => q0 | right, q2 => q3 | right, q3 => q2
  | left, q0 => q1 | left, q1 => q0 | left, q2 => q3 | left, q3 => q2
/-- a neighbour beyond that side lies in the same square -/
def canGo : Sd → Qd → Bool
  | up, q2 => true | up, q3 => true
  | down, q0 => true | down, q1 => true
  | right, q0 => true | right, q2 => true
  | left, q1 => true | left, q3 => true
  | _, _ => false
def opp : Sd → Sd | up => down | down => up | right => left | left => right
/-- the quarters at the side that faces -/
def fc : Sd → Qd × Qd | up => (q2, q3) | right => (q0, q2) | down => (q0, q1) | left => (q1, q3)

def beside : Code → Sd → Option Code
  | [], _ => none
  | q :: c, s => match beside c s with
    | some n => some (q :: n)
    | none => if canGo s q then some (flip s q :: c.map (flip s)) else none

/-- the leaves of a tree at the place of a code, along a side that faces s -/
def look (s : Sd) : Tr → Code → List Code
  | .leaf _, _ => [[]]
  | .node a b c d, [] => ((look s (pick a b c d (fc s).1) []).map ((fc s).1 :: ·)) ++ ((look s (pick a b c d (fc s).2) []).map ((fc s).2 :: ·))
  | .node a b c d, q :: e => (look s (pick a b c d q) e).map (q :: ·)
termination_by t => sizeOf t
decreasing_by
  all_goals (first | (cases q <;> simp only [pick] <;> simp <;> omega) | (cases s <;> simp only [pick, fc] <;> simp <;> omega))

def beyond (t : Tr) (c : Code) (s : Sd) : List Code := match beside c s with
  | none => []
  | some n => look s t n

/-- along a side: where it begins; the coordinate of the side -/
def lo : Sd → Sq → Int
  | up, q => q.x | down, q => q.x | right, q => q.y | left, q => q.y
def co : Sd → Sq → Int
  | up, q => q.y | down, q => q.y + q.w | right, q => q.x + q.w | left, q => q.x
def hi (s : Sd) (q : Sq) : Int := lo s q + q.w
/-- the whole square of level L at X, Y -/
def rt (L : Nat) (X Y : Int) : Sq := ⟨X, Y, pw L⟩

/-- B lies at A's side s -/
def Touch (s : Sd) (A B : Sq) : Prop := co s A = co (opp s) B ∧ lo s A < hi s B ∧ lo s B < hi s A
instance (s : Sd) (A B : Sq) : Decidable (Touch s A B) := by unfold Touch; infer_instance

/-- from l to h one behind the other -/
def Tiles (s : Sd) : Int → Int → List Sq → Prop
  | l, h, [] => l = h
  | l, h, q :: r => lo s q = l ∧ 0 < q.w ∧ Tiles s (hi s q) h r
theorem Tiles.app {s : Sd} : ∀ {l m h : Int} {a b : List Sq}, Tiles s l m a → Tiles s m h b → Tiles s l h (a ++ b)
  | _, _, _, [], _, e, h2 => by cases e; exact h2
  | _, _, _, _ :: _, _, ⟨e, p, h1⟩, h2 => ⟨e, p, Tiles.app h1 h2⟩

/-- what lies beyond a side of A: one wide square, or a tiling of the side -/
def Cover (s : Sd) (A : Sq) (os : List Sq) : Prop :=
  (∀ o ∈ os, co (opp s) o = co s A) ∧ ((∃ o, os = [o] ∧ lo s o ≤ lo s A ∧ hi s A ≤ hi s o) ∨ Tiles s (lo s A) (hi s A) os)

/-- all digits at the side s -/
def atSide (s : Sd) (c : Code) : Prop := ∀ q ∈ c, canGo s q = false

theorem beside_none {s : Sd} : ∀ {c : Code}, beside c s = none ↔ atSide s c
  | [] => by simp [beside, atSide]
  | q :: c => by
    have ih := beside_none (s := s) (c := c)
    unfold beside atSide
    cases hb : beside c s with
    | some n =>
      rw [hb] at ih
      simp only [reduceCtorEq, false_iff] at ih ⊢
      intro h
      exact ih fun q' hq => h q' (List.mem_cons_of_mem _ hq)
    | none =>
      rw [hb] at ih
      have ih' := ih.mp rfl
      by_cases hc : canGo s q = true
      · simp [hc]
      · simp only [hc]
        simp only [Bool.not_eq_true] at hc
        simp [hc]
        exact ih'

theorem canGo_flip (s : Sd) (q : Qd) : canGo (opp s) (flip s q) = canGo s q := by cases s <;> cases q <;> rfl
theorem opp_opp (s : Sd) : opp (opp s) = s := by cases s <;> rfl

/-- on the side: the square's side is the whole's side -/
theorem co_side {s : Sd} : ∀ {c : Code} {L : Nat} {X Y : Int}, c.length ≤ L → atSide s c → co s (sqr L X Y c) = co s (rt L X Y)
  | [], L, X, Y, _, _ => by rw [sqr_nil]; rfl
  | q :: c, 0, _, _, h, _ => by simp at h
  | q :: c, L + 1, X, Y, h, ha => by
    have ih := co_side (s := s) (c := c) (L := L) (X := X + q.bx * pw L) (Y := Y + q.bY * pw L) (by simpa using h) fun q' hq => ha q' (List.mem_cons_of_mem _ hq)
    have hq := ha q (List.mem_cons_self)
    rw [sqr_cons, ih]
    have := pw_succ L
    cases s <;> cases q <;> simp [canGo] at hq <;> simp [co, rt, bx, bY] <;> omega

/-- the mirror image on the facing side: the same stretch, the same width -/
theorem flip_side {s : Sd} : ∀ {c : Code} {L : Nat} {X Y X' Y' : Int}, c.length ≤ L → lo s ⟨X, Y, 0⟩ = lo s ⟨X', Y', 0⟩ →
    lo s (sqr L X Y c) = lo s (sqr L X' Y' (c.map (flip s))) ∧ (sqr L X Y c).w = (sqr L X' Y' (c.map (flip s))).w
  | [], L, X, Y, X', Y', _, e => by
    rw [List.map_nil, sqr_nil, sqr_nil]
    cases s <;> exact ⟨e, rfl⟩
  | q :: c, 0, _, _, _, _, h, _ => by simp at h
  | q :: c, L + 1, X, Y, X', Y', h, e => by
    rw [List.map_cons, sqr_cons, sqr_cons]
    refine flip_side (by simpa using h) ?_
    cases s <;> cases q <;> simp [lo, flip, bx, bY] at e ⊢ <;> omega

theorem atSide_flip {s : Sd} {c : Code} (h : atSide s c) : atSide (opp s) (c.map (flip s)) := by
  intro q hq
  obtain ⟨q', h1, rfl⟩ := List.mem_map.mp hq
  rw [canGo_flip]; exact h q' h1

theorem look_leaf {s : Sd} {v : Int} {c : Code} : look s (.leaf v) c = [[]] := by unfold look; rfl
theorem look_nil {s : Sd} {a b c d : Tr} : look s (.node a b c d) [] = ((look s (pick a b c d (fc s).1) []).map ((fc s).1 :: ·)) ++ ((look s (pick a b c d (fc s).2) []).map ((fc s).2 :: ·)) := by rw [look]
theorem look_cons {s : Sd} {a b c d : Tr} {q : Qd} {e : Code} : look s (.node a b c d) (q :: e) = (look s (pick a b c d q) e).map (q :: ·) := by rw [look]

theorem pick_cases {P : Tr → Prop} {a b c d : Tr} (ha : P a) (hb : P b) (hc : P c) (hd : P d) (q : Qd) : P (pick a b c d q) := by
  cases q <;> assumption

/-- what is found are leaves -/
theorem look_lf {s : Sd} {t : Tr} : ∀ ⦃e o : Code⦄, o ∈ look s t e → isLf t o = true := by
  induction t with
  | leaf v => intro e o h; rw [look_leaf] at h; simp at h; subst h; rfl
  | node a b c d iha ihb ihc ihd =>
    have ih : ∀ q, ∀ ⦃e o : Code⦄, o ∈ look s (pick a b c d q) e → isLf (pick a b c d q) o = true :=
      pick_cases (P := fun t => ∀ ⦃e o : Code⦄, o ∈ look s t e → isLf t o = true) iha ihb ihc ihd
    intro e o h
    cases e with
    | nil =>
      rw [look_nil] at h
      rcases List.mem_append.mp h with h | h <;> obtain ⟨k, hk, rfl⟩ := List.mem_map.mp h <;> exact ih _ hk
    | cons q e =>
      rw [look_cons] at h
      obtain ⟨k, hk, rfl⟩ := List.mem_map.mp h
      exact ih _ hk

/-- along a whole side: a tiling of it -/
theorem look_side {s : Sd} {t : Tr} : ∀ ⦃L : Nat⦄ ⦃X Y : Int⦄, Fits t L → (∀ o ∈ look s t [], co (opp s) (sqr L X Y o) = co (opp s) (rt L X Y)) ∧ Tiles s (lo s (rt L X Y)) (hi s (rt L X Y)) ((look s t []).map (sqr L X Y)) := by
  induction t with
  | leaf v =>
    intro L X Y _
    rw [look_leaf]
    have := pw_pos L
    refine ⟨fun o ho => ?_, ?_⟩
    · simp at ho; subst ho; rw [sqr_nil]; rfl
    · simp only [List.map_cons, List.map_nil, sqr_nil, Tiles]
      exact ⟨rfl, this, rfl⟩
  | node a b c d iha ihb ihc ihd =>
    intro L X Y hf
    cases L with
    | zero => cases hf
    | succ L =>
      have ih : ∀ q, ∀ ⦃L : Nat⦄ ⦃X Y : Int⦄, Fits (pick a b c d q) L → (∀ o ∈ look s (pick a b c d q) [], co (opp s) (sqr L X Y o) = co (opp s) (rt L X Y)) ∧ Tiles s (lo s (rt L X Y)) (hi s (rt L X Y)) ((look s (pick a b c d q) []).map (sqr L X Y)) :=
        pick_cases (P := fun t => ∀ ⦃L : Nat⦄ ⦃X Y : Int⦄, Fits t L → (∀ o ∈ look s t [], co (opp s) (sqr L X Y o) = co (opp s) (rt L X Y)) ∧ Tiles s (lo s (rt L X Y)) (hi s (rt L X Y)) ((look s t []).map (sqr L X Y))) iha ihb ihc ihd
      have h1 := ih (fc s).1 (X := X + (fc s).1.bx * pw L) (Y := Y + (fc s).1.bY * pw L) (hf.pick _)
      have h2 := ih (fc s).2 (X := X + (fc s).2.bx * pw L) (Y := Y + (fc s).2.bY * pw L) (hf.pick _)
      have hp := pw_succ L
      rw [look_nil]
      refine ⟨fun o ho => ?_, ?_⟩
      · rcases List.mem_append.mp ho with h | h <;> obtain ⟨k, hk, rfl⟩ := List.mem_map.mp h <;> rw [sqr_cons]
        · rw [h1.1 k hk]; cases s <;> simp [co, opp, rt, fc, bx, bY] <;> omega
        · rw [h2.1 k hk]; cases s <;> simp [co, opp, rt, fc, bx, bY] <;> omega
      · rw [List.map_append, List.map_map, List.map_map]
        have e1 : lo s (rt (L + 1) X Y) = lo s (rt L (X + (fc s).1.bx * pw L) (Y + (fc s).1.bY * pw L)) := by cases s <;> simp [lo, rt, fc, bx, bY]
        have e2 : hi s (rt L (X + (fc s).1.bx * pw L) (Y + (fc s).1.bY * pw L)) = lo s (rt L (X + (fc s).2.bx * pw L) (Y + (fc s).2.bY * pw L)) := by cases s <;> simp [hi, lo, rt, fc, bx, bY]
        have e3 : hi s (rt (L + 1) X Y) = hi s (rt L (X + (fc s).2.bx * pw L) (Y + (fc s).2.bY * pw L)) := by cases s <;> simp [hi, lo, rt, fc, bx, bY] <;> omega
        rw [e1, e3]
        exact Tiles.app (e2 ▸ h1.2) h2.2

/-- at a code on the facing side -/
theorem look_at {s : Sd} {t : Tr} : ∀ ⦃e : Code⦄ ⦃L : Nat⦄ ⦃X Y : Int⦄, Fits t L → e.length ≤ L → atSide (opp s) e →
    (∀ o ∈ look s t e, co (opp s) (sqr L X Y o) = co (opp s) (rt L X Y)) ∧
    ((∃ o, look s t e = [o] ∧ lo s (sqr L X Y o) ≤ lo s (sqr L X Y e) ∧ hi s (sqr L X Y e) ≤ hi s (sqr L X Y o)) ∨ Tiles s (lo s (sqr L X Y e)) (hi s (sqr L X Y e)) ((look s t e).map (sqr L X Y))) := by
  induction t with
  | leaf v =>
    intro e L X Y _ hl _
    rw [look_leaf]
    refine ⟨fun o ho => ?_, .inl ⟨[], rfl, ?_⟩⟩
    · simp at ho; subst ho; rw [sqr_nil]; rfl
    · have := sqr_in e L X Y hl
      rw [sqr_nil]
      cases s <;> simp only [lo, hi] <;> omega
  | node a b c d iha ihb ihc ihd =>
    intro e L X Y hf hl ha
    cases e with
    | nil => rw [sqr_nil]; exact ⟨(look_side hf).1, .inr (look_side hf).2⟩
    | cons q e =>
      cases L with
      | zero => cases hf
      | succ L =>
        have ih := pick_cases (P := fun t => ∀ ⦃e : Code⦄ ⦃L : Nat⦄ ⦃X Y : Int⦄, Fits t L → e.length ≤ L → atSide (opp s) e →
          (∀ o ∈ look s t e, co (opp s) (sqr L X Y o) = co (opp s) (rt L X Y)) ∧
          ((∃ o, look s t e = [o] ∧ lo s (sqr L X Y o) ≤ lo s (sqr L X Y e) ∧ hi s (sqr L X Y e) ≤ hi s (sqr L X Y o)) ∨ Tiles s (lo s (sqr L X Y e)) (hi s (sqr L X Y e)) ((look s t e).map (sqr L X Y)))) iha ihb ihc ihd q
        obtain ⟨h1, h2⟩ := ih (X := X + q.bx * pw L) (Y := Y + q.bY * pw L) (hf.pick q) (by simpa using hl) fun q' hq => ha q' (List.mem_cons_of_mem _ hq)
        have hq := ha q List.mem_cons_self
        rw [look_cons]
        have hp := pw_succ L
        refine ⟨fun o ho => ?_, ?_⟩
        · obtain ⟨k, hk, rfl⟩ := List.mem_map.mp ho
          rw [sqr_cons, h1 k hk]
          cases s <;> cases q <;> simp [canGo, opp] at hq <;> simp [co, opp, rt, bx, bY] <;> omega
        · rcases h2 with ⟨o, e1, e2⟩ | h2
          · exact .inl ⟨q :: o, by rw [e1]; rfl, e2⟩
          · refine .inr ?_
            rw [List.map_map]
            exact h2

theorem beyond_cover {s : Sd} {t : Tr} : ∀ ⦃c n : Code⦄ ⦃L : Nat⦄ ⦃X Y : Int⦄, Fits t L → isLf t c = true → beside c s = some n → Cover s (sqr L X Y c) ((look s t n).map (sqr L X Y)) := by
  induction t with
  | leaf v =>
    intro c n L X Y _ h hb
    cases c with
    | nil => simp [beside] at hb
    | cons q c => simp [isLf] at h
  | node a b c d iha ihb ihc ihd =>
    intro k n L X Y hf h hb
    cases k with
    | nil => simp [beside] at hb
    | cons q k =>
    cases L with
    | zero => cases hf
    | succ L =>
      have ih := pick_cases (P := fun t => ∀ ⦃c n : Code⦄ ⦃L : Nat⦄ ⦃X Y : Int⦄, Fits t L → isLf t c = true → beside c s = some n → Cover s (sqr L X Y c) ((look s t n).map (sqr L X Y))) iha ihb ihc ihd q
      have hk : isLf (pick a b c d q) k = true := h
      have hl := sqr_len (hf.pick q) hk
      unfold beside at hb
      cases hbk : beside k s with
      | some m =>
        rw [hbk] at hb
        cases hb
        rw [look_cons, List.map_map]
        exact ih (hf.pick q) hk hbk
      | none =>
        rw [hbk] at hb
        simp only [Option.ite_none_right_eq_some, Option.some.injEq] at hb
        obtain ⟨hc, rfl⟩ := hb
        have hs := beside_none.mp hbk
        rw [look_cons, List.map_map]
        have hla : (k.map (flip s)).length ≤ L := by rw [List.length_map]; exact hl
        have h1 := look_at (s := s) (X := X + (flip s q).bx * pw L) (Y := Y + (flip s q).bY * pw L) (hf.pick (flip s q)) hla (atSide_flip hs)
        have h2 := co_side (X := X + q.bx * pw L) (Y := Y + q.bY * pw L) hl hs
        have h3 := flip_side (s := s) (c := k) (L := L) (X := X + q.bx * pw L) (Y := Y + q.bY * pw L) (X' := X + (flip s q).bx * pw L) (Y' := Y + (flip s q).bY * pw L) hl (by
          cases s <;> cases q <;> simp [lo, flip, bx, bY])
        have h4 : hi s (sqr L (X + q.bx * pw L) (Y + q.bY * pw L) k) = hi s (sqr L (X + (flip s q).bx * pw L) (Y + (flip s q).bY * pw L) (k.map (flip s))) := by
          unfold hi; rw [h3.1, h3.2]
        refine ⟨fun o ho => ?_, ?_⟩
        · obtain ⟨e, he, rfl⟩ := List.mem_map.mp ho
          show co (opp s) (sqr L (X + (flip s q).bx * pw L) (Y + (flip s q).bY * pw L) e) = co s (sqr L (X + q.bx * pw L) (Y + q.bY * pw L) k)
          rw [h1.1 e he, h2]
          cases s <;> cases q <;> simp [canGo] at hc <;> simp [co, opp, rt, flip, bx, bY]
        · show (∃ o, _ ∧ _ ≤ lo s (sqr L (X + q.bx * pw L) (Y + q.bY * pw L) k) ∧ hi s (sqr L (X + q.bx * pw L) (Y + q.bY * pw L) k) ≤ _) ∨ Tiles s (lo s (sqr L (X + q.bx * pw L) (Y + q.bY * pw L) k)) (hi s (sqr L (X + q.bx * pw L) (Y + q.bY * pw L) k)) _
          rw [h3.1, h4]
          rcases h1.2 with ⟨o, e1, e2⟩ | h2
          · refine .inl ⟨_, by rw [e1]; rfl, e2⟩
          · exact .inr h2
end QS
namespace QS
open Qd Sd

/-- the place just beyond side s of A at t -/
def bp : Sd → Sq → Int → Int × Int
  | up, A, t => (t, A.y - 1)
  | right, A, t => (A.x + A.w, t)
  | down, A, t => (t, A.y + A.w)
  | left, A, t => (A.x - 1, t)
def Sq.hasP (A : Sq) (p : Int × Int) : Prop := A.has p.1 p.2
theorem bp_has {s : Sd} {A B : Sq} {t : Int} (h : co (opp s) B = co s A) (hw : 0 < B.w) (h1 : lo s B ≤ t) (h2 : t < hi s B) : B.hasP (bp s A t) := by
  cases s <;> simp only [co, opp, lo, hi, bp, Sq.hasP, Sq.has] at * <;> omega

theorem Tiles.mem {s : Sd} : ∀ {l h : Int} {os : List Sq}, Tiles s l h os → l ≤ h ∧ ∀ o ∈ os, l ≤ lo s o ∧ hi s o ≤ h ∧ 0 < o.w
  | l, h, [], e => by
    have e' : l = h := e
    exact ⟨by omega, fun _ z => nomatch z⟩
  | l, h, q :: r, ⟨e1, e2, e3⟩ => by
    obtain ⟨h1, h2⟩ := Tiles.mem e3
    have : hi s q = lo s q + q.w := rfl
    refine ⟨by omega, fun o ho => ?_⟩
    rcases List.mem_cons.mp ho with rfl | ho
    · exact ⟨by omega, h1, e2⟩
    · have := h2 o ho
      exact ⟨by omega, this.2.1, this.2.2⟩
theorem Tiles.at {s : Sd} : ∀ {l h : Int} {os : List Sq} {t : Int}, Tiles s l h os → l ≤ t → t < h → ∃ o ∈ os, lo s o ≤ t ∧ t < hi s o
  | l, h, [], t, e, h1, h2 => by
    have e' : l = h := e
    omega
  | l, h, q :: r, t, ⟨e1, e2, e3⟩, h1, h2 => by
    by_cases hc : t < hi s q
    · exact ⟨q, List.mem_cons_self, by omega, hc⟩
    · obtain ⟨o, ho, h3⟩ := Tiles.at e3 (by omega) h2
      exact ⟨o, List.mem_cons_of_mem _ ho, h3⟩
theorem Cover.pos {s : Sd} {A : Sq} {os : List Sq} (h : Cover s A os) (hw : 0 < A.w) : ∀ o ∈ os, 0 < o.w ∧ lo s A < hi s o ∧ lo s o < hi s A := by
  have e : hi s A = lo s A + A.w := rfl
  rcases h.2 with ⟨o, rfl, h1, h2⟩ | ht
  · intro o' ho
    simp at ho; subst ho
    have : hi s o' = lo s o' + o'.w := rfl
    exact ⟨by omega, by omega, by omega⟩
  · intro o ho
    have := ht.mem.2 o ho
    have : hi s o = lo s o + o.w := rfl
    exact ⟨by omega, by omega, by omega⟩
theorem Cover.at {s : Sd} {A : Sq} {os : List Sq} {t : Int} (h : Cover s A os) (h1 : lo s A ≤ t) (h2 : t < hi s A) : ∃ o ∈ os, lo s o ≤ t ∧ t < hi s o := by
  rcases h.2 with ⟨o, rfl, h3, h4⟩ | ht
  · exact ⟨o, List.mem_cons_self, by omega, by omega⟩
  · exact ht.at h1 h2

section
variable {t : Tr} {L : Nat} {X Y : Int} {c o : Code} {s : Sd}
theorem beyond_lf (h : o ∈ beyond t c s) : isLf t o = true := by
  unfold beyond at h
  cases hb : beside c s with
  | none => rw [hb] at h; simp at h
  | some n => rw [hb] at h; exact look_lf h
theorem sqr_pos (hf : Fits t L) (h : isLf t c = true) : 0 < (sqr L X Y c).w := (sqr_in c L X Y (sqr_len hf h)).2.2.2.2
theorem cover_of (hf : Fits t L) (h : isLf t c = true) (hb : beside c s ≠ none) : Cover s (sqr L X Y c) ((beyond t c s).map (sqr L X Y)) := by
  unfold beyond
  cases hb' : beside c s with
  | none => exact absurd hb' hb
  | some n => exact beyond_cover hf h hb'
/-- at the sheet's end nothing lies beyond -/
theorem border (hf : Fits t L) (h : isLf t c = true) (ho : isLf t o = true) (hb : beside c s = none) (tt : Int) : ¬ (sqr L X Y o).hasP (bp s (sqr L X Y c) tt) ∧ co (opp s) (sqr L X Y o) ≠ co s (sqr L X Y c) := by
  have hs := beside_none.mp hb
  have h1 := co_side (X := X) (Y := Y) (sqr_len hf h) hs
  have h2 := sqr_in o L X Y (sqr_len hf ho)
  cases s <;> simp only [co, opp, rt, bp, Sq.hasP, Sq.has] at * <;> omega
/-- the leaf beyond at a place -/
theorem beyond_pt (hf : Fits t L) (h : isLf t c = true) (ho : isLf t o = true) {tt : Int} (h1 : lo s (sqr L X Y c) ≤ tt) (h2 : tt < hi s (sqr L X Y c)) :
    (sqr L X Y o).hasP (bp s (sqr L X Y c) tt) ↔ o ∈ beyond t c s ∧ lo s (sqr L X Y o) ≤ tt ∧ tt < hi s (sqr L X Y o) := by
  by_cases hb : beside c s = none
  · have hn := (border (X := X) (Y := Y) hf h ho hb tt).1
    have he : beyond t c s = [] := by unfold beyond; rw [hb]
    rw [he]
    simp [hn]
  · have hc := cover_of (X := X) (Y := Y) hf h hb
    constructor
    · intro hp
      obtain ⟨q, hq, q1, q2⟩ := hc.at h1 h2
      obtain ⟨o', ho', rfl⟩ := List.mem_map.mp hq
      have hw := (hc.pos (sqr_pos hf h) _ hq).1
      have hp' := bp_has (hc.1 _ hq) hw q1 q2
      have e : o = o' := leaf_uniq hf ho (beyond_lf ho') hp hp'
      subst e
      exact ⟨ho', q1, q2⟩
    · rintro ⟨hm, q1, q2⟩
      have hq := List.mem_map_of_mem (f := sqr L X Y) hm
      exact bp_has (hc.1 _ hq) (hc.pos (sqr_pos hf h) _ hq).1 q1 q2
/-- beyond tells just the leaves that touch -/
theorem beyond_touch (hf : Fits t L) (h : isLf t c = true) (ho : isLf t o = true) : o ∈ beyond t c s ↔ Touch s (sqr L X Y c) (sqr L X Y o) := by
  constructor
  · intro hm
    have hb : beside c s ≠ none := by
      intro hb
      unfold beyond at hm; rw [hb] at hm; simp at hm
    have hc := cover_of (X := X) (Y := Y) hf h hb
    have hq := List.mem_map_of_mem (f := sqr L X Y) hm
    exact ⟨(hc.1 _ hq).symm, (hc.pos (sqr_pos hf h) _ hq).2⟩
  · rintro ⟨e, h1, h2⟩
    have hw1 := sqr_pos (X := X) (Y := Y) hf h
    have hw2 := sqr_pos (X := X) (Y := Y) hf ho
    have eh : ∀ q : Sq, hi s q = lo s q + q.w := fun _ => rfl
    have g1 := eh (sqr L X Y c)
    have g2 := eh (sqr L X Y o)
    have hp := bp_has (A := sqr L X Y c) e.symm hw2 (t := max (lo s (sqr L X Y c)) (lo s (sqr L X Y o))) (by omega) (by omega)
    exact ((beyond_pt hf h ho (by omega) (by omega)).mp hp).1
theorem touch_symm {A B : Sq} (h : Touch s A B) : Touch (opp s) B A := by
  obtain ⟨h1, h2, h3⟩ := h
  cases s <;> exact ⟨h1.symm, h3, h2⟩
end

/-! ### the free parts of a side -/
def free : Int → Int → List (Int × Int) → List (Int × Int)
  | b, e, [] => if b < e then [(b, e)] else []
  | b, e, p :: r => (if b < p.1 then [(b, p.1)] else []) ++ free (max b p.2) e r
/-- stretches within b .. e, one behind the other -/
def Rise : Int → Int → List (Int × Int) → Prop
  | b, e, [] => b ≤ e
  | b, e, p :: r => b ≤ p.1 ∧ p.1 < p.2 ∧ Rise p.2 e r
def sumLen (ps : List (Int × Int)) : Int := (ps.map fun p => p.2 - p.1).sum
theorem Rise.le : ∀ {b e : Int} {k : List (Int × Int)}, Rise b e k → b ≤ e
  | _, _, [], h => h
  | b, e, p :: r, ⟨h1, h2, h3⟩ => by have := Rise.le h3; omega
theorem Rise.mem : ∀ {b e : Int} {k : List (Int × Int)}, Rise b e k → ∀ p ∈ k, b ≤ p.1 ∧ p.1 < p.2 ∧ p.2 ≤ e
  | _, _, [], _ => fun _ z => nomatch z
  | b, e, q :: r, ⟨h1, h2, h3⟩ => fun p hp => by
    have hl := Rise.le h3
    rcases List.mem_cons.mp hp with rfl | hp
    · exact ⟨h1, h2, hl⟩
    · have := Rise.mem h3 p hp
      omega
theorem free_spec : ∀ {b e : Int} {k : List (Int × Int)}, Rise b e k →
    (∀ p ∈ free b e k, b ≤ p.1 ∧ p.1 < p.2 ∧ p.2 ≤ e ∧ (∀ q ∈ k, q.2 ≤ p.1 ∨ p.2 ≤ q.1) ∧ (p.1 = b ∨ ∃ q ∈ k, q.2 = p.1) ∧ (p.2 = e ∨ ∃ q ∈ k, q.1 = p.2)) ∧
    (∀ t, b ≤ t → t < e → (∀ q ∈ k, ¬ (q.1 ≤ t ∧ t < q.2)) → ∃ p ∈ free b e k, p.1 ≤ t ∧ t < p.2) ∧
    (free b e k).Pairwise (fun p q => p.2 ≤ q.1) ∧ sumLen (free b e k) = e - b - sumLen k
  | b, e, [], h => by
    have h' : b ≤ e := h
    unfold free
    by_cases hb : b < e
    · rw [if_pos hb]
      refine ⟨fun p hp => ?_, fun t h1 h2 _ => ⟨_, List.mem_cons_self, h1, h2⟩, List.pairwise_singleton _ _, by simp [sumLen]⟩
      simp at hp; subst hp
      exact ⟨Int.le_refl _, hb, Int.le_refl _, (fun _ z => nomatch z), .inl rfl, .inl rfl⟩
    · rw [if_neg hb]
      refine ⟨(fun p hp => nomatch hp), fun t h1 h2 _ => by omega, List.Pairwise.nil, by simp [sumLen]; omega⟩
  | b, e, q :: r, ⟨h1, h2, h3⟩ => by
    obtain ⟨i1, i2, i3, i4⟩ := free_spec h3
    have hl := Rise.le h3
    have hm := Rise.mem h3
    unfold free
    rw [show max b q.2 = q.2 by omega]
    by_cases hb : b < q.1
    · rw [if_pos hb]
      refine ⟨fun p hp => ?_, fun t t1 t2 t3 => ?_, ?_, ?_⟩
      · rcases List.mem_append.mp hp with hp | hp
        · simp at hp; subst hp
          refine ⟨Int.le_refl _, hb, by omega, fun q' hq' => ?_, .inl rfl, .inr ⟨q, List.mem_cons_self, rfl⟩⟩
          rcases List.mem_cons.mp hq' with rfl | hq'
          · exact .inr (Int.le_refl _)
          · have := hm q' hq'
            exact .inr (by simp; omega)
        · obtain ⟨j1, j2, j3, j4, j5, j6⟩ := i1 p hp
          refine ⟨by omega, j2, j3, fun q' hq' => ?_, ?_, ?_⟩
          · rcases List.mem_cons.mp hq' with rfl | hq'
            · exact .inl j1
            · exact j4 q' hq'
          · rcases j5 with j5 | ⟨q', a, b'⟩
            · exact .inr ⟨q, List.mem_cons_self, j5.symm⟩
            · exact .inr ⟨q', List.mem_cons_of_mem _ a, b'⟩
          · rcases j6 with j6 | ⟨q', a, b'⟩
            · exact .inl j6
            · exact .inr ⟨q', List.mem_cons_of_mem _ a, b'⟩
      · by_cases ht : t < q.1
        · exact ⟨(b, q.1), List.mem_append_left _ List.mem_cons_self, t1, ht⟩
        · have := t3 q List.mem_cons_self
          obtain ⟨p, hp, p1⟩ := i2 t (by omega) t2 fun q' hq' => t3 q' (List.mem_cons_of_mem _ hq')
          exact ⟨p, List.mem_append_right _ hp, p1⟩
      · refine List.pairwise_append.mpr ⟨List.pairwise_singleton _ _, i3, fun a ha p hp => ?_⟩
        simp at ha; subst ha
        have := (i1 p hp).1
        show q.1 ≤ p.1
        omega
      · unfold sumLen at i4 ⊢
        rw [List.map_append, List.sum_append, i4]
        simp; omega
    · rw [if_neg hb, List.nil_append]
      have hbe : b = q.1 := by omega
      refine ⟨fun p hp => ?_, fun t t1 t2 t3 => ?_, i3, ?_⟩
      · obtain ⟨j1, j2, j3, j4, j5, j6⟩ := i1 p hp
        refine ⟨by omega, j2, j3, fun q' hq' => ?_, ?_, ?_⟩
        · rcases List.mem_cons.mp hq' with rfl | hq'
          · exact .inl j1
          · exact j4 q' hq'
        · rcases j5 with j5 | ⟨q', a, b'⟩
          · exact .inr ⟨q, List.mem_cons_self, j5.symm⟩
          · exact .inr ⟨q', List.mem_cons_of_mem _ a, b'⟩
        · rcases j6 with j6 | ⟨q', a, b'⟩
          · exact .inl j6
          · exact .inr ⟨q', List.mem_cons_of_mem _ a, b'⟩
      · have := t3 q List.mem_cons_self
        exact i2 t (by omega) t2 fun q' hq' => t3 q' (List.mem_cons_of_mem _ hq')
      · rw [i4]
        simp only [sumLen, List.map_cons, List.sum_cons]; omega
theorem Rise.widen : ∀ {b b' e : Int} {k : List (Int × Int)}, Rise b e k → b' ≤ b → Rise b' e k
  | _, _, _, [], h, hb => by have h' := h; unfold Rise at h' ⊢; omega
  | _, _, _, _ :: _, ⟨h1, h2, h3⟩, hb => ⟨by omega, h2, h3⟩

/-- how much two squares have in common along a side -/
def ov (s : Sd) (A B : Sq) : Int := min (hi s A) (hi s B) - max (lo s A) (lo s B)

def stretch (s : Sd) (q : Sq) : Int × Int := (lo s q, hi s q)
theorem tiles_rise {s : Sd} (f : Sq → Bool) : ∀ {l h : Int} {os : List Sq}, Tiles s l h os → Rise l h ((os.filter f).map (stretch s)) ∧ sumLen ((os.filter f).map (stretch s)) = ((os.filter f).map (fun q => q.w)).sum
  | l, h, [], e => by
    have e' : l = h := e
    exact ⟨by show l ≤ h; omega, rfl⟩
  | l, h, q :: r, ⟨e1, e2, e3⟩ => by
    obtain ⟨i1, i2⟩ := tiles_rise f e3
    have eh : hi s q = lo s q + q.w := rfl
    by_cases hf : f q = true
    · rw [List.filter_cons_of_pos hf]
      refine ⟨⟨by show l ≤ lo s q; omega, by show lo s q < hi s q; omega, i1⟩, ?_⟩
      unfold sumLen at i2 ⊢
      simp only [List.map_cons, List.sum_cons, i2, stretch]
      omega
    · rw [List.filter_cons_of_neg hf]
      exact ⟨i1.widen (by omega), i2⟩

section
variable (t : Tr) (L : Nat) (S : List Code)
/-- the squares of a place in the sheet -/
abbrev sq (c : Code) : Sq := sqr L 0 0 c
/-- the place lies in the land -/
def In (p : Int × Int) : Prop := ∃ o ∈ S, (sqr L 0 0 o).hasP p
def taken (c : Code) (s : Sd) : List (Int × Int) := ((beyond t c s).filter (fun o => decide (o ∈ S))).map fun o => stretch s (sqr L 0 0 o)
def parts (c : Code) (s : Sd) : List (Int × Int) := free (lo s (sqr L 0 0 c)) (hi s (sqr L 0 0 c)) (taken t L S c s)
end

section
variable {t : Tr} {L : Nat} {S : List Code} {c : Code} {s : Sd}
theorem in_taken (hf : Fits t L) (hS : ∀ o ∈ S, isLf t o = true) (h : isLf t c = true) {tt : Int} (h1 : lo s (sqr L 0 0 c) ≤ tt) (h2 : tt < hi s (sqr L 0 0 c)) :
    In L S (bp s (sqr L 0 0 c) tt) ↔ ∃ q ∈ taken t L S c s, q.1 ≤ tt ∧ tt < q.2 := by
  constructor
  · rintro ⟨o, ho, hp⟩
    have := (beyond_pt hf h (hS o ho) h1 h2).mp hp
    exact ⟨_, List.mem_map.mpr ⟨o, List.mem_filter.mpr ⟨this.1, by simpa using ho⟩, rfl⟩, this.2⟩
  · rintro ⟨q, hq, h3⟩
    obtain ⟨o, ho, rfl⟩ := List.mem_map.mp hq
    obtain ⟨ho1, ho2⟩ := List.mem_filter.mp ho
    have ho3 : o ∈ S := by simpa using ho2
    exact ⟨o, ho3, (beyond_pt hf h (hS o ho3) h1 h2).mpr ⟨ho1, h3⟩⟩

structure PartsOk (t : Tr) (L : Nat) (S : List Code) (c : Code) (s : Sd) : Prop where
  p1 : ∀ p ∈ parts t L S c s, lo s (sqr L 0 0 c) ≤ p.1 ∧ p.1 < p.2 ∧ p.2 ≤ hi s (sqr L 0 0 c) ∧ (∀ tt, p.1 ≤ tt → tt < p.2 → ¬ In L S (bp s (sqr L 0 0 c) tt)) ∧
    (p.1 = lo s (sqr L 0 0 c) ∨ In L S (bp s (sqr L 0 0 c) (p.1 - 1))) ∧ (p.2 = hi s (sqr L 0 0 c) ∨ In L S (bp s (sqr L 0 0 c) p.2))
  p2 : ∀ tt, lo s (sqr L 0 0 c) ≤ tt → tt < hi s (sqr L 0 0 c) → ¬ In L S (bp s (sqr L 0 0 c) tt) → ∃ p ∈ parts t L S c s, p.1 ≤ tt ∧ tt < p.2
  p3 : (parts t L S c s).Pairwise fun p q => p.2 ≤ q.1
  p4 : sumLen (parts t L S c s) = (sqr L 0 0 c).w - (((beyond t c s).filter (fun o => decide (o ∈ S))).map fun o => ov s (sqr L 0 0 c) (sqr L 0 0 o)).sum

theorem filter_map_sq (os : List Code) (f : Code → Bool) (g : Code → Sq) (hinj : ∀ a ∈ os, ∀ b ∈ os, g a = g b → a = b) : ∃ f' : Sq → Bool, (os.filter f).map g = (os.map g).filter f' := by
  refine ⟨fun q => os.any fun o => decide (g o = q) && f o, ?_⟩
  rw [List.filter_map]
  congr 1
  refine List.filter_congr fun a ha => ?_
  simp only [Function.comp]
  apply Bool.eq_iff_iff.mpr
  rw [List.any_eq_true]
  constructor
  · intro h; exact ⟨a, ha, by simp [h]⟩
  · rintro ⟨b, hb, h⟩
    simp at h
    rw [hinj a ha b hb h.1.symm]; exact h.2

theorem parts_ok (hf : Fits t L) (hS : ∀ o ∈ S, isLf t o = true) (h : isLf t c = true) : PartsOk t L S c s := by
  have hw := sqr_pos (X := 0) (Y := 0) hf h
  have eh : ∀ q : Sq, hi s q = lo s q + q.w := fun _ => rfl
  have e0 := eh (sqr L 0 0 c)
  have hit : ∀ tt, lo s (sqr L 0 0 c) ≤ tt → tt < hi s (sqr L 0 0 c) → (In L S (bp s (sqr L 0 0 c) tt) ↔ ∃ q ∈ taken t L S c s, q.1 ≤ tt ∧ tt < q.2) := fun tt h1 h2 => in_taken hf hS h h1 h2
  -- the taken stretches rise within the side, or one covers it
  have main : (Rise (lo s (sqr L 0 0 c)) (hi s (sqr L 0 0 c)) (taken t L S c s) ∧ sumLen (taken t L S c s) = (((beyond t c s).filter (fun o => decide (o ∈ S))).map fun o => ov s (sqr L 0 0 c) (sqr L 0 0 o)).sum) ∨
      (∃ o, beyond t c s = [o] ∧ o ∈ S ∧ lo s (sqr L 0 0 o) ≤ lo s (sqr L 0 0 c) ∧ hi s (sqr L 0 0 c) ≤ hi s (sqr L 0 0 o)) := by
    by_cases hb : beside c s = none
    · left
      have he : beyond t c s = [] := by unfold beyond; rw [hb]
      unfold taken
      rw [he]
      exact ⟨by show lo s _ ≤ hi s _; omega, rfl⟩
    · have hc := cover_of (X := 0) (Y := 0) hf h hb
      rcases hc.2 with ⟨q, e, h1, h2⟩ | ht
      · obtain ⟨o, ho⟩ : ∃ o, beyond t c s = [o] := by
          have := congrArg List.length e
          rw [List.length_map] at this
          exact List.length_eq_one_iff.mp this
        rw [ho] at e
        simp at e
        subst e
        by_cases hoS : o ∈ S
        · exact .inr ⟨o, ho, hoS, h1, h2⟩
        · left
          unfold taken
          rw [ho, List.filter_cons_of_neg (by simpa using hoS)]
          exact ⟨by show lo s _ ≤ hi s _; omega, rfl⟩
      · left
        have hinj : ∀ a ∈ beyond t c s, ∀ b ∈ beyond t c s, sqr L 0 0 a = sqr L 0 0 b → a = b := fun a ha b hb e => by
          have la := beyond_lf ha
          have lb := beyond_lf hb
          have pa := sqr_pos (X := 0) (Y := 0) hf la
          refine leaf_uniq (X := 0) (Y := 0) (px := (sqr L 0 0 a).x) (py := (sqr L 0 0 a).y) hf la lb ?_ ?_
          · exact ⟨Int.le_refl _, by omega, Int.le_refl _, by omega⟩
          · rw [← e]; exact ⟨Int.le_refl _, by omega, Int.le_refl _, by omega⟩
        obtain ⟨f', hf'⟩ := filter_map_sq (beyond t c s) (fun o => decide (o ∈ S)) (sqr L 0 0) hinj
        obtain ⟨i1, i2⟩ := tiles_rise f' ht
        have et : taken t L S c s = (((beyond t c s).map (sqr L 0 0)).filter f').map (stretch s) := by
          unfold taken; rw [← hf', List.map_map]; rfl
        rw [et]
        refine ⟨i1, i2.trans ?_⟩
        rw [← hf', List.map_map]
        congr 1
        refine List.map_congr_left fun o ho => ?_
        have hm := ht.mem.2 (sqr L 0 0 o) (List.mem_map_of_mem (List.mem_filter.mp ho).1)
        have := eh (sqr L 0 0 o)
        show (sqr L 0 0 o).w = ov s _ _
        unfold ov
        omega
  rcases main with ⟨hr, hsum⟩ | ⟨o, ho, hoS, h1, h2⟩
  · obtain ⟨f1, f2, f3, f4⟩ := free_spec hr
    have hm := hr.mem
    refine ⟨fun p hp => ?_, fun tt t1 t2 t3 => ?_, f3, ?_⟩
    · obtain ⟨a1, a2, a3, a4, a5, a6⟩ := f1 p hp
      refine ⟨a1, a2, a3, fun tt t1 t2 hin => ?_, ?_, ?_⟩
      · obtain ⟨q, hq, q1, q2⟩ := (hit tt (by omega) (by omega)).mp hin
        have := a4 q hq
        omega
      · rcases a5 with a5 | ⟨q, hq, e⟩
        · exact .inl a5
        · have := hm q hq
          exact .inr ((hit _ (by omega) (by omega)).mpr ⟨q, hq, by omega, by omega⟩)
      · rcases a6 with a6 | ⟨q, hq, e⟩
        · exact .inl a6
        · have := hm q hq
          exact .inr ((hit _ (by omega) (by omega)).mpr ⟨q, hq, by omega, by omega⟩)
    · refine f2 tt t1 t2 fun q hq hh => t3 ((hit tt t1 t2).mpr ⟨q, hq, hh⟩)
    · unfold parts
      rw [f4, hsum]; omega
  · have et : taken t L S c s = [stretch s (sqr L 0 0 o)] := by
      unfold taken; rw [ho, List.filter_cons_of_pos (by simpa using hoS)]; rfl
    have ep : parts t L S c s = [] := by
      unfold parts
      rw [et]
      show (if lo s _ < lo s (sqr L 0 0 o) then _ else _) ++ (if max (lo s _) (hi s (sqr L 0 0 o)) < hi s _ then _ else _) = []
      rw [if_neg (by omega), if_neg (by omega)]; rfl
    refine ⟨fun p hp => by (rw [ep] at hp; cases hp), fun tt t1 t2 t3 => ?_, by rw [ep]; exact List.Pairwise.nil, ?_⟩
    · exfalso
      exact t3 ((hit tt t1 t2).mpr ⟨_, by rw [et]; exact List.mem_cons_self, by show lo s _ ≤ tt; omega, by show tt < hi s _; omega⟩)
    · rw [ep, ho, List.filter_cons_of_pos (by simpa using hoS)]
      show (0 : Int) = _ - (ov s _ _ + 0)
      unfold ov
      omega
end
end QS
namespace QS
open Qd Sd

abbrev Pt := Int × Int
abbrev Key := Pt × Sd
abbrev Way := Key × Pt

def rot : Sd → Sd | up => right | right => down | down => left | left => up
def rot3 : Sd → Sd | up => left | right => up | down => right | left => down

/-- the point at t on the side s; the place within, there -/
def pt : Sd → Sq → Int → Pt
  | up, A, t => (t, A.y) | right, A, t => (A.x + A.w, t) | down, A, t => (t, A.y + A.w) | left, A, t => (A.x, t)
/-- where one begins and ends, gone along a part with the land at the right hand -/
def startOf (s : Sd) (A : Sq) (p : Int × Int) : Pt := match s with
  | up => pt up A p.1 | right => pt right A p.1 | down => pt down A p.2 | left => pt left A p.2
def endOf (s : Sd) (A : Sq) (p : Int × Int) : Pt := match s with
  | up => pt up A p.2 | right => pt right A p.2 | down => pt down A p.1 | left => pt left A p.1
def way (s : Sd) (A : Sq) (p : Int × Int) : Way := ((startOf s A p, s), endOf s A p)

/-- the four places at a point, told from a direction: right ahead, left ahead, right behind, left behind -/
def ra : Pt → Sd → Pt
  | (x, y), up => (x, y) | (x, y), right => (x - 1, y) | (x, y), down => (x - 1, y - 1) | (x, y), left => (x, y - 1)
def la (P : Pt) (d : Sd) : Pt := ra P (rot3 d)
def rb (P : Pt) (d : Sd) : Pt := ra P (rot d)
def lb (P : Pt) (d : Sd) : Pt := ra P (rot (rot d))
theorem rot4 (d : Sd) : rot (rot (rot d)) = rot3 d := by cases d <;> rfl
theorem rot_rot3 (d : Sd) : rot (rot3 d) = d := by cases d <;> rfl
theorem rot3_rot (d : Sd) : rot3 (rot d) = d := by cases d <;> rfl

section
variable (t : Tr) (L : Nat) (S : List Code)
def sides : List Sd := [up, right, down, left]
def waysOf (c : Code) : List Way := sides.flatMap fun s => (parts t L S c s).map (way s (sqr L 0 0 c))
def allWays : List Way := S.flatMap (waysOf t L S)
/-- P, d is where a way begins -/
def isK (P : Pt) (d : Sd) : Prop := ∃ c ∈ S, (sqr L 0 0 c).hasP (ra P d) ∧ ¬ In L S (la P d) ∧ ¬ ((sqr L 0 0 c).hasP (rb P d) ∧ ¬ In L S (lb P d))
end

section
variable {t : Tr} {L : Nat} {S : List Code}
theorem in_of {c : Code} {p : Pt} (hc : c ∈ S) (h : (sqr L 0 0 c).hasP p) : In L S p := ⟨c, hc, h⟩
theorem uniq (hf : Fits t L) (hS : ∀ o ∈ S, isLf t o = true) {c c' : Code} {p : Pt} (hc : c ∈ S) (hc' : c' ∈ S) (h : (sqr L 0 0 c).hasP p) (h' : (sqr L 0 0 c').hasP p) : c = c' :=
  leaf_uniq hf (hS c hc) (hS c' hc') h h'

theorem mem_waysOf {c : Code} {w : Way} : w ∈ waysOf t L S c ↔ ∃ s, ∃ p ∈ parts t L S c s, w = way s (sqr L 0 0 c) p := by
  unfold waysOf
  rw [List.mem_flatMap]
  constructor
  · rintro ⟨s, _, h⟩
    obtain ⟨p, hp, rfl⟩ := List.mem_map.mp h
    exact ⟨s, p, hp, rfl⟩
  · rintro ⟨s, p, hp, rfl⟩
    exact ⟨s, by cases s <;> simp [sides], List.mem_map.mpr ⟨p, hp, rfl⟩⟩

/-- what a way's beginning and end are like -/
structure WayOk (t : Tr) (L : Nat) (S : List Code) (c : Code) (w : Way) : Prop where
  r0 : (sqr L 0 0 c).hasP (ra w.1.1 w.1.2)
  l0 : ¬ In L S (la w.1.1 w.1.2)
  b0 : ¬ ((sqr L 0 0 c).hasP (rb w.1.1 w.1.2) ∧ ¬ In L S (lb w.1.1 w.1.2))
  r1 : (sqr L 0 0 c).hasP (rb w.2 w.1.2)
  l1 : ¬ In L S (lb w.2 w.1.2)
  b1 : ¬ ((sqr L 0 0 c).hasP (ra w.2 w.1.2) ∧ ¬ In L S (la w.2 w.1.2))

theorem way_ok (hf : Fits t L) (hS : ∀ o ∈ S, isLf t o = true) {c : Code} (hc : c ∈ S) {s : Sd} {p : Int × Int} (hp : p ∈ parts t L S c s) : WayOk t L S c (way s (sqr L 0 0 c) p) := by
  obtain ⟨a1, a2, a3, a4, a5, a6⟩ := (parts_ok (s := s) hf hS (hS c hc)).p1 p hp
  have hw := sqr_pos (X := 0) (Y := 0) hf (hS c hc)
  have b1 := a4 p.1 (Int.le_refl _) a2
  have b2 := a4 (p.2 - 1) (by omega) (by omega)
  cases s
  case up =>
    simp only [lo, hi, bp] at *
    refine ⟨?_, b1, ?_, ?_, b2, ?_⟩
    · simp only [way, startOf, pt, ra, Sq.hasP, Sq.has]; omega
    · rintro ⟨h1, h2⟩
      rcases a5 with a5 | a5
      · simp only [way, startOf, pt, rb, rot, ra, Sq.hasP, Sq.has] at h1; omega
      · exact h2 a5
    · simp only [way, endOf, pt, rb, rot, ra, Sq.hasP, Sq.has]; omega
    · rintro ⟨h1, h2⟩
      rcases a6 with a6 | a6
      · simp only [way, endOf, pt, rb, rot, ra, Sq.hasP, Sq.has] at h1; omega
      · exact h2 a6
  case right =>
    simp only [lo, hi, bp] at *
    refine ⟨?_, b1, ?_, ?_, b2, ?_⟩
    · simp only [way, startOf, pt, ra, Sq.hasP, Sq.has]; omega
    · rintro ⟨h1, h2⟩
      rcases a5 with a5 | a5
      · simp only [way, startOf, pt, rb, rot, ra, Sq.hasP, Sq.has] at h1; omega
      · exact h2 a5
    · simp only [way, endOf, pt, rb, rot, ra, Sq.hasP, Sq.has]; omega
    · rintro ⟨h1, h2⟩
      rcases a6 with a6 | a6
      · simp only [way, endOf, pt, rb, rot, ra, Sq.hasP, Sq.has] at h1; omega
      · exact h2 a6
  case down =>
    simp only [lo, hi, bp] at *
    have e1 : (sqr L 0 0 c).y + (sqr L 0 0 c).w = (sqr L 0 0 c).y + (sqr L 0 0 c).w - 1 + 1 := by omega
    refine ⟨?_, b2, ?_, ?_, b1, ?_⟩
    · simp only [way, startOf, pt, ra, Sq.hasP, Sq.has]; omega
    · rintro ⟨h1, h2⟩
      rcases a6 with a6 | a6
      · simp only [way, startOf, pt, rb, rot, ra, Sq.hasP, Sq.has] at h1; omega
      · exact h2 a6
    · simp only [way, endOf, pt, rb, rot, ra, Sq.hasP, Sq.has]; omega
    · rintro ⟨h1, h2⟩
      rcases a5 with a5 | a5
      · simp only [way, endOf, pt, rb, rot, ra, Sq.hasP, Sq.has] at h1; omega
      · exact h2 a5
  case left =>
    simp only [lo, hi, bp] at *
    refine ⟨?_, b2, ?_, ?_, b1, ?_⟩
    · simp only [way, startOf, pt, ra, Sq.hasP, Sq.has]; omega
    · rintro ⟨h1, h2⟩
      rcases a6 with a6 | a6
      · simp only [way, startOf, pt, rb, rot, ra, Sq.hasP, Sq.has] at h1; omega
      · exact h2 a6
    · simp only [way, endOf, pt, rb, rot, ra, Sq.hasP, Sq.has]; omega
    · rintro ⟨h1, h2⟩
      rcases a5 with a5 | a5
      · simp only [way, endOf, pt, rb, rot, ra, Sq.hasP, Sq.has] at h1; omega
      · exact h2 a5

/-- where the four places are right, a way begins -/
theorem key_of (hf : Fits t L) (hS : ∀ o ∈ S, isLf t o = true) {c : Code} (hc : c ∈ S) {P : Pt} {d : Sd} (h0 : (sqr L 0 0 c).hasP (ra P d)) (h1 : ¬ In L S (la P d)) (h2 : ¬ ((sqr L 0 0 c).hasP (rb P d) ∧ ¬ In L S (lb P d))) :
    ∃ p ∈ parts t L S c d, startOf d (sqr L 0 0 c) p = P := by
  have ok := parts_ok (s := d) hf hS (hS c hc)
  have hl : ¬ (sqr L 0 0 c).hasP (la P d) := fun z => h1 (in_of hc z)
  obtain ⟨x, y⟩ := P
  cases d
  case up =>
    simp only [la, ra, rot3, rb, lb, rot, Sq.hasP, Sq.has] at h0 h1 h2 hl
    have ey : y = (sqr L 0 0 c).y := by omega
    obtain ⟨p, hp, p1, p2⟩ := ok.p2 x (by simp only [lo]; omega) (by simp only [hi, lo]; omega) (by simp only [bp]; rw [← ey]; exact h1)
    obtain ⟨q1, q2, q3, q4, _⟩ := ok.p1 p hp
    simp only [lo, hi, bp] at q1 q2 q3 q4
    refine ⟨p, hp, ?_⟩
    have : p.1 = x := by
      rcases Int.lt_or_eq_of_le p1 with hlt | e
      · exfalso
        refine h2 ⟨by omega, ?_⟩
        rw [ey]; exact q4 (x - 1) (by omega) (by omega)
      · exact e
    simp only [startOf, pt, this, ey]
  case right =>
    simp only [la, ra, rot3, rb, lb, rot, Sq.hasP, Sq.has] at h0 h1 h2 hl
    have ex : x = (sqr L 0 0 c).x + (sqr L 0 0 c).w := by omega
    obtain ⟨p, hp, p1, p2⟩ := ok.p2 y (by simp only [lo]; omega) (by simp only [hi, lo]; omega) (by simp only [bp]; rw [← ex]; exact h1)
    obtain ⟨q1, q2, q3, q4, _⟩ := ok.p1 p hp
    simp only [lo, hi, bp] at q1 q2 q3 q4
    refine ⟨p, hp, ?_⟩
    have : p.1 = y := by
      rcases Int.lt_or_eq_of_le p1 with hlt | e
      · exfalso
        refine h2 ⟨by omega, ?_⟩
        rw [ex]; exact q4 (y - 1) (by omega) (by omega)
      · exact e
    simp only [startOf, pt, this, ex]
  case down =>
    simp only [la, ra, rot3, rb, lb, rot, Sq.hasP, Sq.has] at h0 h1 h2 hl
    have ey : y = (sqr L 0 0 c).y + (sqr L 0 0 c).w := by omega
    obtain ⟨p, hp, p1, p2⟩ := ok.p2 (x - 1) (by simp only [lo]; omega) (by simp only [hi, lo]; omega) (by simp only [bp]; rw [← ey]; exact h1)
    obtain ⟨q1, q2, q3, q4, _⟩ := ok.p1 p hp
    simp only [lo, hi, bp] at q1 q2 q3 q4
    refine ⟨p, hp, ?_⟩
    have : p.2 = x := by
      by_cases e : p.2 = x
      · exact e
      · exfalso
        refine h2 ⟨by omega, ?_⟩
        rw [ey]; exact q4 x (by omega) (by omega)
    simp only [startOf, pt, this, ey]
  case left =>
    simp only [la, ra, rot3, rb, lb, rot, Sq.hasP, Sq.has] at h0 h1 h2 hl
    have ex : x = (sqr L 0 0 c).x := by omega
    obtain ⟨p, hp, p1, p2⟩ := ok.p2 (y - 1) (by simp only [lo]; omega) (by simp only [hi, lo]; omega) (by simp only [bp]; rw [← ex]; exact h1)
    obtain ⟨q1, q2, q3, q4, _⟩ := ok.p1 p hp
    simp only [lo, hi, bp] at q1 q2 q3 q4
    refine ⟨p, hp, ?_⟩
    have : p.2 = y := by
      by_cases e : p.2 = y
      · exact e
      · exfalso
        refine h2 ⟨by omega, ?_⟩
        rw [ex]; exact q4 y (by omega) (by omega)
    simp only [startOf, pt, this, ex]

theorem mem_allWays {w : Way} : w ∈ allWays t L S ↔ ∃ c ∈ S, ∃ s, ∃ p ∈ parts t L S c s, w = way s (sqr L 0 0 c) p := by
  unfold allWays
  rw [List.mem_flatMap]
  constructor
  · rintro ⟨c, hc, h⟩; exact ⟨c, hc, mem_waysOf.mp h⟩
  · rintro ⟨c, hc, h⟩; exact ⟨c, hc, mem_waysOf.mpr h⟩
theorem allWays_ok (hf : Fits t L) (hS : ∀ o ∈ S, isLf t o = true) {w : Way} (h : w ∈ allWays t L S) : ∃ c ∈ S, WayOk t L S c w := by
  obtain ⟨c, hc, s, p, hp, rfl⟩ := mem_allWays.mp h
  exact ⟨c, hc, way_ok hf hS hc hp⟩
/-- which points and directions are keys -/
theorem key_iff (hf : Fits t L) (hS : ∀ o ∈ S, isLf t o = true) {P : Pt} {d : Sd} : (P, d) ∈ (allWays t L S).map (·.1) ↔ isK L S P d := by
  constructor
  · intro h
    obtain ⟨w, hw, e⟩ := List.mem_map.mp h
    obtain ⟨c, hc, ok⟩ := allWays_ok hf hS hw
    have e1 : w.1.1 = P := congrArg Prod.fst e
    have e2 : w.1.2 = d := congrArg Prod.snd e
    exact ⟨c, hc, e1 ▸ e2 ▸ ok.r0, e1 ▸ e2 ▸ ok.l0, e1 ▸ e2 ▸ ok.b0⟩
  · rintro ⟨c, hc, h0, h1, h2⟩
    obtain ⟨p, hp, e⟩ := key_of hf hS hc h0 h1 h2
    exact List.mem_map.mpr ⟨way d (sqr L 0 0 c) p, mem_allWays.mpr ⟨c, hc, d, p, hp, rfl⟩, by rw [← e]; rfl⟩

theorem part_eq {c : Code} {s : Sd} (ok : PartsOk t L S c s) {p q : Int × Int} (hp : p ∈ parts t L S c s) (hq : q ∈ parts t L S c s) (h : p.1 = q.1 ∨ p.2 = q.2) : p = q := by
  have key : ∀ a ∈ parts t L S c s, a.1 < a.2 := fun a ha => (ok.p1 a ha).2.1
  have gen : ∀ (l : List (Int × Int)), (∀ a ∈ l, a.1 < a.2) → l.Pairwise (fun p q => p.2 ≤ q.1) → p ∈ l → q ∈ l → p = q := by
    intro l
    induction l with
    | nil => intro _ _ h; cases h
    | cons a r ih =>
      intro h1 h2 h3 h4
      obtain ⟨h5, h6⟩ := List.pairwise_cons.mp h2
      rcases List.mem_cons.mp h3 with rfl | h3' <;> rcases List.mem_cons.mp h4 with rfl | h4'
      · rfl
      · have := h5 q h4'; have := h1 p h3; have := h1 q h4; omega
      · have := h5 p h3'; have := h1 q h4; have := h1 p h3; omega
      · exact ih (fun a ha => h1 a (List.mem_cons_of_mem _ ha)) h6 h3' h4'
  exact gen _ key ok.p3 hp hq
theorem startOf_inj {s : Sd} {A : Sq} {p q : Int × Int} (h : startOf s A p = startOf s A q) : p.1 = q.1 ∨ p.2 = q.2 := by
  cases s <;> simp [startOf, pt] at h <;> (first | exact .inl h | exact .inr h)
theorem endOf_inj {s : Sd} {A : Sq} {p q : Int × Int} (h : endOf s A p = endOf s A q) : p.1 = q.1 ∨ p.2 = q.2 := by
  cases s <;> simp [endOf, pt] at h <;> (first | exact .inl h | exact .inr h)
/-- a way is told by its key -/
theorem way_of_key (hf : Fits t L) (hS : ∀ o ∈ S, isLf t o = true) {v w : Way} (hv : v ∈ allWays t L S) (hw : w ∈ allWays t L S) (e : v.1 = w.1) : v = w := by
  obtain ⟨c, hc, s, p, hp, rfl⟩ := mem_allWays.mp hv
  obtain ⟨c', hc', s', p', hp', rfl⟩ := mem_allWays.mp hw
  have e2 : s = s' := congrArg Prod.snd e
  subst e2
  have o1 := way_ok hf hS hc hp
  have o2 := way_ok hf hS hc' hp'
  have ec : c = c' := uniq hf hS hc hc' o1.r0 (e ▸ o2.r0)
  subst ec
  have e3 : startOf s (sqr L 0 0 c) p = startOf s (sqr L 0 0 c) p' := congrArg Prod.fst e
  rw [part_eq (parts_ok hf hS (hS c hc)) hp hp' (startOf_inj e3)]
/-- .. and by its end and direction -/
theorem way_of_end (hf : Fits t L) (hS : ∀ o ∈ S, isLf t o = true) {v w : Way} (hv : v ∈ allWays t L S) (hw : w ∈ allWays t L S) (e : v.2 = w.2) (e2 : v.1.2 = w.1.2) : v = w := by
  obtain ⟨c, hc, s, p, hp, rfl⟩ := mem_allWays.mp hv
  obtain ⟨c', hc', s', p', hp', rfl⟩ := mem_allWays.mp hw
  have e2 : s = s' := e2
  subst e2
  have o1 := way_ok hf hS hc hp
  have o2 := way_ok hf hS hc' hp'
  have ec : c = c' := uniq hf hS hc hc' o1.r1 (by rw [e]; exact o2.r1)
  subst ec
  rw [part_eq (parts_ok hf hS (hS c hc)) hp hp' (endOf_inj e)]

/-- no key stands twice -/
theorem keys_nodup (hf : Fits t L) (hS : ∀ o ∈ S, isLf t o = true) (hn : S.Nodup) : ((allWays t L S).map (·.1)).Nodup := by
  have hmem : ∀ c ∈ S, ∀ w ∈ waysOf t L S c, WayOk t L S c w := fun c hc w hw => by
    obtain ⟨s, p, hp, rfl⟩ := mem_waysOf.mp hw
    exact way_ok hf hS hc hp
  unfold List.Nodup allWays
  rw [List.pairwise_map, List.pairwise_flatMap]
  refine ⟨fun c hc => ?_, ?_⟩
  · unfold waysOf
    rw [List.pairwise_flatMap]
    refine ⟨fun s _ => ?_, ?_⟩
    · rw [List.pairwise_map]
      have ok := parts_ok (s := s) hf hS (hS c hc)
      refine List.Pairwise.imp_of_mem (R := fun p q => p.2 ≤ q.1) (fun {p q} hp hq h e => ?_) ok.p3
      have e3 : startOf s (sqr L 0 0 c) p = startOf s (sqr L 0 0 c) q := congrArg Prod.fst e
      have := part_eq ok hp hq (startOf_inj e3)
      subst this
      have := (ok.p1 p hp).2.1
      omega
    · have base : sides.Pairwise (fun a b => a ≠ b) := by decide
      refine base.imp fun {a b} hab x hx y hy e => ?_
      obtain ⟨p, _, rfl⟩ := List.mem_map.mp hx
      obtain ⟨q, _, rfl⟩ := List.mem_map.mp hy
      exact hab (congrArg Prod.snd e)
  · refine List.Pairwise.imp_of_mem (R := fun a b => a ≠ b) (fun {a b} ha hb hab x hx y hy e => ?_) hn
    have o1 := hmem a ha x hx
    have o2 := hmem b hb y hy
    exact hab (uniq hf hS ha hb o1.r0 (e ▸ o2.r0))

/-! ### what follows a way -/
def hasKey (W : List Way) (k : Key) : Bool := W.any fun w => decide (w.1 = k)
theorem hasKey_iff {W : List Way} {k : Key} : hasKey W k = true ↔ k ∈ W.map (·.1) := by
  unfold hasKey
  rw [List.any_eq_true, List.mem_map]
  constructor
  · rintro ⟨w, h1, h2⟩; exact ⟨w, h1, by simpa using h2⟩
  · rintro ⟨w, h1, h2⟩; exact ⟨w, h1, by simpa using h2⟩
def follow (W : List Way) (P : Pt) (d : Sd) : Sd :=
  if hasKey W (P, rot d) = true then rot d else if hasKey W (P, d) = true then d else if hasKey W (P, rot3 d) = true then rot3 d else d
def nextKey (W : List Way) (w : Way) : Key := (w.2, follow W w.2 w.1.2)

theorem key1 (hf : Fits t L) (hS : ∀ o ∈ S, isLf t o = true) {w : Way} (hw : w ∈ allWays t L S) : isK L S w.2 (rot w.1.2) ↔ ¬ In L S (ra w.2 w.1.2) := by
  obtain ⟨c, hc, ok⟩ := allWays_ok hf hS hw
  constructor
  · rintro ⟨_, _, _, h, _⟩
    unfold la at h; rw [rot3_rot] at h; exact h
  · intro h
    refine ⟨c, hc, ok.r1, ?_, ?_⟩
    · unfold la; rw [rot3_rot]; exact h
    · rintro ⟨h1, _⟩
      exact ok.l1 (in_of hc h1)
theorem key2 (hf : Fits t L) (hS : ∀ o ∈ S, isLf t o = true) {w : Way} (hw : w ∈ allWays t L S) (h0 : In L S (ra w.2 w.1.2)) : isK L S w.2 w.1.2 ↔ ¬ In L S (la w.2 w.1.2) := by
  obtain ⟨c, hc, ok⟩ := allWays_ok hf hS hw
  constructor
  · rintro ⟨_, _, _, h, _⟩; exact h
  · intro h
    obtain ⟨c', hc', h1⟩ := h0
    refine ⟨c', hc', h1, h, ?_⟩
    rintro ⟨h2, h3⟩
    have e := uniq hf hS hc hc' ok.r1 h2
    subst e
    exact ok.b1 ⟨h1, h⟩
theorem key3 (hf : Fits t L) (hS : ∀ o ∈ S, isLf t o = true) {w : Way} (hw : w ∈ allWays t L S) (h0 : In L S (la w.2 w.1.2)) : isK L S w.2 (rot3 w.1.2) := by
  obtain ⟨c, hc, ok⟩ := allWays_ok hf hS hw
  obtain ⟨c', hc', h1⟩ := h0
  refine ⟨c', hc', h1, ?_, ?_⟩
  · have e : la w.2 (rot3 w.1.2) = lb w.2 w.1.2 := by unfold la lb; cases w.1.2 <;> rfl
    rw [e]; exact ok.l1
  · rintro ⟨_, h2⟩
    have e : lb w.2 (rot3 w.1.2) = rb w.2 w.1.2 := by unfold rb lb; rw [rot_rot3]
    rw [e] at h2
    exact h2 (in_of hc ok.r1)
open Classical in
theorem follow_eq (hf : Fits t L) (hS : ∀ o ∈ S, isLf t o = true) {w : Way} (hw : w ∈ allWays t L S) :
    follow (allWays t L S) w.2 w.1.2 = (if ¬ In L S (ra w.2 w.1.2) then rot w.1.2 else if ¬ In L S (la w.2 w.1.2) then w.1.2 else rot3 w.1.2) := by
  have hk : ∀ P d, (hasKey (allWays t L S) (P, d) = true) = isK L S P d := fun P d => propext (hasKey_iff.trans (key_iff hf hS))
  unfold follow
  simp only [hk]
  by_cases h1 : In L S (ra w.2 w.1.2)
  · have n1 : ¬ isK L S w.2 (rot w.1.2) := fun z => (key1 hf hS hw).mp z h1
    rw [if_neg n1, if_neg (show ¬ ¬ In L S (ra w.2 w.1.2) from fun z => z h1)]
    by_cases h2 : In L S (la w.2 w.1.2)
    · have n2 : ¬ isK L S w.2 w.1.2 := fun z => (key2 hf hS hw h1).mp z h2
      rw [if_neg n2, if_pos (key3 hf hS hw h2), if_neg (show ¬ ¬ In L S (la w.2 w.1.2) from fun z => z h2)]
    · rw [if_pos ((key2 hf hS hw h1).mpr h2), if_pos h2]
  · rw [if_pos ((key1 hf hS hw).mpr h1), if_pos h1]
theorem next_key (hf : Fits t L) (hS : ∀ o ∈ S, isLf t o = true) {w : Way} (hw : w ∈ allWays t L S) : nextKey (allWays t L S) w ∈ (allWays t L S).map (·.1) := by
  unfold nextKey
  rw [follow_eq hf hS hw, key_iff hf hS]
  split
  · rename_i h; exact (key1 hf hS hw).mpr h
  · rename_i h
    have h := Classical.not_not.mp h
    split
    · rename_i h'; exact (key2 hf hS hw h).mpr h'
    · rename_i h'; exact key3 hf hS hw (Classical.not_not.mp h')
theorem next_inj (hf : Fits t L) (hS : ∀ o ∈ S, isLf t o = true) {v w : Way} (hv : v ∈ allWays t L S) (hw : w ∈ allWays t L S) (e : nextKey (allWays t L S) v = nextKey (allWays t L S) w) : v = w := by
  have e1 : v.2 = w.2 := congrArg Prod.fst e
  have e2 : follow (allWays t L S) v.2 v.1.2 = follow (allWays t L S) w.2 w.1.2 := congrArg Prod.snd e
  rw [follow_eq hf hS hv, follow_eq hf hS hw] at e2
  refine way_of_end hf hS hv hw e1 ?_
  obtain ⟨c, hc, ok⟩ := allWays_ok hf hS hv
  obtain ⟨c', hc', ok'⟩ := allWays_ok hf hS hw
  have r1 := in_of hc ok.r1
  have r2 := in_of hc' ok'.r1
  have l1 := ok.l1
  have l2 := ok'.l1
  rw [e1] at e2 r1 l1
  generalize v.1.2 = d at *
  generalize w.1.2 = d' at *
  generalize w.2 = P at *
  clear e hv hw e1 ok ok' hc hc'
  cases d <;> cases d' <;> simp only [rb, lb, la, rot, rot3] at * <;> (first | rfl | (exfalso; revert e2; simp_all))
end
end QS
namespace QS

/-! ### cycles, over any type -/
section
variable {α : Type} [DecidableEq α]
theorem nodup_len {l m : List α} (hn : l.Nodup) (h : ∀ a ∈ l, a ∈ m) : l.length ≤ m.length := by
  induction l generalizing m with
  | nil => exact Nat.zero_le _
  | cons a r ih =>
    obtain ⟨h1, h2⟩ := List.nodup_cons.mp hn
    have ha := h a List.mem_cons_self
    have : r.length ≤ (m.erase a).length := ih h2 fun b hb => by
      have hne : b ≠ a := fun e => h1 (e ▸ hb)
      exact (List.mem_erase_of_ne hne).mpr (h b (List.mem_cons_of_mem _ hb))
    rw [List.length_erase_of_mem ha] at this
    have : 0 < m.length := List.length_pos_of_mem ha
    simp only [List.length_cons]; omega
theorem perm_of {l m : List α} (hn : l.Nodup) (hm : m.Nodup) (h : ∀ a, a ∈ l ↔ a ∈ m) : l.Perm m := (List.perm_ext_iff_of_nodup hn hm).mpr h

/-- f runs from k0 on, k is next -/
inductive Run (nx : α → α) (k0 : α) : List α → α → Prop
  | nil : Run nx k0 [] k0
  | snoc {f : List α} {k : α} : Run nx k0 f k → Run nx k0 (f ++ [k]) (nx k)
variable {nx : α → α} {k0 : α}
theorem Run.head {f : List α} {k : α} (h : Run nx k0 f k) : (f = [] ∧ k = k0) ∨ ∃ r, f = k0 :: r := by
  induction h with
  | nil => exact .inl ⟨rfl, rfl⟩
  | snoc h ih =>
    rcases ih with ⟨rfl, rfl⟩ | ⟨r, rfl⟩
    · exact .inr ⟨[], rfl⟩
    · exact .inr ⟨_, rfl⟩
theorem Run.last {f : List α} {k : α} (h : Run nx k0 f k) : f = [] ∨ ∃ g l, f = g ++ [l] ∧ nx l = k ∧ Run nx k0 g l := by
  cases h with
  | nil => exact .inl rfl
  | snoc h => exact .inr ⟨_, _, rfl, rfl, h⟩
/-- each but the first has one ahead of it -/
theorem Run.pred {f : List α} {k : α} (h : Run nx k0 f k) : ∀ a ∈ f, a = k0 ∨ ∃ f1 b f2, f = f1 ++ b :: f2 ∧ a ∈ f2 ∧ nx b = a := by
  induction h with
  | nil => intro a ha; cases ha
  | @snoc f k h ih =>
    intro a ha
    rcases List.mem_append.mp ha with ha | ha
    · rcases ih a ha with e | ⟨f1, b, f2, rfl, h2, h3⟩
      · exact .inl e
      · exact .inr ⟨f1, b, f2 ++ [k], by simp, List.mem_append_left _ h2, h3⟩
    · simp at ha; subst ha
      rcases h.last with rfl | ⟨g, l, rfl, e, _⟩
      · rcases h.head with ⟨_, e⟩ | ⟨r, e⟩
        · exact .inl e
        · cases e
      · exact .inr ⟨g, l, [a], by simp, by simp, e⟩

variable {K used : List α}
def PredCl (nx : α → α) (K used : List α) : Prop := ∀ a ∈ K, nx a ∈ used → a ∈ used
/-- a run that comes to what was gone along comes to its beginning -/
theorem Run.closes (hi : ∀ a ∈ K, ∀ b ∈ K, nx a = nx b → a = b) (hu : PredCl nx K used) {f : List α} {k : α} (h : Run nx k0 f k) (hf : ∀ a ∈ f, a ∈ K) (hn : (used ++ f).Nodup) (hne : f ≠ []) (hk : k ∈ used ++ f) :
    k = k0 ∧ PredCl nx K (used ++ f) := by
  obtain ⟨hn1, hn2, hn3⟩ := List.nodup_append.mp hn
  rcases h.last with e | ⟨g, l, e, el, _⟩
  · exact absurd e hne
  have hl : l ∈ f := by rw [e]; simp
  have hk0 : k = k0 := by
    rcases List.mem_append.mp hk with hk | hk
    · exfalso
      exact hn3 l (hu l (hf l hl) (by rw [el]; exact hk)) l hl rfl
    · rcases h.pred k hk with e2 | ⟨f1, b, f2, e3, h2, h3⟩
      · exact e2
      · exfalso
        have hb : b ∈ f := by rw [e3]; simp
        have ebl : b = l := hi b (hf b hb) l (hf l hl) (h3.trans el.symm)
        subst ebl
        -- b is the last, but a follows it
        have : f2 ≠ [] := fun z => by rw [z] at h2; cases h2
        obtain ⟨f2', x, rfl⟩ : ∃ f2' x, f2 = f2' ++ [x] := ⟨f2.dropLast, f2.getLast this, (List.dropLast_concat_getLast this).symm⟩
        rw [e] at e3
        have e4 : g ++ [b] = (f1 ++ b :: f2') ++ [x] := by rw [e3]; simp
        have e5 := List.append_inj_right' e4 rfl
        have e6 := List.append_inj_left' e4 rfl
        simp at e5
        subst e5
        rw [e, e6] at hn2
        have := (List.nodup_append.mp hn2).2.2
        exact this b (by simp) b (by simp) rfl
  refine ⟨hk0, fun a ha hna => ?_⟩
  rcases List.mem_append.mp hna with hna | hna
  · exact List.mem_append_left _ (hu a ha hna)
  · rcases h.pred _ hna with e2 | ⟨f1, b, f2, e3, h2, h3⟩
    · have : a = l := hi a ha l (hf l hl) (by rw [e2, el, hk0])
      subst this
      exact List.mem_append_right _ hl
    · have hb : b ∈ f := by rw [e3]; simp
      have : a = b := hi a ha b (hf b hb) h3.symm
      subst this
      exact List.mem_append_right _ hb

/-- the run from k on, f being gone already -/
def ringGo (nx : α → α) (used : List α) : Nat → α → List α → List α
  | 0, _, f => f
  | n + 1, k, f => if k ∈ used ++ f then f else ringGo nx used n (nx k) (f ++ [k])
theorem ringGo_run (hc : ∀ a ∈ K, nx a ∈ K) : ∀ (n : Nat) (k : α) (f : List α), Run nx k0 f k → k ∈ K → (∀ a ∈ f, a ∈ K) → (used ++ f).Nodup → K.length < n + f.length →
    ∃ k', Run nx k0 (ringGo nx used n k f) k' ∧ k' ∈ used ++ ringGo nx used n k f ∧ (∀ a ∈ ringGo nx used n k f, a ∈ K) ∧ (used ++ ringGo nx used n k f).Nodup ∧ f.length ≤ (ringGo nx used n k f).length
  | 0, k, f, hr, hk, hf, hn, hl => by
    have := nodup_len (List.nodup_append.mp hn).2.1 hf
    omega
  | n + 1, k, f, hr, hk, hf, hn, hl => by
    unfold ringGo
    by_cases h : k ∈ used ++ f
    · rw [if_pos h]
      exact ⟨k, hr, h, hf, hn, Nat.le_refl _⟩
    · rw [if_neg h]
      have hf' : ∀ a ∈ f ++ [k], a ∈ K := fun a ha => by
        rcases List.mem_append.mp ha with ha | ha
        · exact hf a ha
        · simp at ha; subst ha; exact hk
      have hn' : (used ++ (f ++ [k])).Nodup := by
        rw [← List.append_assoc]
        refine List.nodup_append.mpr ⟨hn, List.pairwise_singleton _ _, fun a ha b hb => ?_⟩
        simp at hb; subst hb
        intro e; subst e; exact h ha
      obtain ⟨k', h1, h2, h3, h4, h5⟩ := ringGo_run hc n (nx k) (f ++ [k]) hr.snoc (hc k hk) hf' hn' (by rw [List.length_append, List.length_singleton]; omega)
      rw [List.length_append, List.length_singleton] at h5
      exact ⟨k', h1, h2, h3, h4, by omega⟩

/-- a closed run without repeats -/
structure Cyc (nx : α → α) (K : List α) (f : List α) : Prop where
  run : ∃ k0, Run nx k0 f k0
  sub : ∀ a ∈ f, a ∈ K
  nd : f.Nodup
  ne : f ≠ []
def ringsGo (nx : α → α) (n : Nat) : List α → List α → List (List α)
  | [], _ => []
  | k :: ks, used => if k ∈ used then ringsGo nx n ks used else ringGo nx used n k [] :: ringsGo nx n ks (used ++ ringGo nx used n k [])
theorem ringsGo_ok (hc : ∀ a ∈ K, nx a ∈ K) (hi : ∀ a ∈ K, ∀ b ∈ K, nx a = nx b → a = b) {n : Nat} (hn : K.length < n) :
    ∀ (ks used : List α), (∀ a ∈ ks, a ∈ K) → (∀ a ∈ used, a ∈ K) → used.Nodup → PredCl nx K used →
      (∀ r ∈ ringsGo nx n ks used, Cyc nx K r) ∧ (used ++ (ringsGo nx n ks used).flatten).Nodup ∧ (∀ a ∈ (ringsGo nx n ks used).flatten, a ∈ K) ∧ ∀ a ∈ ks, a ∈ used ++ (ringsGo nx n ks used).flatten
  | [], used, _, hu, hd, _ => by
    unfold ringsGo
    exact ⟨fun r hr => (nomatch hr), by simpa using hd, fun a ha => by simp at ha, fun a ha => (nomatch ha)⟩
  | k :: ks, used, hk, hu, hd, hp => by
    unfold ringsGo
    have hkK := hk k List.mem_cons_self
    have hks : ∀ a ∈ ks, a ∈ K := fun a ha => hk a (List.mem_cons_of_mem _ ha)
    by_cases h : k ∈ used
    · rw [if_pos h]
      obtain ⟨h1, h2, h3, h4⟩ := ringsGo_ok hc hi hn ks used hks hu hd hp
      refine ⟨h1, h2, h3, fun a ha => ?_⟩
      rcases List.mem_cons.mp ha with rfl | ha
      · exact List.mem_append_left _ h
      · exact h4 a ha
    · rw [if_neg h]
      obtain ⟨k', r1, r2, r3, r4, r5⟩ := ringGo_run (k0 := k) (used := used) hc n k [] .nil hkK (fun a ha => (nomatch ha)) (by simpa using hd) (by simpa using hn)
      have hne : ringGo nx used n k [] ≠ [] := by
        cases n with
        | zero => omega
        | succ m =>
          unfold ringGo
          rw [if_neg (by simpa using h)]
          intro z
          have hnd' : (used ++ ([] ++ [k])).Nodup := by
            rw [List.nil_append]
            refine List.nodup_append.mpr ⟨hd, List.pairwise_singleton _ _, fun a ha b hb => ?_⟩
            simp at hb; subst hb; intro e; subst e; exact h ha
          have hf' : ∀ a ∈ ([] : List α) ++ [k], a ∈ K := fun a ha => by simp at ha; subst ha; exact hkK
          obtain ⟨_, _, _, _, _, h5⟩ := ringGo_run (k0 := k) (used := used) hc m (nx k) ([] ++ [k]) (.snoc .nil) (hc k hkK) hf' hnd' (by simp; omega)
          rw [z] at h5
          simp at h5
      obtain ⟨c1, c2⟩ := r1.closes hi hp r3 r4 hne r2
      subst c1
      have hu' : ∀ a ∈ used ++ ringGo nx used n k' [], a ∈ K := fun a ha => by
        rcases List.mem_append.mp ha with ha | ha
        · exact hu a ha
        · exact r3 a ha
      obtain ⟨h1, h2, h3, h4⟩ := ringsGo_ok hc hi hn ks (used ++ ringGo nx used n k' []) hks hu' r4 c2
      rw [List.append_assoc] at h2 h4
      refine ⟨fun r hr => ?_, by rw [List.flatten_cons]; exact h2, fun a ha => ?_, fun a ha => ?_⟩
      · rcases List.mem_cons.mp hr with rfl | hr
        · exact ⟨⟨_, r1⟩, r3, (List.nodup_append.mp r4).2.1, hne⟩
        · exact h1 r hr
      · rw [List.flatten_cons] at ha
        rcases List.mem_append.mp ha with ha | ha
        · exact r3 a ha
        · exact h3 a ha
      · rw [List.flatten_cons]
        rcases List.mem_cons.mp ha with rfl | ha
        · refine List.mem_append_right _ (List.mem_append_left _ ?_)
          rcases r1.head with ⟨e, _⟩ | ⟨r, e⟩
          · exact absurd e hne
          · rw [e]; exact List.mem_cons_self
        · exact h4 a ha
theorem rings_perm (hc : ∀ a ∈ K, nx a ∈ K) (hi : ∀ a ∈ K, ∀ b ∈ K, nx a = nx b → a = b) (hd : K.Nodup) {n : Nat} (hn : K.length < n) :
    (∀ r ∈ ringsGo nx n K [], Cyc nx K r) ∧ (ringsGo nx n K []).flatten.Perm K := by
  obtain ⟨h1, h2, h3, h4⟩ := ringsGo_ok hc hi hn K [] (fun a h => h) (fun a h => (nomatch h)) List.nodup_nil (fun a _ h => (nomatch h))
  rw [List.nil_append] at h2
  simp only [List.nil_append] at h4
  exact ⟨h1, perm_of h2 hd fun a => ⟨h3 a, h4 a⟩⟩
end
end QS
namespace QS
open Qd Sd

/-! ### sums along paths -/
section
variable {α : Type}
def psum (g : α → α → Int) : α → List α → Int
  | _, [] => 0
  | p, q :: r => g p q + psum g q r
def lastD : List α → α → α
  | [], a => a
  | x :: r, _ => lastD r x
theorem lastD_app : ∀ (l m : List α) (a : α), lastD (l ++ m) a = lastD m (lastD l a)
  | [], _, _ => rfl
  | x :: r, m, _ => lastD_app r m x
theorem psum_app (g : α → α → Int) : ∀ (l m : List α) (a : α), psum g a (l ++ m) = psum g a l + psum g (lastD l a) m
  | [], m, a => by simp [psum, lastD]
  | x :: r, m, a => by
    show g a x + psum g x (r ++ m) = _
    rw [psum_app g r m x]
    show _ = (g a x + psum g x r) + psum g (lastD r x) m
    omega
theorem lastD_ne : ∀ {l : List α} (a b : α), l ≠ [] → lastD l a = lastD l b
  | [], _, _, h => absurd rfl h
  | _ :: _, _, _, _ => rfl
/-- round the list -/
def csum (g : α → α → Int) : List α → Int
  | [] => 0
  | x :: r => psum g (lastD r x) (x :: r)
theorem csum_eq (g : α → α → Int) {l : List α} (a : α) (h : l ≠ []) : csum g l = psum g (lastD l a) l := by
  cases l with
  | nil => exact absurd rfl h
  | cons x r => rfl
theorem csum_rot (g : α → α → Int) (l m : List α) : csum g (l ++ m) = csum g (m ++ l) := by
  by_cases hl : l = []
  · subst hl; simp
  by_cases hm : m = []
  · subst hm; simp
  obtain ⟨a, _⟩ : ∃ a, a ∈ l := List.exists_mem_of_ne_nil l hl
  have h1 : csum g (l ++ m) = psum g (lastD m a) l + psum g (lastD l a) m := by
    rw [csum_eq g a (by simp [hl]), psum_app, lastD_app, lastD_ne (lastD l a) a hm, lastD_ne (lastD m a) a hl]
  have h2 : csum g (m ++ l) = psum g (lastD l a) m + psum g (lastD m a) l := by
    rw [csum_eq g a (by simp [hl]), psum_app, lastD_app, lastD_ne (lastD m a) a hl, lastD_ne (lastD l a) a hm]
  omega
end

/-! ### points, directions -/
def dx : Sd → Int | up => 1 | right => 0 | down => -1 | left => 0
def dy : Sd → Int | up => 0 | right => 1 | down => 0 | left => -1
/-- m steps on in the direction d -/
def on (P : Pt) (d : Sd) (m : Int) : Pt := (P.1 + m * dx d, P.2 + m * dy d)
theorem on_on (P : Pt) (d : Sd) (m n : Int) : on (on P d m) d n = on P d (m + n) := by
  cases d <;> simp [on, dx, dy] <;> omega
theorem on_zero (P : Pt) (d : Sd) : on P d 0 = P := by simp [on]
/-- it adds up along a straight way -/
structure Add (g : Pt → Pt → Int) : Prop where
  zero : ∀ P, g P P = 0
  add : ∀ P d m n, 0 ≤ m → 0 ≤ n → g P (on P d m) + g (on P d m) (on P d (m + n)) = g P (on P d (m + n))
def cross (p q : Pt) : Int := p.1 * q.2 - q.1 * p.2
def far (p q : Pt) : Int := (p.1 - q.1).natAbs + (p.2 - q.2).natAbs
theorem cross_add : Add cross := by
  refine ⟨fun P => by simp [cross, Int.mul_comm], fun P d m n _ _ => ?_⟩
  obtain ⟨x, y⟩ := P
  cases d <;> simp only [cross, on, dx, dy] <;> grind
theorem far_add : Add far := by
  refine ⟨fun P => by simp [far], fun P d m n h1 h2 => ?_⟩
  obtain ⟨x, y⟩ := P
  cases d <;> simp only [far, on, dx, dy] <;> omega
theorem far_on (P : Pt) (d : Sd) {m : Int} (h : 0 ≤ m) : far P (on P d m) = m := by
  obtain ⟨x, y⟩ := P
  cases d <;> simp only [far, on, dx, dy] <;> omega

/-! ### the points at which a ring changes its way -/
def turnsFrom : Sd → List Key → List Pt
  | _, [] => []
  | d, k :: r => (if k.2 ≠ d then [k.1] else []) ++ turnsFrom k.2 r
def turns (f : List Key) : List Pt := match f with
  | [] => []
  | k :: r => turnsFrom (lastD r k).2 f

/-- a chain of ways from p to q: E k the end of k -/
def Chn (E : Key → Pt) : Pt → List Key → Pt → Prop
  | p, [], q => p = q
  | p, k :: r, q => k.1 = p ∧ (∃ m, 0 < m ∧ E k = on p k.2 m) ∧ Chn E (E k) r q
theorem Chn.snoc {E : Key → Pt} : ∀ {f : List Key} {p : Pt} {k : Key}, Chn E p f k.1 → (∃ m, 0 < m ∧ E k = on k.1 k.2 m) → Chn E p (f ++ [k]) (E k)
  | [], p, k, h, h2 => by
    have e : p = k.1 := h
    exact ⟨e.symm, by rw [e]; exact h2, rfl⟩
  | a :: r, p, k, ⟨h1, h2, h3⟩, h4 => ⟨h1, h2, Chn.snoc h3 h4⟩
def lastDir (f : List Key) (d : Sd) : Sd := match f with
  | [] => d
  | k :: r => (lastD r k).2
theorem lastDir_cons (k : Key) (r : List Key) (d : Sd) : lastDir (k :: r) d = lastDir r k.2 := by
  cases r with
  | nil => rfl
  | cons _ _ => rfl
def total (g : Pt → Pt → Int) (E : Key → Pt) (f : List Key) : Int := (f.map fun k => g k.1 (E k)).sum
theorem straight {g : Pt → Pt → Int} (ha : Add g) {E : Key → Pt} : ∀ (f : List Key) (c p q : Pt) (d : Sd) (m : Int), Chn E p f q → 0 ≤ m → p = on c d m →
    (∃ m', 0 ≤ m' ∧ q = on (lastD (turnsFrom d f) c) (lastDir f d) m' ∧ (turnsFrom d f = [] → f ≠ [] → m < m')) ∧ total g E f + g c p = psum g c (turnsFrom d f) + g (lastD (turnsFrom d f) c) q
  | [], c, p, q, d, m, h, hm, e => by
    have h : p = q := h
    subst h
    exact ⟨⟨m, hm, e, fun _ z => absurd rfl z⟩, by simp [total, turnsFrom, psum, lastD]⟩
  | k :: r, c, p, q, d, m, ⟨h1, ⟨n, h2, h3⟩, h4⟩, hm, e => by
    by_cases hd : k.2 = d
    · have et : turnsFrom d (k :: r) = turnsFrom d r := by
        show (if k.2 ≠ d then [k.1] else []) ++ turnsFrom k.2 r = _
        rw [if_neg (by simp [hd]), List.nil_append, hd]
      have e2 : E k = on c d (m + n) := by rw [h3, hd, e, on_on]
      obtain ⟨⟨m', i1, i2, i3⟩, i4⟩ := straight ha r c (E k) q d (m + n) h4 (by omega) e2
      rw [et, lastDir_cons, hd]
      refine ⟨⟨m', i1, i2, fun h5 _ => ?_⟩, ?_⟩
      · by_cases hr : r = []
        · subst hr
          have h4' : E k = q := h4
          have : q = on c d m' := i2
          rw [← h4', e2] at this
          cases d <;> simp [on, dx, dy] at this <;> omega
        · have := i3 h5 hr; omega
      · rw [← i4]
        show (g k.1 (E k) + total g E r) + g c p = _
        rw [h1]
        have := ha.add c d m n hm (by omega)
        rw [← e, ← e2] at this
        omega
    · have et : turnsFrom d (k :: r) = k.1 :: turnsFrom k.2 r := by
        show (if k.2 ≠ d then [k.1] else []) ++ turnsFrom k.2 r = _
        rw [if_pos hd]; rfl
      obtain ⟨⟨m', i1, i2, i3⟩, i4⟩ := straight ha r k.1 (E k) q k.2 n h4 (by omega) (by rw [h3, h1])
      rw [et, lastDir_cons]
      refine ⟨⟨m', i1, i2, fun h5 => (nomatch h5)⟩, ?_⟩
      show (g k.1 (E k) + total g E r) + g c p = (g c k.1 + psum g k.1 (turnsFrom k.2 r)) + g (lastD (turnsFrom k.2 r) k.1) q
      rw [h1] at i4 ⊢
      omega

/-- in a closed chain there is a turn, and the sum round its corners is the sum over its ways -/
theorem ring_sum {E : Key → Pt} {f : List Key} {p : Pt} (h : Chn E p f p) (hne : f ≠ []) : turns f ≠ [] ∧ ∀ g, Add g → csum g (turns f) = total g E f := by
  obtain ⟨k, r, rfl⟩ : ∃ k r, f = k :: r := by
    cases f with
    | nil => exact absurd rfl hne
    | cons k r => exact ⟨k, r, rfl⟩
  have hl : lastDir (k :: r) (lastD r k).2 = (lastD r k).2 := rfl
  have s1 := fun g (ha : Add g) => straight ha (k :: r) p p p (lastD r k).2 0 h (Int.le_refl _) (on_zero _ _).symm
  have ht : turns (k :: r) ≠ [] := by
    intro z
    have z' : turnsFrom (lastD r k).2 (k :: r) = [] := z
    obtain ⟨⟨m', i1, i2, i3⟩, _⟩ := s1 far far_add
    have := i3 z' hne
    rw [z'] at i2
    have i2 : p = on p (lastD r k).2 m' := i2
    have e := far_on p (lastD r k).2 i1
    rw [← i2, far_add.zero] at e
    omega
  refine ⟨ht, fun g ha => ?_⟩
  have ht' : turnsFrom (lastD r k).2 (k :: r) ≠ [] := ht
  obtain ⟨⟨m', i1, i2, _⟩, _⟩ := s1 g ha
  obtain ⟨_, i4⟩ := straight ha (k :: r) (lastD (turnsFrom (lastD r k).2 (k :: r)) p) p p (lastD r k).2 m' h i1 i2
  rw [lastD_ne (lastD (turnsFrom (lastD r k).2 (k :: r)) p) p ht'] at i4
  rw [csum_eq g p ht]
  show psum g (lastD (turnsFrom (lastD r k).2 (k :: r)) p) (turnsFrom (lastD r k).2 (k :: r)) = _
  omega

/-- two corners one behind the other lie along or down -/
def level (p q : Pt) : Prop := p.1 = q.1 ∨ p.2 = q.2
def Lvl : Pt → List Pt → Prop
  | _, [] => True
  | p, q :: r => level p q ∧ Lvl q r
theorem Lvl.app : ∀ {l m : List Pt} {a : Pt}, Lvl a (l ++ m) ↔ Lvl a l ∧ Lvl (lastD l a) m
  | [], m, a => by simp [Lvl, lastD]
  | x :: r, m, a => by
    show level a x ∧ Lvl x (r ++ m) ↔ (level a x ∧ Lvl x r) ∧ Lvl (lastD r x) m
    rw [Lvl.app, and_assoc]
theorem level_on (P : Pt) (d : Sd) (m : Int) : level P (on P d m) := by
  cases d <;> simp [level, on, dx, dy]
theorem straight_lvl {E : Key → Pt} : ∀ (f : List Key) (c p q : Pt) (d : Sd) (m : Int), Chn E p f q → p = on c d m → Lvl c (turnsFrom d f)
  | [], _, _, _, _, _, _, _ => trivial
  | k :: r, c, p, q, d, m, ⟨h1, ⟨n, h2, h3⟩, h4⟩, e => by
    by_cases hd : k.2 = d
    · have et : turnsFrom d (k :: r) = turnsFrom d r := by
        show (if k.2 ≠ d then [k.1] else []) ++ turnsFrom k.2 r = _
        rw [if_neg (by simp [hd]), List.nil_append, hd]
      rw [et]
      exact straight_lvl r c (E k) q d (m + n) h4 (by rw [h3, hd, e, on_on])
    · have et : turnsFrom d (k :: r) = k.1 :: turnsFrom k.2 r := by
        show (if k.2 ≠ d then [k.1] else []) ++ turnsFrom k.2 r = _
        rw [if_pos hd]; rfl
      rw [et]
      refine ⟨?_, straight_lvl r k.1 (E k) q k.2 n h4 (by rw [h3, h1])⟩
      rw [h1, e]; exact level_on _ _ _
/-- round the list -/
def CLvl (l : List Pt) : Prop := ∀ a, l ≠ [] → Lvl (lastD l a) l
theorem CLvl.rot {l m : List Pt} (h : CLvl (l ++ m)) : CLvl (m ++ l) := by
  intro a hne
  by_cases hl : l = []
  · subst hl; simpa using h a (by simpa using hne)
  by_cases hm : m = []
  · subst hm; simpa using h a (by simpa using hne)
  have := h a (by simp [hl])
  rw [Lvl.app, lastD_app] at this ⊢
  rw [lastD_ne (lastD l a) a hm, lastD_ne (lastD m a) a hl] at this
  rw [lastD_ne (lastD m a) a hl, lastD_ne (lastD l a) a hm]
  exact ⟨this.2, this.1⟩
theorem ring_lvl {E : Key → Pt} {f : List Key} {p : Pt} (h : Chn E p f p) (hne : f ≠ []) : CLvl (turns f) := by
  intro a ht
  obtain ⟨k, r, rfl⟩ : ∃ k r, f = k :: r := by
    cases f with
    | nil => exact absurd rfl hne
    | cons k r => exact ⟨k, r, rfl⟩
  obtain ⟨⟨m', i1, i2, _⟩, _⟩ := straight far_add (k :: r) p p p (lastD r k).2 0 h (Int.le_refl _) (on_zero _ _).symm
  rw [lastD_ne a p ht]
  exact straight_lvl (k :: r) _ p p (lastD r k).2 m' h i2
end QS
namespace QS
open Qd Sd

/-! ### sums -/
section
variable {α β : Type}
theorem sum_app (l m : List Int) : (l ++ m).sum = l.sum + m.sum := List.sum_append
theorem sum_flatMap (f : α → List β) (h : β → Int) : ∀ l : List α, ((l.flatMap f).map h).sum = (l.map fun a => ((f a).map h).sum).sum
  | [] => rfl
  | a :: r => by
    rw [List.flatMap_cons, List.map_append, List.sum_append, sum_flatMap f h r, List.map_cons, List.sum_cons]
theorem sum_add (f g : α → Int) : ∀ l : List α, (l.map fun a => f a + g a).sum = (l.map f).sum + (l.map g).sum
  | [] => rfl
  | a :: r => by
    simp only [List.map_cons, List.sum_cons, sum_add f g r]; omega
theorem sum_sub (f g : α → Int) : ∀ l : List α, (l.map fun a => f a - g a).sum = (l.map f).sum - (l.map g).sum
  | [] => rfl
  | a :: r => by
    simp only [List.map_cons, List.sum_cons, sum_sub f g r]; omega
theorem sum_mul (k : Int) (f : α → Int) : ∀ l : List α, (l.map fun a => k * f a).sum = k * (l.map f).sum
  | [] => by simp
  | a :: r => by
    simp only [List.map_cons, List.sum_cons, sum_mul k f r]; rw [Int.mul_add]
theorem sum_zero : ∀ l : List α, (l.map fun _ => (0 : Int)).sum = 0
  | [] => rfl
  | a :: r => by simp only [List.map_cons, List.sum_cons, sum_zero r]; rfl
theorem sum_congr {f g : α → Int} {l : List α} (h : ∀ a ∈ l, f a = g a) : (l.map f).sum = (l.map g).sum := by
  rw [List.map_congr_left h]
theorem sum_perm {l m : List α} (f : α → Int) (h : l.Perm m) : (l.map f).sum = (m.map f).sum := by
  induction h with
  | nil => rfl
  | cons a _ ih => simp only [List.map_cons, List.sum_cons, ih]
  | swap a b l => simp only [List.map_cons, List.sum_cons]; omega
  | trans _ _ h1 h2 => exact h1.trans h2
theorem sum_swap (f : α → β → Int) : ∀ (l : List α) (m : List β), (l.map fun a => (m.map fun b => f a b).sum).sum = (m.map fun b => (l.map fun a => f a b).sum).sum
  | [], m => by
    rw [List.map_nil, List.sum_nil]
    exact (sum_zero m).symm
  | a :: r, m => by
    rw [List.map_cons, List.sum_cons, sum_swap f r m]
    rw [← sum_add]
    refine sum_congr fun b _ => ?_
    rw [List.map_cons, List.sum_cons]
theorem sum_filter (p : α → Bool) (f : α → Int) : ∀ l : List α, ((l.filter p).map f).sum = (l.map fun a => if p a = true then f a else 0).sum
  | [] => rfl
  | a :: r => by
    by_cases h : p a = true
    · rw [List.filter_cons_of_pos h, List.map_cons, List.sum_cons, sum_filter p f r, List.map_cons, List.sum_cons, if_pos h]
    · rw [List.filter_cons_of_neg h, sum_filter p f r, List.map_cons, List.sum_cons, if_neg h]; omega
end

/-! ### ways, their sums -/
theorem way_on (s : Sd) (A : Sq) (p : Int × Int) : (way s A p).2 = on (way s A p).1.1 s (p.2 - p.1) := by
  cases s <;> simp [way, startOf, endOf, pt, on, dx, dy] <;> omega
def cf : Sd → Sq → Int | up, A => -A.y | right, A => A.x + A.w | down, A => A.y + A.w | left, A => -A.x
theorem cross_way (s : Sd) (A : Sq) (p : Int × Int) : cross (way s A p).1.1 (way s A p).2 = cf s A * (p.2 - p.1) := by
  cases s <;> simp only [way, startOf, endOf, pt, cross, cf] <;> grind

section
variable {t : Tr} {L : Nat} {S : List Code}
theorem Tiles.nodup {s : Sd} : ∀ {l h : Int} {os : List Sq}, Tiles s l h os → os.Nodup
  | _, _, [], _ => List.nodup_nil
  | l, h, q :: r, ⟨e1, e2, e3⟩ => by
    refine List.nodup_cons.mpr ⟨fun hq => ?_, Tiles.nodup e3⟩
    have := e3.mem.2 q hq
    have : hi s q = lo s q + q.w := rfl
    omega
theorem beyond_nodup (hf : Fits t L) {c : Code} (h : isLf t c = true) (s : Sd) : (beyond t c s).Nodup := by
  by_cases hb : beside c s = none
  · have he : beyond t c s = [] := by unfold beyond; rw [hb]
    rw [he]; exact List.nodup_nil
  · have hc := cover_of (X := 0) (Y := 0) hf h hb
    have : ((beyond t c s).map (sqr L 0 0)).Nodup := by
      rcases hc.2 with ⟨q, e, _⟩ | ht
      · rw [e]; exact List.nodup_cons.mpr ⟨fun z => (nomatch z), List.nodup_nil⟩
      · exact ht.nodup
    exact (List.pairwise_map.mp this).imp fun h e => h (by rw [e])
/-- those of a land beyond a side are those that touch there -/
theorem beyond_perm (hf : Fits t L) (hS : ∀ o ∈ S, isLf t o = true) (hn : S.Nodup) {c : Code} (h : isLf t c = true) (s : Sd) :
    ((beyond t c s).filter fun o => decide (o ∈ S)).Perm (S.filter fun o => decide (Touch s (sqr L 0 0 c) (sqr L 0 0 o))) := by
  refine perm_of ((beyond_nodup hf h s).sublist List.filter_sublist) (hn.sublist List.filter_sublist) fun o => ?_
  rw [List.mem_filter, List.mem_filter]
  constructor
  · rintro ⟨h1, h2⟩
    have h2 : o ∈ S := by simpa using h2
    exact ⟨h2, by simpa using (beyond_touch hf h (hS o h2)).mp h1⟩
  · rintro ⟨h1, h2⟩
    exact ⟨(beyond_touch hf h (hS o h1)).mpr (by simpa using h2), by simpa using h1⟩

def adj (κ : Sd → Sq → Int) (A B : Sq) : Int := (sides.map fun s => if Touch s A B then κ s A * ov s A B else 0).sum
theorem sum_ways (κ : Sd → Sq → Int) (g : Way → Int) (hg : ∀ s A p, g (way s A p) = κ s A * (p.2 - p.1)) (hf : Fits t L) (hS : ∀ o ∈ S, isLf t o = true) (hn : S.Nodup) :
    ((allWays t L S).map g).sum = (S.map fun c => (sides.map fun s => κ s (sqr L 0 0 c) * (sqr L 0 0 c).w).sum).sum - (S.map fun c => (S.map fun o => adj κ (sqr L 0 0 c) (sqr L 0 0 o)).sum).sum := by
  unfold allWays
  rw [sum_flatMap, ← sum_sub]
  refine sum_congr fun c hc => ?_
  have h := hS c hc
  unfold waysOf adj
  rw [sum_flatMap, sum_swap, ← sum_sub]
  refine sum_congr fun s _ => ?_
  have h1 : (((parts t L S c s).map (way s (sqr L 0 0 c))).map g).sum = κ s (sqr L 0 0 c) * sumLen (parts t L S c s) := by
    rw [List.map_map]
    unfold sumLen
    rw [← sum_mul]
    exact sum_congr fun p _ => hg s _ p
  rw [h1, (parts_ok (s := s) hf hS h).p4, Int.mul_sub]
  congr 1
  rw [sum_perm _ (beyond_perm hf hS hn h s), sum_filter, ← sum_mul]
  refine sum_congr fun o _ => ?_
  by_cases ht : Touch s (sqr L 0 0 c) (sqr L 0 0 o)
  · simp [ht]
  · simp [ht]

theorem ov_symm (s : Sd) (A B : Sq) : ov (opp s) B A = ov s A B := by
  cases s <;> simp only [ov, opp, hi, lo] <;> omega
theorem touch_iff (s : Sd) (A B : Sq) : Touch (opp s) B A ↔ Touch s A B :=
  ⟨fun h => by have := touch_symm h; rw [opp_opp] at this; exact this, touch_symm⟩
theorem cf_opp {s : Sd} {A B : Sq} (h : Touch s A B) : cf (opp s) B = - cf s A := by
  have := h.1
  cases s <;> simp only [co, opp, cf] at * <;> omega
theorem adj_term (κ : Sd → Sq → Int) (k : Int) (hk : ∀ s A B, Touch s A B → κ (opp s) B = k * κ s A) (s : Sd) (A B : Sq) :
    (if Touch (opp s) B A then κ (opp s) B * ov (opp s) B A else 0) = k * (if Touch s A B then κ s A * ov s A B else 0) := by
  by_cases h : Touch s A B
  · rw [if_pos h, if_pos ((touch_iff s A B).mpr h), hk s A B h, ov_symm, Int.mul_assoc]
  · rw [if_neg h, if_neg fun z => h ((touch_iff s A B).mp z), Int.mul_zero]
theorem adj_symm (κ : Sd → Sq → Int) (k : Int) (hk : ∀ s A B, Touch s A B → κ (opp s) B = k * κ s A) (A B : Sq) : adj κ B A = k * adj κ A B := by
  have h1 : (if Touch down B A then κ down B * ov down B A else 0) = k * (if Touch up A B then κ up A * ov up A B else 0) := adj_term κ k hk up A B
  have h2 : (if Touch left B A then κ left B * ov left B A else 0) = k * (if Touch right A B then κ right A * ov right A B else 0) := adj_term κ k hk right A B
  have h3 : (if Touch up B A then κ up B * ov up B A else 0) = k * (if Touch down A B then κ down A * ov down A B else 0) := adj_term κ k hk down A B
  have h4 : (if Touch right B A then κ right B * ov right B A else 0) = k * (if Touch left A B then κ left A * ov left A B else 0) := adj_term κ k hk left A B
  unfold adj sides
  simp only [List.map_cons, List.map_nil, List.sum_cons, List.sum_nil, Int.mul_add, Int.mul_zero, Int.add_zero]
  rw [h1, h2, h3, h4]
  ac_rfl
theorem adj_self (κ : Sd → Sq → Int) {A : Sq} (h : 0 < A.w) : adj κ A A = 0 := by
  have : ∀ s, ¬ Touch s A A := fun s ht => by
    have := ht.1
    cases s <;> simp only [co, opp] at this <;> omega
  unfold adj sides
  simp [this]
theorem sum_anti {α : Type} (F : α → α → Int) (h : ∀ a b, F b a = -1 * F a b) (l : List α) : (l.map fun a => (l.map fun b => F a b).sum).sum = 0 := by
  have e := sum_swap F l l
  have e2 : (l.map fun b => (l.map fun a => F a b).sum).sum = (-1) * (l.map fun a => (l.map fun b => F a b).sum).sum := by
    rw [← sum_mul]
    refine sum_congr fun a _ => ?_
    rw [← sum_mul]
    exact sum_congr fun b _ => h a b
  omega

def one : Sd → Sq → Int := fun _ _ => 1
/-- how long the common part of the sides is -/
abbrev com (A B : Sq) : Int := adj one A B
theorem com_symm (A B : Sq) : com B A = com A B := by
  have := adj_symm one 1 (fun _ _ _ _ => rfl) A B
  rw [Int.one_mul] at this; exact this
def areaOf (L : Nat) (S : List Code) : Int := (S.map fun c => (sqr L 0 0 c).w * (sqr L 0 0 c).w).sum
def rimOf (L : Nat) (S : List Code) : Int := (S.map fun c => 4 * (sqr L 0 0 c).w).sum - (S.map fun c => (S.map fun o => com (sqr L 0 0 c) (sqr L 0 0 o)).sum).sum
theorem sum_cross (hf : Fits t L) (hS : ∀ o ∈ S, isLf t o = true) (hn : S.Nodup) : ((allWays t L S).map fun w => cross w.1.1 w.2).sum = 2 * areaOf L S := by
  rw [sum_ways cf _ cross_way hf hS hn, sum_anti (fun c o => adj cf (sqr L 0 0 c) (sqr L 0 0 o)) (fun c o => adj_symm cf (-1) (fun s A B h => by rw [cf_opp h]; omega) _ _), Int.sub_zero]
  unfold areaOf
  rw [← sum_mul]
  refine sum_congr fun c _ => ?_
  unfold sides
  simp only [List.map_cons, List.map_nil, List.sum_cons, List.sum_nil, cf]
  grind
theorem sum_far (hf : Fits t L) (hS : ∀ o ∈ S, isLf t o = true) (hn : S.Nodup) : ((allWays t L S).map fun w => far w.1.1 w.2).sum = rimOf L S := by
  have hpos : ∀ w ∈ allWays t L S, ∃ s A p, w = way s A p ∧ p.1 < p.2 := fun w hw => by
    obtain ⟨c, hc, s, p, hp, rfl⟩ := mem_allWays.mp hw
    exact ⟨s, _, p, rfl, ((parts_ok hf hS (hS c hc)).p1 p hp).2.1⟩
  -- the signed length by the way's own direction
  let g : Way → Int := fun w => (w.2.1 - w.1.1.1) * dx w.1.2 + (w.2.2 - w.1.1.2) * dy w.1.2
  have hg : ∀ s A p, g (way s A p) = one s A * (p.2 - p.1) := fun s A p => by
    show _ = 1 * (p.2 - p.1)
    cases s <;> simp only [g, way, startOf, endOf, pt, dx, dy] <;> omega
  have e : ((allWays t L S).map fun w => far w.1.1 w.2).sum = ((allWays t L S).map g).sum := sum_congr fun w hw => by
    obtain ⟨s, A, p, rfl, hp⟩ := hpos w hw
    rw [hg, way_on]
    show far _ (on _ s (p.2 - p.1)) = 1 * (p.2 - p.1)
    rw [far_on _ _ (by omega)]; omega
  rw [e, sum_ways one g hg hf hS hn]
  unfold rimOf
  congr 1
  refine sum_congr fun c _ => ?_
  unfold sides one
  simp only [List.map_cons, List.map_nil, List.sum_cons, List.sum_nil]
  omega

/-! ### the ends of ways as a function of keys; what follows -/
def endAt (W : List Way) (k : Key) : Pt := match W.find? fun w => decide (w.1 = k) with
  | some w => w.2
  | none => k.1
def nx (W : List Way) (k : Key) : Key := (endAt W k, follow W (endAt W k) k.2)
theorem endAt_of {W : List Way} (hn : (W.map (·.1)).Nodup) {w : Way} (hw : w ∈ W) : endAt W w.1 = w.2 := by
  unfold endAt
  cases h : W.find? fun v => decide (v.1 = w.1) with
  | none =>
    have := List.find?_eq_none.mp h w hw
    simp at this
  | some v =>
    have h1 := List.mem_of_find?_eq_some h
    have h2 : v.1 = w.1 := by simpa using List.find?_some h
    have : ∀ (l : List Way), (l.map (·.1)).Nodup → v ∈ l → w ∈ l → v = w := by
      intro l
      induction l with
      | nil => intro _ h; cases h
      | cons a r ih =>
        intro hn hv hw
        rw [List.map_cons] at hn
        obtain ⟨n1, n2⟩ := List.nodup_cons.mp hn
        rcases List.mem_cons.mp hv with e1 | hv' <;> rcases List.mem_cons.mp hw with e2 | hw'
        · rw [e1, e2]
        · exact absurd (List.mem_map.mpr ⟨w, hw', by rw [← h2, e1]⟩) n1
        · exact absurd (List.mem_map.mpr ⟨v, hv', by rw [h2, e2]⟩) n1
        · exact ih n2 hv' hw'
    rw [this W hn h1 hw]
theorem nx_of {W : List Way} (hn : (W.map (·.1)).Nodup) {w : Way} (hw : w ∈ W) : nx W w.1 = nextKey W w := by
  unfold nx nextKey
  rw [endAt_of hn hw]

/-- the rings as lists of keys -/
def ringsOf (W : List Way) : List (List Key) := ringsGo (nx W) (W.length + 1) (W.map (·.1)) []
structure RingsOk (W : List Way) : Prop where
  nd : (W.map (·.1)).Nodup
  cl : ∀ k ∈ W.map (·.1), nx W k ∈ W.map (·.1)
  inj : ∀ a ∈ W.map (·.1), ∀ b ∈ W.map (·.1), nx W a = nx W b → a = b
  len : ∀ k ∈ W.map (·.1), ∃ m, 0 < m ∧ endAt W k = on k.1 k.2 m
theorem rings_ok (hf : Fits t L) (hS : ∀ o ∈ S, isLf t o = true) (hn : S.Nodup) : RingsOk (allWays t L S) := by
  have nd := keys_nodup hf hS hn
  refine ⟨nd, fun k hk => ?_, fun a ha b hb e => ?_, fun k hk => ?_⟩
  · obtain ⟨w, hw, rfl⟩ := List.mem_map.mp hk
    rw [nx_of nd hw]; exact next_key hf hS hw
  · obtain ⟨v, hv, rfl⟩ := List.mem_map.mp ha
    obtain ⟨w, hw, rfl⟩ := List.mem_map.mp hb
    rw [nx_of nd hv, nx_of nd hw] at e
    rw [next_inj hf hS hv hw e]
  · obtain ⟨w, hw, rfl⟩ := List.mem_map.mp hk
    rw [endAt_of nd hw]
    obtain ⟨c, hc, s, p, hp, rfl⟩ := mem_allWays.mp hw
    have := ((parts_ok hf hS (hS c hc)).p1 p hp).2.1
    exact ⟨p.2 - p.1, by omega, way_on s _ p⟩
theorem run_chn {W : List Way} (h : RingsOk W) {k0 : Key} {f : List Key} {k : Key} (r : Run (nx W) k0 f k) (hf : ∀ a ∈ f, a ∈ W.map (·.1)) : Chn (endAt W) k0.1 f k.1 := by
  induction r with
  | nil => rfl
  | @snoc f k r ih =>
    exact (ih fun a ha => hf a (List.mem_append_left _ ha)).snoc (h.len k (hf k (by simp)))
theorem rings_total {W : List Way} (h : RingsOk W) : (∀ r ∈ ringsOf W, r ≠ [] ∧ ∃ p, Chn (endAt W) p r p) ∧ ∀ g : Pt → Pt → Int, ((ringsOf W).map fun r => total g (endAt W) r).sum = (W.map fun w => g w.1.1 w.2).sum := by
  obtain ⟨h1, h2⟩ := rings_perm (nx := nx W) h.cl h.inj h.nd (n := W.length + 1) (by rw [List.length_map]; omega)
  refine ⟨fun r hr => ?_, fun g => ?_⟩
  · have c := h1 r hr
    obtain ⟨k0, hr0⟩ := c.run
    exact ⟨c.ne, k0.1, run_chn h hr0 c.sub⟩
  · have e : ((ringsOf W).map fun r => total g (endAt W) r).sum = ((ringsOf W).flatten.map fun k => g k.1 (endAt W k)).sum := by
      unfold total
      rw [← List.flatMap_id, sum_flatMap]
      rfl
    rw [e]
    unfold ringsOf
    rw [sum_perm _ h2, List.map_map]
    exact sum_congr fun w hw => by
      show g w.1.1 (endAt W w.1) = _
      rw [endAt_of h.nd hw]
end
end QS
namespace QS
open Qd Sd

/-! ### leaves, colours -/
def col : Tr → Code → Int
  | .leaf v, _ => v
  | .node _ _ _ _, [] => 0
  | .node a b c d, q :: k => col (pick a b c d q) k
def leaves : Tr → List (Code × Int)
  | .leaf v => [([], v)]
  | .node a b c d => (leaves a).map (fun x => (q0 :: x.1, x.2)) ++ ((leaves b).map (fun x => (q1 :: x.1, x.2)) ++ ((leaves c).map (fun x => (q2 :: x.1, x.2)) ++ (leaves d).map (fun x => (q3 :: x.1, x.2))))
def Tr.count : Tr → Nat
  | .leaf _ => 1
  | .node a b c d => a.count + b.count + c.count + d.count
theorem leaves_len : ∀ t : Tr, (leaves t).length = t.count
  | .leaf _ => rfl
  | .node a b c d => by
    simp only [leaves, List.length_append, List.length_map, leaves_len a, leaves_len b, leaves_len c, leaves_len d, Tr.count]; omega
theorem mem_leaves {t : Tr} : ∀ {x : Code × Int}, x ∈ leaves t ↔ isLf t x.1 = true ∧ col t x.1 = x.2 := by
  induction t with
  | leaf v =>
    rintro ⟨c, k⟩
    cases c with
    | nil => simp [leaves, isLf, col, eq_comm]
    | cons q c => simp [leaves, isLf]
  | node a b c d iha ihb ihc ihd =>
    rintro ⟨k, v⟩
    unfold leaves
    cases k with
    | nil => simp [isLf]
    | cons q k =>
      have key : ∀ (t' : Tr) (q' : Qd), (∀ {x : Code × Int}, x ∈ leaves t' ↔ isLf t' x.1 = true ∧ col t' x.1 = x.2) → ((q :: k, v) ∈ (leaves t').map (fun x => (q' :: x.1, x.2)) ↔ q = q' ∧ isLf t' k = true ∧ col t' k = v) := by
        intro t' q' ih
        rw [List.mem_map]
        constructor
        · rintro ⟨⟨k', v'⟩, h1, h2⟩
          simp only [Prod.mk.injEq, List.cons.injEq] at h2
          obtain ⟨⟨rfl, rfl⟩, rfl⟩ := h2
          exact ⟨rfl, ih.mp h1⟩
        · rintro ⟨rfl, h⟩
          exact ⟨(k, v), ih.mpr h, rfl⟩
      simp only [List.mem_append, key a q0 iha, key b q1 ihb, key c q2 ihc, key d q3 ihd, isLf, col]
      cases q <;> simp [pick]
theorem leaves_nodup : ∀ t : Tr, ((leaves t).map (·.1)).Nodup
  | .leaf _ => by simp [leaves]
  | .node a b c d => by
    have h := fun t' (ih : ((leaves t').map (·.1)).Nodup) (q : Qd) => (show (((leaves t').map (fun x => (q :: x.1, x.2))).map (fun x : Code × Int => x.1)).Nodup by
      rw [List.map_map]
      have e : ((fun x : Code × Int => x.1) ∘ fun x : Code × Int => (q :: x.1, x.2)) = fun x => q :: x.1 := rfl
      rw [e]
      have ih' := List.pairwise_map.mp ih
      exact List.pairwise_map.mpr (ih'.imp fun h e => h (List.cons.inj e).2))
    have hd : ∀ (t1 t2 : Tr) (q q' : Qd), q ≠ q' → ∀ a ∈ ((leaves t1).map (fun x => (q :: x.1, x.2))).map (fun x : Code × Int => x.1), ∀ b ∈ ((leaves t2).map (fun x => (q' :: x.1, x.2))).map (fun x : Code × Int => x.1), a ≠ b := by
      intro t1 t2 q q' hq a ha b hb e
      obtain ⟨x, hx, rfl⟩ := List.mem_map.mp ha
      obtain ⟨x', hx', rfl⟩ := List.mem_map.mp hx
      obtain ⟨y, hy, rfl⟩ := List.mem_map.mp hb
      obtain ⟨y', hy', rfl⟩ := List.mem_map.mp hy
      exact hq (List.cons.inj e).1
    unfold leaves
    simp only [List.map_append]
    refine List.nodup_append.mpr ⟨h a (leaves_nodup a) q0, List.nodup_append.mpr ⟨h b (leaves_nodup b) q1, List.nodup_append.mpr ⟨h c (leaves_nodup c) q2, h d (leaves_nodup d) q3, hd _ _ _ _ (by decide)⟩, ?_⟩, ?_⟩
    · intro x hx y hy
      rcases List.mem_append.mp hy with hy | hy
      · exact hd _ _ _ _ (by decide) x hx y hy
      · exact hd _ _ _ _ (by decide) x hx y hy
    · intro x hx y hy
      rcases List.mem_append.mp hy with hy | hy
      · exact hd _ _ _ _ (by decide) x hx y hy
      · rcases List.mem_append.mp hy with hy | hy
        · exact hd _ _ _ _ (by decide) x hx y hy
        · exact hd _ _ _ _ (by decide) x hx y hy

/-! ### the land of a leaf -/
def about (t : Tr) (c : Code) : List Code := sides.flatMap (beyond t c)
theorem mem_about {t : Tr} {c o : Code} : o ∈ about t c ↔ ∃ s, o ∈ beyond t c s := by
  unfold about
  rw [List.mem_flatMap]
  constructor
  · rintro ⟨s, _, h⟩; exact ⟨s, h⟩
  · rintro ⟨s, h⟩; exact ⟨s, by cases s <;> simp [sides], h⟩
inductive Reach (t : Tr) (c0 : Code) : Code → Prop
  | refl : Reach t c0 c0
  | step {c o : Code} : Reach t c0 c → o ∈ about t c → col t o = col t c → Reach t c0 o
theorem Reach.lf {t : Tr} {c0 c : Code} (h0 : isLf t c0 = true) (h : Reach t c0 c) : isLf t c = true ∧ col t c = col t c0 := by
  induction h with
  | refl => exact ⟨h0, rfl⟩
  | step _ h1 h2 ih =>
    obtain ⟨s, hs⟩ := mem_about.mp h1
    exact ⟨beyond_lf hs, h2.trans ih.2⟩

abbrev Mem := Code × Option Code
def bstep (t : Tr) (here : Code) (ms : List Mem) (o : Code) : List Mem := if o ∉ ms.map (·.1) ∧ col t o = col t here then ms ++ [(o, some here)] else ms
def bgo (t : Tr) : Nat → Nat → List Mem → List Mem
  | 0, _, ms => ms
  | n + 1, i, ms => match ms[i]? with
    | none => ms
    | some m => bgo t n (i + 1) ((about t m.1).foldl (bstep t m.1) ms)
def members (t : Tr) (c : Code) : List Mem := bgo t ((leaves t).length + 1) 0 [(c, none)]

structure BInv (t : Tr) (c0 : Code) (ms : List Mem) : Prop where
  nd : (ms.map (·.1)).Nodup
  re : ∀ m ∈ ms, Reach t c0 m.1
  st : c0 ∈ ms.map (·.1)
theorem bstep_inv {t : Tr} {c0 here : Code} (hh : Reach t c0 here) {ms : List Mem} (I : BInv t c0 ms) {o : Code} (ho : o ∈ about t here) :
    BInv t c0 (bstep t here ms o) ∧ (∃ ext, bstep t here ms o = ms ++ ext) ∧ (col t o = col t here → o ∈ (bstep t here ms o).map (·.1)) := by
  unfold bstep
  by_cases h : o ∉ ms.map (·.1) ∧ col t o = col t here
  · rw [if_pos h]
    refine ⟨⟨?_, ?_, ?_⟩, ⟨_, rfl⟩, fun _ => by simp⟩
    · rw [List.map_append]
      refine List.nodup_append.mpr ⟨I.nd, List.pairwise_singleton _ _, fun a ha b hb e => ?_⟩
      simp at hb
      subst hb; subst e
      exact h.1 ha
    · intro m hm
      rcases List.mem_append.mp hm with hm | hm
      · exact I.re m hm
      · simp at hm; subst hm; exact hh.step ho h.2
    · rw [List.map_append]; exact List.mem_append_left _ I.st
  · rw [if_neg h]
    refine ⟨I, ⟨[], by simp⟩, fun e => ?_⟩
    exact Classical.byContradiction fun z => h ⟨z, e⟩
theorem bfold_inv {t : Tr} {c0 here : Code} (hh : Reach t c0 here) : ∀ (os : List Code) {ms : List Mem}, BInv t c0 ms → (∀ o ∈ os, o ∈ about t here) →
    BInv t c0 (os.foldl (bstep t here) ms) ∧ (∃ ext, os.foldl (bstep t here) ms = ms ++ ext) ∧ ∀ o ∈ os, col t o = col t here → o ∈ (os.foldl (bstep t here) ms).map (·.1)
  | [], ms, I, _ => ⟨I, ⟨[], by simp⟩, fun _ h => (nomatch h)⟩
  | o :: os, ms, I, h => by
    obtain ⟨i1, ⟨e1, h1⟩, i3⟩ := bstep_inv hh I (h o List.mem_cons_self)
    obtain ⟨j1, ⟨e2, h2⟩, j3⟩ := bfold_inv hh os i1 fun o' ho' => h o' (List.mem_cons_of_mem _ ho')
    rw [List.foldl_cons]
    refine ⟨j1, ⟨e1 ++ e2, by rw [h2, h1, List.append_assoc]⟩, fun o' ho' hc => ?_⟩
    rcases List.mem_cons.mp ho' with rfl | ho'
    · rw [h2, List.map_append]; exact List.mem_append_left _ (i3 hc)
    · exact j3 o' ho' hc
theorem BInv.le {t : Tr} {c0 : Code} (h0 : isLf t c0 = true) {ms : List Mem} (I : BInv t c0 ms) : ms.length ≤ (leaves t).length := by
  have := nodup_len I.nd (m := (leaves t).map (·.1)) fun a ha => by
    obtain ⟨m, hm, rfl⟩ := List.mem_map.mp ha
    exact List.mem_map.mpr ⟨(m.1, col t m.1), mem_leaves.mpr ⟨((I.re m hm).lf h0).1, rfl⟩, rfl⟩
  simpa using this
/-- what was gone through is closed -/
def ClUp (t : Tr) (i : Nat) (ms : List Mem) : Prop := ∀ j m, j < i → ms[j]? = some m → ∀ o ∈ about t m.1, col t o = col t m.1 → o ∈ ms.map (·.1)
theorem bgo_ok {t : Tr} {c0 : Code} (h0 : isLf t c0 = true) : ∀ (n i : Nat) (ms : List Mem), BInv t c0 ms → ClUp t i ms → i ≤ ms.length → (leaves t).length < n + i →
    BInv t c0 (bgo t n i ms) ∧ ClUp t (bgo t n i ms).length (bgo t n i ms)
  | 0, i, ms, I, hc, hi, hn => by
    have := I.le h0
    omega
  | n + 1, i, ms, I, hc, hi, hn => by
    unfold bgo
    cases hm : ms[i]? with
    | none =>
      have : ms.length ≤ i := List.getElem?_eq_none_iff.mp hm
      have e : ms.length = i := by omega
      refine ⟨I, ?_⟩
      show ClUp t ms.length ms
      rw [e]; exact hc
    | some m =>
      have hmm := List.mem_of_getElem? hm
      have hlt := (List.getElem?_eq_some_iff.mp hm).1
      obtain ⟨i1, ⟨ext, h1⟩, i3⟩ := bfold_inv (I.re m hmm) (about t m.1) I fun _ h => h
      refine bgo_ok h0 n (i + 1) _ i1 (fun j m' hj hm' o ho hco => ?_) (by rw [h1, List.length_append]; omega) (by omega)
      by_cases hji : j = i
      · subst hji
        rw [h1, List.getElem?_append_left hlt, hm] at hm'
        cases hm'
        exact i3 o ho hco
      · have hj' : j < i := by omega
        rw [h1, List.getElem?_append_left (by omega)] at hm'
        rw [h1, List.map_append]
        exact List.mem_append_left _ (hc j m' hj' hm' o ho hco)
theorem members_ok {t : Tr} {c0 : Code} (h0 : isLf t c0 = true) : BInv t c0 (members t c0) ∧ ∀ o, o ∈ (members t c0).map (·.1) ↔ Reach t c0 o := by
  have I : BInv t c0 [(c0, none)] := ⟨by simp, fun m hm => by simp at hm; subst hm; exact .refl, by simp⟩
  obtain ⟨h1, h2⟩ := bgo_ok h0 ((leaves t).length + 1) 0 [(c0, none)] I (fun j _ h => absurd h (Nat.not_lt_zero _)) (Nat.zero_le _) (by omega)
  refine ⟨h1, fun o => ⟨fun ho => ?_, fun ho => ?_⟩⟩
  · obtain ⟨m, hm, rfl⟩ := List.mem_map.mp ho
    exact h1.re m hm
  · induction ho with
    | refl => exact h1.st
    | step _ h3 h4 ih =>
      obtain ⟨m, hm, e⟩ := List.mem_map.mp ih
      obtain ⟨j, hj⟩ := List.mem_iff_getElem?.mp hm
      subst e
      exact h2 j m (List.getElem?_eq_some_iff.mp hj).1 hj _ h3 h4

/-! ### touching, told by numbers -/
def across (A B : Sq) : Int := min (A.x + A.w) (B.x + B.w) - max A.x B.x
def downw (A B : Sq) : Int := min (A.y + A.w) (B.y + B.w) - max A.y B.y
def met (A B : Sq) : Int := if across A B = 0 ∨ downw A B = 0 then max (max (across A B) (downw A B)) 0 else 0
def cmn (A B : Sq) : Int := if across A B = 0 ∧ downw A B > 0 then downw A B else if downw A B = 0 ∧ across A B > 0 then across A B else 0
theorem cmn_met (A B : Sq) : cmn A B = met A B := by
  unfold cmn met
  generalize across A B = a
  generalize downw A B = b
  omega
theorem com_term {s : Sd} {A B : Sq} (ha : 0 < A.w) (hb : 0 < B.w) : (if Touch s A B then one s A * ov s A B else 0) = if co s A = co (opp s) B ∧ 0 < ov s A B then ov s A B else 0 := by
  have e1 : hi s A = lo s A + A.w := rfl
  have e2 : hi s B = lo s B + B.w := rfl
  have : Touch s A B ↔ co s A = co (opp s) B ∧ 0 < ov s A B := by
    unfold Touch ov
    constructor
    · rintro ⟨h1, h2, h3⟩; exact ⟨h1, by omega⟩
    · rintro ⟨h1, h2⟩; exact ⟨h1, by omega, by omega⟩
  by_cases h : Touch s A B
  · rw [if_pos h, if_pos (this.mp h)]; exact Int.one_mul _
  · rw [if_neg h, if_neg fun z => h (this.mpr z)]
theorem com_eq {A B : Sq} (ha : 0 < A.w) (hb : 0 < B.w) : com A B = (if A.y = B.y + B.w ∧ 0 < across A B then across A B else 0) + ((if A.x + A.w = B.x ∧ 0 < downw A B then downw A B else 0) +
    ((if A.y + A.w = B.y ∧ 0 < across A B then across A B else 0) + ((if A.x = B.x + B.w ∧ 0 < downw A B then downw A B else 0) + 0))) := by
  have h1 := com_term (s := up) ha hb
  have h2 := com_term (s := right) ha hb
  have h3 := com_term (s := down) ha hb
  have h4 := com_term (s := left) ha hb
  unfold com adj sides
  simp only [List.map_cons, List.map_nil, List.sum_cons, List.sum_nil]
  rw [h1, h2, h3, h4]
  rfl
theorem met_com {A B : Sq} (ha : 0 < A.w) (hb : 0 < B.w) : met A B = com A B := by
  rw [com_eq ha hb]
  have d1 : downw A B = 0 ↔ A.y = B.y + B.w ∨ A.y + A.w = B.y := by unfold downw; omega
  have d2 : across A B = 0 ↔ A.x + A.w = B.x ∨ A.x = B.x + B.w := by unfold across; omega
  have d3 : ¬ (A.y = B.y + B.w ∧ A.y + A.w = B.y) := by omega
  have d4 : ¬ (A.x + A.w = B.x ∧ A.x = B.x + B.w) := by omega
  unfold met
  have k1 : (if A.y = B.y + B.w ∧ 0 < across A B then across A B else 0) + (if A.y + A.w = B.y ∧ 0 < across A B then across A B else 0) = if downw A B = 0 then max (across A B) 0 else 0 := by
    generalize across A B = a at *
    by_cases h1 : A.y = B.y + B.w
    · rw [if_pos (d1.mpr (.inl h1)), if_neg (show ¬ (A.y + A.w = B.y ∧ 0 < a) from fun z => d3 ⟨h1, z.1⟩)]
      by_cases h3 : 0 < a
      · rw [if_pos ⟨h1, h3⟩]; omega
      · rw [if_neg fun z => h3 z.2]; omega
    · rw [if_neg (fun z => h1 z.1)]
      by_cases h2 : A.y + A.w = B.y
      · rw [if_pos (d1.mpr (.inr h2))]
        by_cases h3 : 0 < a
        · rw [if_pos ⟨h2, h3⟩]; omega
        · rw [if_neg fun z => h3 z.2]; omega
      · rw [if_neg (fun z => h2 z.1), if_neg (fun z => (d1.mp z).elim h1 h2)]; rfl
  have k2 : (if A.x + A.w = B.x ∧ 0 < downw A B then downw A B else 0) + (if A.x = B.x + B.w ∧ 0 < downw A B then downw A B else 0) = if across A B = 0 then max (downw A B) 0 else 0 := by
    generalize downw A B = a at *
    by_cases h1 : A.x + A.w = B.x
    · rw [if_pos (d2.mpr (.inl h1)), if_neg (show ¬ (A.x = B.x + B.w ∧ 0 < a) from fun z => d4 ⟨h1, z.1⟩)]
      by_cases h3 : 0 < a
      · rw [if_pos ⟨h1, h3⟩]; omega
      · rw [if_neg fun z => h3 z.2]; omega
    · rw [if_neg (fun z => h1 z.1)]
      by_cases h2 : A.x = B.x + B.w
      · rw [if_pos (d2.mpr (.inr h2))]
        by_cases h3 : 0 < a
        · rw [if_pos ⟨h2, h3⟩]; omega
        · rw [if_neg fun z => h3 z.2]; omega
      · rw [if_neg (fun z => h2 z.1), if_neg (fun z => (d2.mp z).elim h1 h2)]; rfl
  generalize (if A.y = B.y + B.w ∧ 0 < across A B then across A B else 0) = x1 at *
  generalize (if A.y + A.w = B.y ∧ 0 < across A B then across A B else 0) = x2 at *
  generalize (if A.x + A.w = B.x ∧ 0 < downw A B then downw A B else 0) = x3 at *
  generalize (if A.x = B.x + B.w ∧ 0 < downw A B then downw A B else 0) = x4 at *
  clear d1 d2 d3 d4
  generalize across A B = a at *
  generalize downw A B = b at *
  omega
theorem com_pos {A B : Sq} (ha : 0 < A.w) (hb : 0 < B.w) : 0 < com A B ↔ ∃ s, Touch s A B := by
  constructor
  · intro h
    refine Classical.byContradiction fun z => ?_
    have : ∀ s, ¬ Touch s A B := fun s hs => z ⟨s, hs⟩
    unfold com adj sides at h
    simp [this] at h
  · rintro ⟨s, hs⟩
    have nn : ∀ s, 0 ≤ (if Touch s A B then one s A * ov s A B else 0) ∧ (Touch s A B → 0 < (if Touch s A B then one s A * ov s A B else 0)) := fun s => by
      by_cases h : Touch s A B
      · rw [if_pos h]
        obtain ⟨_, h1, h2⟩ := h
        have e1 : hi s A = lo s A + A.w := rfl
        have e2 : hi s B = lo s B + B.w := rfl
        have : 0 < ov s A B := by unfold ov; omega
        have e3 : one s A * ov s A B = ov s A B := Int.one_mul _
        rw [e3]
        exact ⟨by omega, fun _ => this⟩
      · rw [if_neg h]; exact ⟨Int.le_refl _, fun z => absurd z h⟩
    have h1 := nn up
    have h2 := nn right
    have h3 := nn down
    have h4 := nn left
    unfold com adj sides
    simp only [List.map_cons, List.map_nil, List.sum_cons, List.sum_nil]
    generalize (if Touch up A B then one up A * ov up A B else 0) = x1 at *
    generalize (if Touch right A B then one right A * ov right A B else 0) = x2 at *
    generalize (if Touch down A B then one down A * ov down A B else 0) = x3 at *
    generalize (if Touch left A B then one left A * ov left A B else 0) = x4 at *
    cases s
    · have := h1.2 hs; omega
    · have := h2.2 hs; omega
    · have := h3.2 hs; omega
    · have := h4.2 hs; omega

section
variable {t : Tr} {L : Nat}
/-- touching of leaves: by beyond, by met -/
theorem about_met (hf : Fits t L) {c o : Code} (h : isLf t c = true) (ho : isLf t o = true) : o ∈ about t c ↔ 0 < met (sqr L 0 0 c) (sqr L 0 0 o) := by
  have w1 := sqr_pos (X := 0) (Y := 0) hf h
  have w2 := sqr_pos (X := 0) (Y := 0) hf ho
  rw [met_com w1 w2, com_pos w1 w2, mem_about]
  exact ⟨fun ⟨s, hs⟩ => ⟨s, (beyond_touch hf h ho).mp hs⟩, fun ⟨s, hs⟩ => ⟨s, (beyond_touch hf h ho).mpr hs⟩⟩
theorem sqr_inj (hf : Fits t L) {c o : Code} (h : isLf t c = true) (ho : isLf t o = true) (e : sqr L 0 0 c = sqr L 0 0 o) : c = o := by
  have w1 := sqr_pos (X := 0) (Y := 0) hf h
  refine leaf_uniq (X := 0) (Y := 0) (px := (sqr L 0 0 c).x) (py := (sqr L 0 0 c).y) hf h ho ?_ ?_
  · exact ⟨Int.le_refl _, by omega, Int.le_refl _, by omega⟩
  · rw [← e]; exact ⟨Int.le_refl _, by omega, Int.le_refl _, by omega⟩
end

/-! ### the law's land -/
def lgo : Nat → Nat → List Sq → List Sq → List Sq
  | 0, _, land, _ => land
  | n + 1, i, land, rest => match land[i]? with
    | none => land
    | some A => lgo n (i + 1) (land ++ rest.filter fun B => decide (met A B > 0)) (rest.filter fun B => !decide (met A B > 0))
def lawLand (told : List (Code × Int)) (L : Nat) (start : Code × Int) : List Sq :=
  let squares := (told.filter fun x => decide (x.2 = start.2)).map fun x => sqr L 0 0 x.1
  lgo (told.length + 1) 0 [sqr L 0 0 start.1] (squares.filter fun B => decide (B ≠ sqr L 0 0 start.1))
/-- the same over codes -/
def cgo (L : Nat) : Nat → Nat → List Code → List Code → List Code
  | 0, _, land, _ => land
  | n + 1, i, land, rest => match land[i]? with
    | none => land
    | some c => cgo L n (i + 1) (land ++ rest.filter fun o => decide (met (sqr L 0 0 c) (sqr L 0 0 o) > 0)) (rest.filter fun o => !decide (met (sqr L 0 0 c) (sqr L 0 0 o) > 0))
theorem lgo_cgo (L : Nat) : ∀ (n i : Nat) (land rest : List Code), lgo n i (land.map (sqr L 0 0)) (rest.map (sqr L 0 0)) = (cgo L n i land rest).map (sqr L 0 0)
  | 0, _, _, _ => rfl
  | n + 1, i, land, rest => by
    unfold lgo cgo
    rw [List.getElem?_map]
    cases h : land[i]? with
    | none => rfl
    | some c =>
      simp only [Option.map_some]
      rw [List.filter_map, List.filter_map, ← List.map_append, lgo_cgo L n (i + 1)]
      rfl
theorem filter_len {α : Type} (p : α → Bool) : ∀ l : List α, (l.filter p).length + (l.filter fun x => !p x).length = l.length
  | [] => rfl
  | a :: r => by
    have ih := filter_len p r
    by_cases z : p a = true
    · rw [List.filter_cons_of_pos z, List.filter_cons_of_neg (by simp [z])]; simp only [List.length_cons]; omega
    · rw [List.filter_cons_of_neg z, List.filter_cons_of_pos (by simpa using z)]; simp only [List.length_cons]; omega
structure CInv (t : Tr) (L : Nat) (c0 : Code) (i : Nat) (land rest : List Code) : Prop where
  nd : (land ++ rest).Nodup
  al : ∀ o, o ∈ land ++ rest ↔ isLf t o = true ∧ col t o = col t c0
  re : ∀ o ∈ land, Reach t c0 o
  st : c0 ∈ land
  cl : ∀ j c, j < i → land[j]? = some c → ∀ o ∈ rest, ¬ met (sqr L 0 0 c) (sqr L 0 0 o) > 0
  le : i ≤ land.length
theorem part_nodup {α : Type} [DecidableEq α] {l r : List α} (p : α → Bool) (h : (l ++ r).Nodup) : ((l ++ r.filter p) ++ r.filter fun x => !p x).Nodup := by
  rw [List.append_assoc]
  obtain ⟨h1, h2, h3⟩ := List.nodup_append.mp h
  refine List.nodup_append.mpr ⟨h1, List.nodup_append.mpr ⟨h2.sublist List.filter_sublist, h2.sublist List.filter_sublist, ?_⟩, ?_⟩
  · intro a ha b hb e
    subst e
    have := (List.mem_filter.mp ha).2
    have h4 := (List.mem_filter.mp hb).2
    simp [this] at h4
  · intro a ha b hb
    refine h3 a ha b ?_
    rcases List.mem_append.mp hb with hb | hb
    · exact (List.mem_filter.mp hb).1
    · exact (List.mem_filter.mp hb).1
theorem cgo_ok {t : Tr} {L : Nat} {c0 : Code} (hf : Fits t L) (h0 : isLf t c0 = true) : ∀ (n i : Nat) (land rest : List Code), CInv t L c0 i land rest → land.length + rest.length < n + i →
    (cgo L n i land rest).Nodup ∧ ∀ o, o ∈ cgo L n i land rest ↔ Reach t c0 o
  | 0, i, land, rest, I, hn => by
    have := I.le
    omega
  | n + 1, i, land, rest, I, hn => by
    unfold cgo
    cases h : land[i]? with
    | none =>
      have hl : land.length ≤ i := List.getElem?_eq_none_iff.mp h
      refine ⟨(List.nodup_append.mp I.nd).1, fun o => ⟨I.re o, fun hr => ?_⟩⟩
      show o ∈ land
      induction hr with
      | refl => exact I.st
      | @step c o hc h1 h2 ih =>
        obtain ⟨j, hj⟩ := List.mem_iff_getElem?.mp ih
        have hjl := (List.getElem?_eq_some_iff.mp hj).1
        have lc := (hc.lf h0).1
        have lo := ((hc.step h1 h2).lf h0)
        rcases List.mem_append.mp ((I.al o).mpr lo) with h3 | h3
        · exact h3
        · exact absurd ((about_met hf lc lo.1).mp h1) (I.cl j c (by omega) hj o h3)
    | some c =>
      have hc := List.mem_of_getElem? h
      have hlt := (List.getElem?_eq_some_iff.mp h).1
      have rc := I.re c hc
      have lc := rc.lf h0
      refine cgo_ok hf h0 n (i + 1) _ _ ⟨part_nodup _ I.nd, fun o => ?_, fun o ho => ?_, List.mem_append_left _ I.st, fun j c' hj hc' o ho => ?_, ?_⟩ ?_
      · rw [← I.al o]
        simp only [List.mem_append, List.mem_filter]
        by_cases z : decide (met (sqr L 0 0 c) (sqr L 0 0 o) > 0) = true
        · simp [z]
        · simp [z]
      · rcases List.mem_append.mp ho with ho | ho
        · exact I.re o ho
        · obtain ⟨h1, h2⟩ := List.mem_filter.mp ho
          have lo := (I.al o).mp (List.mem_append_right _ h1)
          exact rc.step ((about_met hf lc.1 lo.1).mpr (by simpa using h2)) (lo.2.trans lc.2.symm)
      · obtain ⟨h1, h2⟩ := List.mem_filter.mp ho
        by_cases hji : j = i
        · subst hji
          rw [List.getElem?_append_left hlt, h] at hc'
          cases hc'
          simpa using h2
        · rw [List.getElem?_append_left (by omega)] at hc'
          exact I.cl j c' (by omega) hc' o h1
      · rw [List.length_append]; omega
      · have e := filter_len (fun o => decide (met (sqr L 0 0 c) (sqr L 0 0 o) > 0)) rest
        rw [List.length_append]; omega
/-- the law's land is the squares of the leaves that are reached -/
theorem lawLand_ok {t : Tr} {L : Nat} {c0 : Code} (hf : Fits t L) (h0 : isLf t c0 = true) :
    ∃ Sc : List Code, lawLand (leaves t) L (c0, col t c0) = Sc.map (sqr L 0 0) ∧ Sc.Nodup ∧ ∀ o, o ∈ Sc ↔ Reach t c0 o := by
  let cs := (((leaves t).filter fun x => decide (x.2 = col t c0)).map (·.1))
  have hcs : ∀ o, o ∈ cs ↔ isLf t o = true ∧ col t o = col t c0 := fun o => by
    simp only [cs, List.mem_map, List.mem_filter]
    constructor
    · rintro ⟨x, ⟨h1, h2⟩, rfl⟩
      have := mem_leaves.mp h1
      exact ⟨this.1, this.2.trans (by simpa using h2)⟩
    · rintro ⟨h1, h2⟩
      exact ⟨(o, col t o), ⟨mem_leaves.mpr ⟨h1, rfl⟩, by simpa using h2⟩, rfl⟩
  have hnd : cs.Nodup := (leaves_nodup t).sublist (List.filter_sublist.map _)
  let rest := cs.filter fun o => decide (o ≠ c0)
  have e : lawLand (leaves t) L (c0, col t c0) = lgo ((leaves t).length + 1) 0 ([c0].map (sqr L 0 0)) (rest.map (sqr L 0 0)) := by
    unfold lawLand
    have e1 : (((leaves t).filter fun x => decide (x.2 = col t c0)).map fun x => sqr L 0 0 x.1) = cs.map (sqr L 0 0) := by
      simp only [cs, List.map_map]; rfl
    simp only [List.map_cons, List.map_nil]
    rw [e1, List.filter_map]
    congr 2
    refine List.filter_congr fun o ho => ?_
    have := (hcs o).mp ho
    simp only [Function.comp]
    by_cases z : o = c0
    · subst z; simp
    · have : sqr L 0 0 o ≠ sqr L 0 0 c0 := fun q => z (sqr_inj hf this.1 h0 q)
      simp [z, this]
  rw [e, lgo_cgo]
  refine ⟨_, rfl, ?_⟩
  have hr : rest.length + 1 ≤ (leaves t).length := by
    have h1 : ([c0] ++ rest).Nodup := by
      refine List.nodup_append.mpr ⟨List.pairwise_singleton _ _, hnd.sublist List.filter_sublist, fun a ha b hb q => ?_⟩
      simp at ha; subst ha; subst q
      have := (List.mem_filter.mp hb).2
      simp at this
    have := nodup_len h1 (m := cs) fun a ha => by
      rcases List.mem_append.mp ha with ha | ha
      · simp at ha; subst ha; exact (hcs a).mpr ⟨h0, rfl⟩
      · exact (List.mem_filter.mp ha).1
    have h2 : cs.length ≤ (leaves t).length := by
      simp only [cs, List.length_map]; exact List.length_filter_le _ _
    simp at this
    omega
  refine cgo_ok hf h0 _ 0 [c0] rest ⟨?_, fun o => ?_, fun o ho => ?_, by simp, fun j _ h => absurd h (Nat.not_lt_zero _), Nat.zero_le _⟩ (by simp; omega)
  · refine List.nodup_append.mpr ⟨List.pairwise_singleton _ _, hnd.sublist List.filter_sublist, fun a ha b hb q => ?_⟩
    simp at ha; subst ha; subst q
    have := (List.mem_filter.mp hb).2
    simp at this
  · rw [← hcs o]
    simp only [rest, List.mem_append, List.mem_filter, List.mem_singleton]
    by_cases z : o = c0
    · subst z; simp; exact (hcs o).mpr ⟨h0, rfl⟩
    · simp [z]
  · simp at ho; subst ho; exact .refl

/-! ### rims -/
/-- the program's, over the land's codes in any order -/
def rimP (t : Tr) (L : Nat) (S : List Code) : Int := (S.map fun c => 4 * (sqr L 0 0 c).w - (((about t c).filter fun o => decide (o ∈ S)).map fun o => cmn (sqr L 0 0 c) (sqr L 0 0 o)).sum).sum
theorem rimP_eq {t : Tr} {L : Nat} {S : List Code} (hf : Fits t L) (hS : ∀ o ∈ S, isLf t o = true) (hn : S.Nodup) : rimP t L S = rimOf L S := by
  unfold rimP rimOf
  rw [← sum_sub]
  refine sum_congr fun c hc => ?_
  congr 1
  have h := hS c hc
  unfold about com adj
  rw [List.filter_flatMap, sum_flatMap, sum_swap]
  refine sum_congr fun s _ => ?_
  rw [sum_perm _ (beyond_perm hf hS hn h s), sum_filter]
  refine sum_congr fun o ho => ?_
  by_cases ht : Touch s (sqr L 0 0 c) (sqr L 0 0 o)
  · have w1 := sqr_pos (X := 0) (Y := 0) hf h
    have w2 := sqr_pos (X := 0) (Y := 0) hf (hS o ho)
    simp only [ht, decide_true, if_true]
    rw [cmn_met, met_com w1 w2]
    -- no other side touches
    have hov : 0 < ov s (sqr L 0 0 c) (sqr L 0 0 o) := by
      obtain ⟨_, h1, h2⟩ := ht
      have e1 : hi s (sqr L 0 0 c) = lo s (sqr L 0 0 c) + (sqr L 0 0 c).w := rfl
      have e2 : hi s (sqr L 0 0 o) = lo s (sqr L 0 0 o) + (sqr L 0 0 o).w := rfl
      unfold ov; omega
    rw [com_eq w1 w2]
    have d1 : (sqr L 0 0 c).y = (sqr L 0 0 o).y + (sqr L 0 0 o).w ∨ (sqr L 0 0 c).y + (sqr L 0 0 c).w = (sqr L 0 0 o).y → downw (sqr L 0 0 c) (sqr L 0 0 o) = 0 := by unfold downw; omega
    have d2 : (sqr L 0 0 c).x + (sqr L 0 0 c).w = (sqr L 0 0 o).x ∨ (sqr L 0 0 c).x = (sqr L 0 0 o).x + (sqr L 0 0 o).w → across (sqr L 0 0 c) (sqr L 0 0 o) = 0 := by unfold across; omega
    have hco := ht.1
    have e3 : one s (sqr L 0 0 c) * ov s (sqr L 0 0 c) (sqr L 0 0 o) = ov s (sqr L 0 0 c) (sqr L 0 0 o) := Int.one_mul _
    rw [e3]
    cases s
    · have hc' : (sqr L 0 0 c).y = (sqr L 0 0 o).y + (sqr L 0 0 o).w := hco
      have e : ov up (sqr L 0 0 c) (sqr L 0 0 o) = across (sqr L 0 0 c) (sqr L 0 0 o) := rfl
      rw [e] at hov ⊢
      have z := d1 (.inl hc')
      rw [z]
      rw [if_pos ⟨hc', hov⟩, if_neg (fun q => by omega), if_neg (fun q => by omega), if_neg (fun q => by omega)]
      omega
    · have hc' : (sqr L 0 0 c).x + (sqr L 0 0 c).w = (sqr L 0 0 o).x := hco
      have e : ov right (sqr L 0 0 c) (sqr L 0 0 o) = downw (sqr L 0 0 c) (sqr L 0 0 o) := rfl
      rw [e] at hov ⊢
      have z := d2 (.inl hc')
      rw [z]
      rw [if_neg (fun q => by omega), if_pos ⟨hc', hov⟩, if_neg (fun q => by omega), if_neg (fun q => by omega)]
      omega
    · have hc' : (sqr L 0 0 c).y + (sqr L 0 0 c).w = (sqr L 0 0 o).y := hco
      have e : ov down (sqr L 0 0 c) (sqr L 0 0 o) = across (sqr L 0 0 c) (sqr L 0 0 o) := rfl
      rw [e] at hov ⊢
      have z := d1 (.inr hc')
      rw [z]
      rw [if_neg (fun q => by omega), if_neg (fun q => by omega), if_pos ⟨hc', hov⟩, if_neg (fun q => by omega)]
      omega
    · have hc' : (sqr L 0 0 c).x = (sqr L 0 0 o).x + (sqr L 0 0 o).w := hco
      have e : ov left (sqr L 0 0 c) (sqr L 0 0 o) = downw (sqr L 0 0 c) (sqr L 0 0 o) := rfl
      rw [e] at hov ⊢
      have z := d2 (.inr hc')
      rw [z]
      rw [if_neg (fun q => by omega), if_neg (fun q => by omega), if_neg (fun q => by omega), if_pos ⟨hc', hov⟩]
      omega
  · simp [ht]
/-- the law's: each square with those ahead of it -/
def lrim : List Sq → List Sq → Int
  | _, [] => 0
  | pre, A :: r => 4 * A.w - (pre.map fun B => 2 * met A B).sum + lrim (pre ++ [A]) r
theorem lrim_eq : ∀ (pre r : List Sq), (∀ A ∈ pre ++ r, 0 < A.w) → lrim pre r = (r.map fun A => 4 * A.w).sum - 2 * (r.map fun A => (pre.map fun B => com A B).sum).sum - (r.map fun A => (r.map fun B => com A B).sum).sum
  | pre, [], _ => by simp [lrim]
  | pre, A :: r, h => by
    have hA : 0 < A.w := h A (by simp)
    have ih := lrim_eq (pre ++ [A]) r (by simpa using h)
    unfold lrim
    rw [ih]
    have e1 : (pre.map fun B => 2 * met A B).sum = 2 * (pre.map fun B => com A B).sum := by
      rw [← sum_mul]
      exact sum_congr fun B hB => by rw [met_com hA (h B (by simp [hB]))]
    rw [e1]
    have e2 : (r.map fun A' => ((pre ++ [A]).map fun B => com A' B).sum).sum = (r.map fun A' => (pre.map fun B => com A' B).sum).sum + (r.map fun A' => com A' A).sum := by
      rw [← sum_add]
      refine sum_congr fun A' _ => ?_
      simp
    have e3 : ((A :: r).map fun A' => ((A :: r).map fun B => com A' B).sum).sum = com A A + (r.map fun B => com A B).sum + ((r.map fun A' => com A' A).sum + (r.map fun A' => (r.map fun B => com A' B).sum).sum) := by
      rw [List.map_cons, List.sum_cons, List.map_cons, List.sum_cons, ← sum_add]
      congr 1
    have e4 : (r.map fun B => com A B).sum = (r.map fun A' => com A' A).sum := sum_congr fun B _ => com_symm B A
    have e5 : com A A = 0 := adj_self one hA
    rw [e2, e3, e4, e5]
    simp only [List.map_cons, List.sum_cons]
    omega
theorem lawRim_eq {t : Tr} {L : Nat} {S Sc : List Code} (hf : Fits t L) (hS : ∀ o ∈ S, isLf t o = true) (hp : Sc.Perm S) : lrim [] (Sc.map (sqr L 0 0)) = rimOf L S := by
  rw [lrim_eq [] _ (fun A hA => by
    obtain ⟨c, hc, rfl⟩ := List.mem_map.mp (show A ∈ Sc.map (sqr L 0 0) from hA)
    exact sqr_pos hf (hS c (hp.subset hc)))]
  unfold rimOf
  have e0 : ((Sc.map (sqr L 0 0)).map fun A => (([] : List Sq).map fun B => com A B).sum).sum = 0 := sum_zero _
  rw [e0]
  have e1 : ((Sc.map (sqr L 0 0)).map fun A => 4 * A.w).sum = (S.map fun c => 4 * (sqr L 0 0 c).w).sum := by
    rw [List.map_map]; exact sum_perm _ hp
  have e2 : ((Sc.map (sqr L 0 0)).map fun A => ((Sc.map (sqr L 0 0)).map fun B => com A B).sum).sum = (S.map fun c => (S.map fun o => com (sqr L 0 0 c) (sqr L 0 0 o)).sum).sum := by
    rw [List.map_map, ← sum_perm _ hp]
    refine sum_congr fun c _ => ?_
    show ((Sc.map (sqr L 0 0)).map fun B => com (sqr L 0 0 c) B).sum = _
    rw [List.map_map, ← sum_perm _ hp]
    rfl
  rw [e1, e2]; omega
end QS
namespace QS
open Qd Sd

/-! ### corners, the rings as they are told -/
def rowLt (p q : Pt) : Bool := decide (p.2 < q.2) || (decide (p.2 = q.2) && decide (p.1 < q.1))
/-- the first least one -/
def minPt : List Pt → Pt
  | [] => (0, 0)
  | p :: r => r.foldl (fun m q => if rowLt q m = true then q else m) p
def cornersOf (f : List Key) : List Pt := (turns f).drop ((turns f).idxOf (minPt (turns f))) ++ (turns f).take ((turns f).idxOf (minPt (turns f)))
def hd0 (r : List Pt) : Pt := r.headD (0, 0)
def ringLe (r s : List Pt) : Bool := !rowLt (hd0 s) (hd0 r)
def ringsM (t : Tr) (L : Nat) (S : List Code) : List (List Pt) := ((ringsOf (allWays t L S)).map cornersOf).mergeSort ringLe

theorem corners_sum {E : Key → Pt} {f : List Key} {p : Pt} (h : Chn E p f p) (hne : f ≠ []) : cornersOf f ≠ [] ∧ CLvl (cornersOf f) ∧ ∀ g, Add g → csum g (cornersOf f) = total g E f := by
  obtain ⟨h1, h2⟩ := ring_sum h hne
  have h3 := ring_lvl h hne
  unfold cornersOf
  generalize (turns f).idxOf (minPt (turns f)) = i
  have e : (turns f).take i ++ (turns f).drop i = turns f := List.take_append_drop i _
  refine ⟨fun z => ?_, ?_, fun g hg => ?_⟩
  · have : ((turns f).drop i ++ (turns f).take i).length = 0 := by rw [z]; rfl
    have e2 : (turns f).length = 0 := by rw [← e]; simp only [List.length_append] at *; omega
    exact h1 (List.length_eq_zero_iff.mp e2)
  · exact CLvl.rot (by rw [e]; exact h3)
  · rw [csum_rot, e, h2 g hg]

theorem ringsM_ok {t : Tr} {L : Nat} {S : List Code} (hf : Fits t L) (hS : ∀ o ∈ S, isLf t o = true) (hn : S.Nodup) :
    (∀ r ∈ ringsM t L S, r ≠ [] ∧ CLvl r) ∧ ((ringsM t L S).map (csum cross)).sum = 2 * areaOf L S ∧ ((ringsM t L S).map (csum far)).sum = rimOf L S := by
  have ok := rings_ok hf hS hn
  obtain ⟨h1, h2⟩ := rings_total ok
  have hp : (ringsM t L S).Perm ((ringsOf (allWays t L S)).map cornersOf) := List.mergeSort_perm _ _
  have hr : ∀ r ∈ ringsOf (allWays t L S), cornersOf r ≠ [] ∧ CLvl (cornersOf r) ∧ ∀ g, Add g → csum g (cornersOf r) = total g (endAt (allWays t L S)) r := fun r hr => by
    obtain ⟨a, p, b⟩ := h1 r hr
    exact corners_sum b a
  have hs : ∀ g, Add g → ((ringsM t L S).map (csum g)).sum = ((allWays t L S).map fun w => g w.1.1 w.2).sum := fun g hg => by
    rw [sum_perm _ hp, List.map_map, ← h2 g]
    exact sum_congr fun r hr' => (hr r hr').2.2 g hg
  refine ⟨fun r hr' => ?_, ?_, ?_⟩
  · obtain ⟨f, hf', rfl⟩ := List.mem_map.mp (hp.subset hr')
    exact ⟨(hr f hf').1, (hr f hf').2.1⟩
  · rw [hs cross cross_add, sum_cross hf hS hn]
  · rw [hs far far_add, sum_far hf hS hn]

/-! ### twice as great -/
def dbl (p : Pt) : Pt := (2 * p.1, 2 * p.2)
def Sq.dbl (A : Sq) : Sq := ⟨2 * A.x, 2 * A.y, 2 * A.w⟩
theorem dbl_inj {p q : Pt} (h : dbl p = dbl q) : p = q := by
  obtain ⟨a, b⟩ := p
  obtain ⟨c, d⟩ := q
  simp only [dbl, Prod.mk.injEq] at h ⊢
  omega
theorem sqr_dbl : ∀ (c : Code) (L : Nat) (X Y : Int), c.length ≤ L → sqr (L + 1) (2 * X) (2 * Y) c = (sqr L X Y c).dbl
  | [], L, X, Y, _ => by rw [sqr_nil, sqr_nil]; simp [Sq.dbl, pw_succ]
  | q :: c, 0, _, _, h => by simp at h
  | q :: c, L + 1, X, Y, h => by
    rw [sqr_cons, sqr_cons, ← sqr_dbl c L _ _ (by simpa using h)]
    have := pw_succ L
    congr 1 <;> cases q <;> simp only [bx, bY] <;> omega
theorem sqr_dbl0 {t : Tr} {L : Nat} {c : Code} (hf : Fits t L) (h : isLf t c = true) : sqr (L + 1) 0 0 c = (sqr L 0 0 c).dbl := sqr_dbl c L 0 0 (sqr_len hf h)
theorem lo_dbl (s : Sd) (A : Sq) : lo s A.dbl = 2 * lo s A := by cases s <;> rfl
theorem hi_dbl (s : Sd) (A : Sq) : hi s A.dbl = 2 * hi s A := by
  unfold hi
  rw [lo_dbl]
  show _ + 2 * A.w = _
  omega
theorem free_dbl : ∀ (b e : Int) (k : List (Int × Int)), free (2 * b) (2 * e) (k.map dbl) = (free b e k).map dbl
  | b, e, [] => by
    unfold free
    simp only [List.map_nil]
    by_cases h : b < e
    · rw [if_pos (by omega), if_pos h]; rfl
    · rw [if_neg (by omega), if_neg h]; rfl
  | b, e, p :: r => by
    simp only [List.map_cons]
    unfold free
    have e1 : max (2 * b) (dbl p).2 = 2 * max b p.2 := by simp only [dbl]; omega
    rw [e1, free_dbl _ _ r, List.map_append]
    congr 1
    have e2 : (dbl p).1 = 2 * p.1 := rfl
    by_cases h : b < p.1
    · rw [if_pos (by omega), if_pos h]; rfl
    · rw [if_neg (by omega), if_neg h]; rfl
def dblK (k : Key) : Key := (dbl k.1, k.2)
def dblW (w : Way) : Way := (dblK w.1, dbl w.2)
theorem dblK_inj {a b : Key} (h : dblK a = dblK b) : a = b := by
  obtain ⟨p, d⟩ := a
  obtain ⟨q, e⟩ := b
  simp only [dblK, Prod.mk.injEq] at h
  rw [dbl_inj h.1, h.2]
theorem way_dbl (s : Sd) (A : Sq) (p : Int × Int) : way s A.dbl (dbl p) = dblW (way s A p) := by
  cases s <;> simp [way, startOf, endOf, pt, dblW, dblK, dbl, Sq.dbl] <;> omega
section
variable {t : Tr} {L : Nat} {S : List Code}
theorem parts_dbl (hf : Fits t L) (hS : ∀ o ∈ S, isLf t o = true) {c : Code} (h : isLf t c = true) (s : Sd) : parts t (L + 1) S c s = (parts t L S c s).map dbl := by
  unfold parts taken
  rw [sqr_dbl0 hf h, lo_dbl, hi_dbl, ← free_dbl, List.map_map]
  congr 1
  refine List.map_congr_left fun o ho => ?_
  have ho' : o ∈ S := by simpa using (List.mem_filter.mp ho).2
  rw [sqr_dbl0 hf (hS o ho')]
  simp only [Function.comp, stretch, lo_dbl, hi_dbl, dbl]
theorem map_flatMap' {α β γ : Type} (f : β → γ) (g : α → List β) (l : List α) : (l.flatMap g).map f = l.flatMap fun a => (g a).map f := List.map_flatMap
theorem allWays_dbl (hf : Fits t L) (hS : ∀ o ∈ S, isLf t o = true) : allWays t (L + 1) S = (allWays t L S).map dblW := by
  unfold allWays
  rw [map_flatMap']
  have key : ∀ c ∈ S, waysOf t (L + 1) S c = (waysOf t L S c).map dblW := fun c hc => by
    unfold waysOf
    rw [map_flatMap']
    congr 1
    funext s
    rw [parts_dbl hf hS (hS c hc), sqr_dbl0 hf (hS c hc), List.map_map, List.map_map]
    exact List.map_congr_left fun p _ => way_dbl s _ p
  have : ∀ l : List Code, (∀ c ∈ l, waysOf t (L + 1) S c = (waysOf t L S c).map dblW) → l.flatMap (waysOf t (L + 1) S) = l.flatMap fun a => (waysOf t L S a).map dblW := by
    intro l
    induction l with
    | nil => intro _; rfl
    | cons a r ih =>
      intro h
      rw [List.flatMap_cons, List.flatMap_cons, h a List.mem_cons_self, ih fun c hc => h c (List.mem_cons_of_mem _ hc)]
  exact this S key
end
theorem hasKey_dbl (W : List Way) (k : Key) : hasKey (W.map dblW) (dblK k) = hasKey W k := by
  unfold hasKey
  rw [List.any_map]
  congr 1
  funext w
  have : (dblW w).1 = dblK k ↔ w.1 = k := ⟨fun h => dblK_inj h, fun h => by rw [← h]; rfl⟩
  simp only [Function.comp]
  exact decide_eq_decide.mpr this
theorem follow_dbl (W : List Way) (P : Pt) (d : Sd) : follow (W.map dblW) (dbl P) d = follow W P d := by
  unfold follow
  have h : ∀ d, hasKey (W.map dblW) (dbl P, d) = hasKey W (P, d) := fun d => hasKey_dbl W (P, d)
  rw [h, h, h]
theorem endAt_dbl (W : List Way) (k : Key) : endAt (W.map dblW) (dblK k) = dbl (endAt W k) := by
  unfold endAt
  rw [List.find?_map]
  have : ((fun w : Way => decide (w.1 = dblK k)) ∘ dblW) = fun w => decide (w.1 = k) := by
    funext w
    exact decide_eq_decide.mpr ⟨fun h => dblK_inj h, fun h => by rw [← h]; rfl⟩
  rw [this]
  cases W.find? fun w => decide (w.1 = k) <;> rfl
theorem nx_dbl (W : List Way) (k : Key) : nx (W.map dblW) (dblK k) = dblK (nx W k) := by
  unfold nx
  rw [endAt_dbl, follow_dbl W _ k.2 |> fun e => (show follow (W.map dblW) (dbl (endAt W k)) (dblK k).2 = follow W (endAt W k) k.2 from e)]
  rfl
section
variable {α β : Type} [DecidableEq α] [DecidableEq β]
theorem mem_map_inj {φ : α → β} (hφ : ∀ a b, φ a = φ b → a = b) {a : α} {l : List α} : φ a ∈ l.map φ ↔ a ∈ l := by
  rw [List.mem_map]
  exact ⟨fun ⟨b, h1, h2⟩ => hφ _ _ h2 ▸ h1, fun h => ⟨a, h, rfl⟩⟩
theorem ringGo_map {φ : α → β} (hφ : ∀ a b, φ a = φ b → a = b) {f : α → α} {g : β → β} (hc : ∀ a, g (φ a) = φ (f a)) (used : List α) : ∀ (n : Nat) (k : α) (l : List α), ringGo g (used.map φ) n (φ k) (l.map φ) = (ringGo f used n k l).map φ
  | 0, _, _ => rfl
  | n + 1, k, l => by
    unfold ringGo
    rw [← List.map_append]
    by_cases h : k ∈ used ++ l
    · rw [if_pos ((mem_map_inj hφ).mpr h), if_pos h]
    · rw [if_neg (fun z => h ((mem_map_inj hφ).mp z)), if_neg h, hc, ← ringGo_map hφ hc used n]
      rw [List.map_append]; rfl
theorem ringsGo_map {φ : α → β} (hφ : ∀ a b, φ a = φ b → a = b) {f : α → α} {g : β → β} (hc : ∀ a, g (φ a) = φ (f a)) (n : Nat) : ∀ (ks used : List α), ringsGo g n (ks.map φ) (used.map φ) = (ringsGo f n ks used).map (List.map φ)
  | [], _ => rfl
  | k :: ks, used => by
    simp only [List.map_cons]
    unfold ringsGo
    by_cases h : k ∈ used
    · rw [if_pos ((mem_map_inj hφ).mpr h), if_pos h]
      exact ringsGo_map hφ hc n ks used
    · rw [if_neg (fun z => h ((mem_map_inj hφ).mp z)), if_neg h, List.map_cons]
      have e := ringGo_map hφ hc used n k []
      rw [List.map_nil] at e
      rw [e, ← List.map_append, ringsGo_map hφ hc n ks _]
end
theorem turns_dbl (f : List Key) : turns (f.map dblK) = (turns f).map dbl := by
  have key : ∀ (f : List Key) (d : Sd), turnsFrom d (f.map dblK) = (turnsFrom d f).map dbl := by
    intro f
    induction f with
    | nil => intro d; rfl
    | cons k r ih =>
      intro d
      show (if (dblK k).2 ≠ d then [(dblK k).1] else []) ++ turnsFrom (dblK k).2 (r.map dblK) = ((if k.2 ≠ d then [k.1] else []) ++ turnsFrom k.2 r).map dbl
      rw [List.map_append]
      have e : (dblK k).2 = k.2 := rfl
      rw [e, ih]
      congr 1
      by_cases h : k.2 ≠ d
      · rw [if_pos h, if_pos h]; rfl
      · rw [if_neg h, if_neg h]; rfl
  have hl : ∀ (r : List Key) (k : Key), lastD (r.map dblK) (dblK k) = dblK (lastD r k) := by
    intro r
    induction r with
    | nil => intro k; rfl
    | cons a r ih => intro k; exact ih a
  cases f with
  | nil => rfl
  | cons k r =>
    show turnsFrom (lastD (r.map dblK) (dblK k)).2 ((k :: r).map dblK) = _
    rw [hl, key]
    rfl
theorem rowLt_dbl (p q : Pt) : rowLt (dbl p) (dbl q) = rowLt p q := by
  unfold rowLt dbl
  have h1 : (2 * p.2 < 2 * q.2) ↔ p.2 < q.2 := by omega
  have h2 : (2 * p.2 = 2 * q.2) ↔ p.2 = q.2 := by omega
  have h3 : (2 * p.1 < 2 * q.1) ↔ p.1 < q.1 := by omega
  simp only [h1, h2, h3]
theorem minPt_dbl (l : List Pt) : minPt (l.map dbl) = dbl (minPt l) := by
  cases l with
  | nil => rfl
  | cons p r =>
    show (r.map dbl).foldl _ (dbl p) = dbl (r.foldl _ p)
    induction r generalizing p with
    | nil => rfl
    | cons q r ih =>
      simp only [List.map_cons, List.foldl_cons]
      rw [rowLt_dbl]
      by_cases h : rowLt q p = true
      · rw [if_pos h, if_pos h]; exact ih q
      · rw [if_neg h, if_neg h]; exact ih p
theorem idxOf_dbl (a : Pt) : ∀ l : List Pt, (l.map dbl).idxOf (dbl a) = l.idxOf a
  | [] => rfl
  | p :: r => by
    rw [List.map_cons, List.idxOf_cons, List.idxOf_cons, idxOf_dbl a r]
    have : (dbl p == dbl a) = (p == a) := by
      rw [Bool.eq_iff_iff]
      simp only [beq_iff_eq]
      exact ⟨dbl_inj, fun h => by rw [h]⟩
    rw [this]
theorem corners_dbl (f : List Key) : cornersOf (f.map dblK) = (cornersOf f).map dbl := by
  unfold cornersOf
  rw [turns_dbl, minPt_dbl, idxOf_dbl, List.map_append, List.map_drop, List.map_take]
theorem ringLe_dbl (r s : List Pt) : ringLe (r.map dbl) (s.map dbl) = ringLe r s := by
  unfold ringLe
  have : ∀ l : List Pt, hd0 (l.map dbl) = dbl (hd0 l) := fun l => by cases l <;> rfl
  rw [this, this, rowLt_dbl]
section
variable {t : Tr} {L : Nat} {S : List Code}
theorem ringsM_dbl (hf : Fits t L) (hS : ∀ o ∈ S, isLf t o = true) : ringsM t (L + 1) S = (ringsM t L S).map (List.map dbl) := by
  unfold ringsM
  rw [allWays_dbl hf hS]
  have e : ringsOf ((allWays t L S).map dblW) = (ringsOf (allWays t L S)).map (List.map dblK) := by
    unfold ringsOf
    have e1 : ((allWays t L S).map dblW).map (·.1) = ((allWays t L S).map (·.1)).map dblK := by rw [List.map_map, List.map_map]; rfl
    rw [e1, List.length_map]
    have := ringsGo_map (φ := dblK) (fun a b h => dblK_inj h) (f := nx (allWays t L S)) (g := nx ((allWays t L S).map dblW)) (nx_dbl _) ((allWays t L S).length + 1) ((allWays t L S).map (·.1)) []
    exact this
  rw [e, List.map_map]
  have e2 : (cornersOf ∘ List.map dblK) = (List.map dbl ∘ cornersOf) := funext fun f => corners_dbl f
  rw [e2, ← List.map_map]
  exact (List.map_mergeSort (fun a _ b _ => (ringLe_dbl a b).symm)).symm
theorem cmn_dbl (A B : Sq) : cmn A.dbl B.dbl = 2 * cmn A B := by
  have h1 : across A.dbl B.dbl = 2 * across A B := by simp only [across, Sq.dbl]; omega
  have h2 : downw A.dbl B.dbl = 2 * downw A B := by simp only [downw, Sq.dbl]; omega
  unfold cmn
  rw [h1, h2]
  generalize across A B = a
  generalize downw A B = b
  omega
theorem rimP_dbl (hf : Fits t L) (hS : ∀ o ∈ S, isLf t o = true) : rimP t (L + 1) S = 2 * rimP t L S := by
  unfold rimP
  rw [← sum_mul]
  refine sum_congr fun c hc => ?_
  rw [sqr_dbl0 hf (hS c hc), Int.mul_sub, ← sum_mul]
  congr 1
  · show 4 * (2 * (sqr L 0 0 c).w) = _
    omega
  · refine sum_congr fun o ho => ?_
    have ho' : o ∈ S := by simpa using (List.mem_filter.mp ho).2
    rw [sqr_dbl0 hf (hS o ho'), cmn_dbl]
end

/-! ### all at once -/
structure Good (t : Tr) (L : Nat) (c0 : Code) (S : List Code) (land : List Sq) : Prop where
  rim : rimP t L S = lrim [] land
  lvl : ∀ r ∈ ringsM t L S, r ≠ [] ∧ CLvl r
  area : ((ringsM t L S).map (csum cross)).sum = 2 * (land.map fun A => A.w * A.w).sum
  far : ((ringsM t L S).map (csum far)).sum = lrim [] land
  rim2 : rimP t (L + 1) S = 2 * rimP t L S
  rings2 : ringsM t (L + 1) S = (ringsM t L S).map (List.map dbl)
theorem good {t : Tr} {L : Nat} {c0 : Code} {S : List Code} (hf : Fits t L) (h0 : isLf t c0 = true) (hp : S.Perm ((members t c0).map (·.1))) : Good t L c0 S (lawLand (leaves t) L (c0, col t c0)) := by
  obtain ⟨I, hm⟩ := members_ok h0
  have hS : ∀ o ∈ S, isLf t o = true := fun o ho => (((hm o).mp (hp.subset ho)).lf h0).1
  have hn : S.Nodup := hp.nodup_iff.mpr I.nd
  obtain ⟨Sc, e, n2, h2⟩ := lawLand_ok hf h0
  have hps : Sc.Perm S := perm_of n2 hn fun o => (h2 o).trans ((hm o).symm.trans (hp.mem_iff).symm)
  obtain ⟨r1, r2, r3⟩ := ringsM_ok hf hS hn
  have er := lawRim_eq hf hS hps
  refine ⟨?_, r1, ?_, ?_, rimP_dbl hf hS, ringsM_dbl hf hS⟩
  · rw [rimP_eq hf hS hn, e, er]
  · rw [r2, e, List.map_map]
    unfold areaOf
    rw [← sum_perm _ hps]; rfl
  · rw [r3, e, er]
end QS
set_option autoImplicit true
set_option Elab.async false
set_option linter.all false
set_option maxRecDepth 100000
set_option maxHeartbeats 4000000
namespace QW
open PySem PySem.Spec PyProof.Rows L2 Evl

/-! ### data without lists -/
/-- a tuple that stays -/
def TupAt (K : PySem.W.Frag) (H : Hp) (a : Addr) (xs : List V) : Prop :=
  H a = some (.tup xs) ∨ ∃ (o : Obj) (its : Array Value) (n : Nat), K.lookup a = some o ∧ o.cls = .type "tuple" ∧ o.data = .seq its n ∧ its.size ≤ sizeLine ∧ Vals xs its.toList
theorem TupAt.sq {K : PySem.W.Frag} {H : Hp} {a : Addr} {xs : List V} (h : TupAt K H a xs) : SqT K H a xs := h.elim (fun h => .inl (.inl h)) .inr
mutual
inductive Dn (K : PySem.W.Frag) (H : Hp) : V → PyData → Prop
  | non : Dn K H .non .none
  | bl (b : Bool) : Dn K H (.bl b) (.bool b)
  | int (i : Int) : Dn K H (.int i) (.int i)
  | str (x : Str) : Dn K H (.str x) (.str x)
  | tup {a : Addr} {xs : List V} {ds : List PyData} : TupAt K H a xs → DnAll K H xs ds → Dn K H (.ref a) (.tuple ds)
inductive DnAll (K : PySem.W.Frag) (H : Hp) : List V → List PyData → Prop
  | nil : DnAll K H [] []
  | cons {v : V} {vs : List V} {d : PyData} {ds : List PyData} : Dn K H v d → DnAll K H vs ds → DnAll K H (v :: vs) (d :: ds)
end
/-- the tuples are kept -/
def TKp (H H' : Hp) : Prop := ∀ b xs, H b = some (.tup xs) → H' b = some (.tup xs)
theorem TKp.refl (H : Hp) : TKp H H := fun _ _ h => h
theorem TKp.trans {H H1 H2 : Hp} (a : TKp H H1) (b : TKp H1 H2) : TKp H H2 := fun x o h => b x o (a x o h)
theorem TKp.ex {H H' : Hp} (e : Ex H H') : TKp H H' := fun b xs h => e b _ h
theorem TKp.upd {H : Hp} {a : Addr} {o : HO} (h : ∀ xs, H a ≠ some (.tup xs)) : TKp H (upd H a o) := fun b xs hb => by
  rw [upd_ne]
  · exact hb
  · intro e; subst e; exact h xs hb
mutual
theorem Dn.keep {K : PySem.W.Frag} {H H' : Hp} (t : TKp H H') : ∀ {v : V} {d : PyData}, Dn K H v d → Dn K H' v d
  | _, _, .non => .non
  | _, _, .bl b => .bl b
  | _, _, .int i => .int i
  | _, _, .str x => .str x
  | _, _, .tup h hs => .tup (h.elim (fun h => .inl (t _ _ h)) .inr) (DnAll.keep t hs)
theorem DnAll.keep {K : PySem.W.Frag} {H H' : Hp} (t : TKp H H') : ∀ {vs : List V} {ds : List PyData}, DnAll K H vs ds → DnAll K H' vs ds
  | _, _, .nil => .nil
  | _, _, .cons h hs => .cons (Dn.keep t h) (DnAll.keep t hs)
end
mutual
theorem Dn.dp {K : PySem.W.Frag} {H : Hp} : ∀ {v : V} {d : PyData}, Dn K H v d → Dp K H v d
  | _, _, .non => .non
  | _, _, .bl b => .bl b
  | _, _, .int i => .int i
  | _, _, .str x => .str x
  | _, _, .tup h hs => .tup h.sq (DnAll.dp hs)
theorem DnAll.dp {K : PySem.W.Frag} {H : Hp} : ∀ {vs : List V} {ds : List PyData}, DnAll K H vs ds → DpAll K H vs ds
  | _, _, .nil => .nil
  | _, _, .cons h hs => .cons (Dn.dp h) (DnAll.dp hs)
end
section
variable {K : PySem.W.Frag} {H H' : Hp} {v : V} {vs : List V} {d : PyData} {ds es : List PyData} {i : Int} {b : Bool} {x : Str}
theorem Dn.ex (e : Ex H H') (h : Dn K H v d) : Dn K H' v d := h.keep (.ex e)
theorem DnAll.ex (e : Ex H H') (h : DnAll K H vs ds) : DnAll K H' vs ds := h.keep (.ex e)
theorem Dn.int_eq (h : Dn K H v (.int i)) : v = .int i := by cases h; rfl
theorem Dn.str_eq (h : Dn K H v (.str x)) : v = .str x := by cases h; rfl
theorem Dn.bl_eq (h : Dn K H v (.bool b)) : v = .bl b := by cases h; rfl
theorem Dn.non_eq (h : Dn K H v .none) : v = .non := by cases h; rfl
theorem Dn.tup_eq (h : Dn K H v (.tuple ds)) : ∃ a xs, v = .ref a ∧ TupAt K H a xs ∧ DnAll K H xs ds := by
  cases h with
  | tup h1 h2 => exact ⟨_, _, rfl, h1, h2⟩
theorem DnAll.len : ∀ {vs : List V} {ds : List PyData}, DnAll K H vs ds → vs.length = ds.length
  | _, _, .nil => rfl
  | _, _, .cons _ h => congrArg (· + 1) h.len
theorem DnAll.get : ∀ {vs : List V} {ds : List PyData} {j : Nat} {d : PyData}, DnAll K H vs ds → ds[j]? = some d → ∃ v, vs[j]? = some v ∧ Dn K H v d
  | _, _, _, _, .nil, e => by simp at e
  | _, _, 0, _, .cons h _, e => by simp at e; subst e; exact ⟨_, rfl, h⟩
  | _, _, j + 1, _, .cons _ h, e => by simpa using h.get (j := j) (by simpa using e)
theorem DnAll.get' : ∀ {vs : List V} {ds : List PyData} {j : Nat} {v : V}, DnAll K H vs ds → vs[j]? = some v → ∃ d, ds[j]? = some d ∧ Dn K H v d
  | _, _, _, _, .nil, e => by simp at e
  | _, _, 0, _, .cons h _, e => by simp at e; subst e; exact ⟨_, rfl, h⟩
  | _, _, j + 1, _, .cons _ h, e => by simpa using h.get' (j := j) (by simpa using e)
theorem DnAll.app : ∀ {vs ws : List V} {ds es : List PyData}, DnAll K H vs ds → DnAll K H ws es → DnAll K H (vs ++ ws) (ds ++ es)
  | _, _, _, _, .nil, h => h
  | _, _, _, _, .cons a r, h => .cons a (r.app h)
theorem DnAll.snoc (h : DnAll K H vs ds) (h2 : Dn K H v d) : DnAll K H (vs ++ [v]) (ds ++ [d]) := h.app (.cons h2 .nil)
theorem DnAll.ints : ∀ {vs : List V} {ns : List Int}, DnAll K H vs (ns.map PyData.int) → vs = ns.map V.int
  | _, [], .nil => rfl
  | _, n :: ns, .cons h r => by rw [h.int_eq, r.ints]; rfl
theorem DnAll.strs : ∀ {vs : List V} {ns : List Str}, DnAll K H vs (ns.map PyData.str) → vs = ns.map V.str
  | _, [], .nil => rfl
  | _, n :: ns, .cons h r => by rw [h.str_eq, r.strs]; rfl
theorem DnAll.inv1 {a : PyData} (h : DnAll K H vs [a]) : ∃ x, vs = [x] ∧ Dn K H x a := by
  cases h with
  | cons h1 h => cases h; exact ⟨_, rfl, h1⟩
theorem DnAll.inv2 {a b : PyData} (h : DnAll K H vs [a, b]) : ∃ x y, vs = [x, y] ∧ Dn K H x a ∧ Dn K H y b := by
  cases h with
  | cons h1 h => obtain ⟨y, rfl, h2⟩ := h.inv1; exact ⟨_, _, rfl, h1, h2⟩
theorem DnAll.inv3 {a b c : PyData} (h : DnAll K H vs [a, b, c]) : ∃ x y z, vs = [x, y, z] ∧ Dn K H x a ∧ Dn K H y b ∧ Dn K H z c := by
  cases h with
  | cons h1 h => obtain ⟨y, z, rfl, h2, h3⟩ := h.inv2; exact ⟨_, _, _, rfl, h1, h2, h3⟩
theorem DnAll.inv4 {a b c d : PyData} (h : DnAll K H vs [a, b, c, d]) : ∃ x y z u, vs = [x, y, z, u] ∧ Dn K H x a ∧ Dn K H y b ∧ Dn K H z c ∧ Dn K H u d := by
  cases h with
  | cons h1 h => obtain ⟨y, z, u, rfl, h2, h3, h4⟩ := h.inv3; exact ⟨_, _, _, _, rfl, h1, h2, h3, h4⟩
end

/-! ### what evaluates to what data -/
def EvN (K : PySem.W.Frag) (te : TE) (σ : L2.St) (H : Hp) (d : PyData) : Prop := ∀ H1, Ex H H1 → ∀ Q : VK, (∀ v H2, Ex H1 H2 → Dn K H2 v d → Q v H2) → te σ H1 Q
/-- a new list of such data -/
def EvLs (K : PySem.W.Frag) (te : TE) (σ : L2.St) (H : Hp) (ds : List PyData) : Prop := ∀ H1, Ex H H1 → ∀ Q : VK, (∀ p vs H2, H1 p = none → Ex H1 H2 → H2 p = some (.lst vs) → DnAll K H2 vs ds → Q (.ref p) H2) → te σ H1 Q
/-- arguments, told by a predicate -/
def EvG (ta : TA) (σ : L2.St) (H : Hp) (P : List V → Hp → Prop) : Prop := ∀ H1, Ex H H1 → ∀ Q : List V → Hp → Prop, (∀ vs H2, Ex H1 H2 → P vs H2 → Q vs H2) → ta σ H1 Q
abbrev EvNs (K : PySem.W.Frag) (ta : TA) (σ : L2.St) (H : Hp) (ds : List PyData) : Prop := EvG ta σ H fun vs H' => DnAll K H' vs ds
section
variable {K : PySem.W.Frag} {σ : L2.St} {H H' : Hp} {ta tb te : TE} {x y z v : V} {d e : PyData} {ds es : List PyData} {i j : Int} {b c : Bool} {s u : Str}
theorem EvN.mono (q : Ex H H') (h : EvN K te σ H d) : EvN K te σ H' d := fun H1 a Q k => h H1 (q.trans a) Q k
theorem EvLs.mono (q : Ex H H') (h : EvLs K te σ H ds) : EvLs K te σ H' ds := fun H1 a Q k => h H1 (q.trans a) Q k
theorem EvG.mono {tr : TA} {P : List V → Hp → Prop} (q : Ex H H') (h : EvG tr σ H P) : EvG tr σ H' P := fun H1 a Q k => h H1 (q.trans a) Q k
theorem en_var {k : Nat} (h : σ[k]? = some (some v)) (hd : Dn K H v d) : EvN K (tVar k) σ H d := fun H1 a _ q => ⟨v, h, q v H1 (Ex.refl H1) (hd.ex a)⟩
theorem en_ev (h : Ev te σ H v) (hd : Dn K H v d) : EvN K te σ H d := fun H1 a Q q => h H1 a Q fun H2 a2 => q v H2 a2 (hd.ex (a.trans a2))
theorem EvN.vi (h : EvN K te σ H (.int i)) : Ev te σ H (.int i) := fun H1 a Q q => h H1 a Q fun v H2 a2 hd => by rw [hd.int_eq]; exact q H2 a2
theorem EvN.vs (h : EvN K te σ H (.str s)) : Ev te σ H (.str s) := fun H1 a Q q => h H1 a Q fun v H2 a2 hd => by rw [hd.str_eq]; exact q H2 a2
theorem EvN.vb (h : EvN K te σ H (.bool b)) : Ev te σ H (.bl b) := fun H1 a Q q => h H1 a Q fun v H2 a2 hd => by rw [hd.bl_eq]; exact q H2 a2
theorem EvN.vn (h : EvN K te σ H .none) : Ev te σ H .non := fun H1 a Q q => h H1 a Q fun v H2 a2 hd => by rw [hd.non_eq]; exact q H2 a2
theorem ei (h : Ev te σ H (.int i)) : EvN K te σ H (.int i) := en_ev h (.int i)
theorem es_ (h : Ev te σ H (.str s)) : EvN K te σ H (.str s) := en_ev h (.str s)
theorem eb (h : Ev te σ H (.bl b)) : EvN K te σ H (.bool b) := en_ev h (.bl b)
theorem en_int : EvN K (tC (.int i)) σ H (.int i) := ei ev_c
theorem en_str : EvN K (tC (.str s)) σ H (.str s) := es_ ev_c
theorem en_bl : EvN K (tC (.bl b)) σ H (.bool b) := eb ev_c
theorem en_non : EvN K (tC .non) σ H .none := en_ev ev_c .non
theorem EvN.cast (h : EvN K te σ H d) (q : d = e) : EvN K te σ H e := q ▸ h
/-- whole numbers -/
theorem en_op0 {g : Int → Int → Int} (ha : EvN K ta σ H (.int i)) (hb : EvN K tb σ H (.int j)) : EvN K (tOp (rI0 fun i j => .int (g i j)) ta tb) σ H (.int (g i j)) := ei (ev_op ha.vi hb.vi rv_I0)
theorem en_opC {C : Int → Int → Prop} {g : Int → Int → Int} (ha : EvN K ta σ H (.int i)) (hb : EvN K tb σ H (.int j)) (hc : C i j) : EvN K (tOp (rI C fun i j => .int (g i j)) ta tb) σ H (.int (g i j)) := ei (ev_op ha.vi hb.vi (rv_I hc))
theorem en_cmp {g : Int → Int → Bool} (ha : EvN K ta σ H (.int i)) (hb : EvN K tb σ H (.int j)) : EvN K (tOp (rI0 fun i j => .bl (g i j)) ta tb) σ H (.bool (g i j)) := eb (ev_op ha.vi hb.vi rv_I0)
theorem en_eqI (ha : EvN K ta σ H (.int i)) (hb : EvN K tb σ H (.int j)) : EvN K (tOp rEq ta tb) σ H (.bool (decide (i = j))) := eb (ev_is (ev_op ha.vi hb.vi (rv_eq rfl)) (by
  congr 1; exact decide_eq_decide.mpr ⟨fun h => V.int.inj h, fun h => by rw [h]⟩))
theorem en_neI (ha : EvN K ta σ H (.int i)) (hb : EvN K tb σ H (.int j)) : EvN K (tOp rNe ta tb) σ H (.bool (!decide (i = j))) := eb (ev_is (ev_op ha.vi hb.vi (rv_ne rfl)) (by
  congr 2; exact decide_eq_decide.mpr ⟨fun h => V.int.inj h, fun h => by rw [h]⟩))
theorem en_eqS (ha : EvN K ta σ H (.str s)) (hb : EvN K tb σ H (.str u)) : EvN K (tOp rEq ta tb) σ H (.bool (decide (s = u))) := eb (ev_is (ev_op ha.vs hb.vs (rv_eq rfl)) (by
  congr 1; exact decide_eq_decide.mpr ⟨fun h => V.str.inj h, fun h => by rw [h]⟩))
theorem en_eqB (ha : EvN K ta σ H (.bool b)) (hb : EvN K tb σ H (.bool c)) : EvN K (tOp rEq ta tb) σ H (.bool (decide (b = c))) := eb (ev_is (ev_op ha.vb hb.vb (rv_eq rfl)) (by
  congr 1; exact decide_eq_decide.mpr ⟨fun h => V.bl.inj h, fun h => by rw [h]⟩))
theorem en_neg (ha : EvN K ta σ H (.int i)) : EvN K (tUn (rU fun i => .int (-i)) ta) σ H (.int (-i)) := ei (ev_un ha.vi ru_neg)
/-- data with data, == and != -/
theorem en_eqD (ha : EvN K ta σ H d) (hb : EvN K tb σ H e) (h1 : SeqAt.shaped d = true) (h2 : SeqAt.shaped e = true) : EvN K (tOp (rEqD K) ta tb) σ H (.bool (PyData.eqv d e)) := fun H1 a Q q =>
  ha H1 a _ fun v H2 a2 hd => hb H2 (a.trans a2) _ fun w H3 a3 he => ⟨d, e, (hd.ex a3).dp, he.dp, h1, h2, q _ H3 (a2.trans a3) (.bl _)⟩
theorem en_neD (ha : EvN K ta σ H d) (hb : EvN K tb σ H e) (h1 : SeqAt.shaped d = true) (h2 : SeqAt.shaped e = true) : EvN K (tOp (rNeD K) ta tb) σ H (.bool (!PyData.eqv d e)) := fun H1 a Q q =>
  ha H1 a _ fun v H2 a2 hd => hb H2 (a.trans a2) _ fun w H3 a3 he => ⟨d, e, (hd.ex a3).dp, he.dp, h1, h2, q _ H3 (a2.trans a3) (.bl _)⟩
/-- arguments, tuples -/
theorem eg_nil : EvNs K tNil σ H [] := fun H1 _ Q q => q [] H1 (Ex.refl H1) .nil
theorem eg_cons {tr : TA} (h : EvN K te σ H d) (hr : EvNs K tr σ H ds) : EvNs K (tCons te tr) σ H (d :: ds) := fun H1 a Q q =>
  h H1 a _ fun v H2 a2 hd => hr H2 (a.trans a2) _ fun vs H3 a3 hs => q _ H3 (a2.trans a3) (.cons (hd.ex a3) hs)
theorem en_tup {tr : TA} (h : EvNs K tr σ H ds) (hl : ds.length ≤ 100000 := by first | decide | simp) : EvN K (tTup tr) σ H (.tuple ds) := fun H1 a Q q =>
  h H1 a _ fun vs H2 a2 hs => ⟨sz_of (by rw [hs.len]; exact hl), fun p hp => q _ _ (a2.trans (Ex.new hp)) (.tup (.inl upd_same) (hs.ex (Ex.new hp)))⟩
theorem el_lst {tr : TA} (h : EvNs K tr σ H ds) (hl : ds.length ≤ 100000 := by first | decide | simp) : EvLs K (tLst tr) σ H ds := fun H1 a Q q =>
  h H1 a _ fun vs H2 a2 hs => ⟨sz_of (by rw [hs.len]; exact hl), fun p hp => q p vs _ (fresh_back a2 hp) (a2.trans (Ex.new hp)) upd_same (hs.ex (Ex.new hp))⟩
/-- items -/
theorem atI_of {α : Type} {xs : List α} {i : Int} {v : α} (h0 : 0 ≤ i) (h : xs[i.toNat]? = some v) : atI xs i = some v := by
  have e : ((i.toNat : Nat) : Int) = i := by omega
  rw [← e]; exact atI_nat h
theorem en_ixT (ha : EvN K ta σ H (.tuple ds)) (hb : EvN K tb σ H (.int i)) (h0 : 0 ≤ i) (hi : ds[i.toNat]? = some d) : EvN K (tOp (rIxT K) ta tb) σ H d := fun H1 a Q q =>
  ha H1 a _ fun v H2 a2 hd => hb.vi H2 (a.trans a2) _ fun H3 a3 => by
    obtain ⟨p, xs, rfl, ht, hs⟩ := (hd.ex a3).tup_eq
    obtain ⟨w, h1, h2⟩ := hs.get hi
    exact ⟨p, xs, i, w, rfl, rfl, ht.sq, atI_of h0 h1, q w H3 (a2.trans a3) h2⟩
theorem en_ixS (ha : EvN K ta σ H (.str s)) (hb : EvN K tb σ H (.int i)) (h0 : 0 ≤ i) (hl : s.length ≤ 100000) {k : Nat} (hi : s.cps.toList[i.toNat]? = some k) : EvN K (tOp rIxS ta tb) σ H (.str ⟨#[k]⟩) := fun H1 a Q q =>
  ha.vs H1 a _ fun H2 a2 => hb.vi H2 (a.trans a2) _ fun H3 a3 => ⟨s, i, k, rfl, rfl, sz_of hl, atI_of h0 hi, q _ H3 (a2.trans a3) (.str _)⟩
/-- an item of a list that stands -/
theorem en_ixL {p : Addr} {vs : List V} (ha : Ev ta σ H (.ref p)) (hp : SqL K H p vs) (hb : EvN K tb σ H (.int i)) (hs : DnAll K H vs ds) (h0 : 0 ≤ i) (hi : ds[i.toNat]? = some d) : EvN K (tOp (rIxL K) ta tb) σ H d := fun H1 a Q q =>
  ha H1 a _ fun H2 a2 => hb.vi H2 (a.trans a2) _ fun H3 a3 => by
    obtain ⟨w, h1, h2⟩ := hs.get hi
    exact ⟨p, vs, i, w, rfl, rfl, ex_l ((a.trans a2).trans a3) hp, atI_of h0 h1, q w H3 (a2.trans a3) (h2.ex ((a.trans a2).trans a3))⟩
/-- tests -/
theorem et_n (h : EvN K te σ H (.bool b)) : EvT (tTest te) σ H b := et_test h.vb
theorem et_v (h : EvN K te σ H (.bool b)) : EvT (tB te) σ H b := et_B h.vb
theorem en_and (h1 : EvN K ta σ H (.bool b)) (h2 : b = true → EvN K tb σ H (.bool c)) : EvN K (tAndV ta tb) σ H (.bool (b && c)) := eb (ev_andV h1.vb fun q => (h2 q).vb)
theorem en_not (h1 : EvN K ta σ H (.bool b)) : EvN K (tNotV ta) σ H (.bool (!b)) := eb (ev_notV h1.vb)
/-- a chain of comparisons of whole numbers -/
theorem en_chain {tc : TE} {f g : Int → Int → Bool} {k : Int} (ha : EvN K ta σ H (.int i)) (hb : EvN K tb σ H (.int j)) (hc : EvN K tc σ H (.int k)) :
    EvN K (tChain (rI0 fun i j => .bl (f i j)) (rI0 fun i j => .bl (g i j)) ta tb tc) σ H (.bool (f i j && g j k)) := fun H1 a Q q =>
  ha.vi H1 a _ fun H2 a2 => hb.vi H2 (a.trans a2) _ fun H3 a3 => ⟨i, j, rfl, rfl, f i j, rfl, by
    cases hf : f i j with
    | true =>
      refine iteT (hc.vi H3 ((a.trans a2).trans a3) _ fun H4 a4 => ⟨j, k, rfl, rfl, ?_⟩)
      exact q _ H4 ((a2.trans a3).trans a4) (by rw [hf, Bool.true_and]; exact .bl _)
    | false =>
      refine iteF ?_
      exact q _ H3 (a2.trans a3) (by rw [hf, Bool.false_and]; exact .bl _)⟩
theorem et_chain {tc : TE} {f g : Int → Int → Bool} {k : Int} (ha : EvN K ta σ H (.int i)) (hb : EvN K tb σ H (.int j)) (hc : EvN K tc σ H (.int k)) :
    EvT (fun σ H Q => tChain (rI0 fun i j => .bl (f i j)) (rI0 fun i j => .bl (g i j)) ta tb tc σ H fun x H' => ∃ k, x = .bl k ∧ Q k H') σ H (f i j && g j k) := fun H1 a Q q =>
  (en_chain ha hb hc).vb H1 a _ fun H2 a2 => ⟨_, rfl, q H2 a2⟩
end
end QW
set_option autoImplicit true
set_option Elab.async false
set_option linter.all false
set_option maxRecDepth 100000
set_option maxHeartbeats 4000000
namespace QX
open PySem PySem.Spec PyProof.Rows L2 RT PySem.W
section
variable {prog : Program} {w : World} {A : Around} {E : Value → Shared → Prop} {s : Shared} {it l : Addr} {items : Array Value}
theorem rev_extend {R : Result → Shared → Prop} (hh : A.handled = none) (hit : s.heap.IsRevIter it l ((items.size : Int) - 1)) (hl : s.heap.IsList l items) (hne : l ≠ it) (hn : items.size ≤ sizeLine) (S : Addr) (hSi : S ≠ it) (hSl : S ≠ l) (res : Value) (c₀ : Nat) (hS : s.heap.get? S = some { cls := .type "list", data := .seq #[] c₀ })
    (hR : ∀ h' tk acc' c', (∀ b o, b ≠ S → b ≠ it → s.heap.get? b = some o → h'.get? b = some o) → h'.get? S = some { cls := .type "list", dict := none, data := .seq acc' c', slots := #[] } → ItemsOf (fun i v => items[items.size - 1 - i]? = some v) acc' items.size → R (.ok (.ret res)) { s with heap := h', toks := tk }) :
    wpAny (model prog w) A.in1 (Builtin.List.listExtendWith (.ref S) (.ref it) res)
      (fun fin s' => match fin with | .done f => R (.ok f) s' | .again c' => c'.quiet = true ∧ codeAny (model prog w) A c' R s') (fun e s' => R (.error e) s') s := by
  have W := (Walks.listRev (prog := prog) (w := w) (A := A.in1) hh it l hne items).toS
  have hSf : S ∉ [it, l] := by simp only [List.mem_cons, List.not_mem_nil, or_false, not_or]; exact ⟨hSi, hSl⟩
  have hT : s.TypeIs (.ref it) "list_reverseiterator" := hit.typeIs
  have h1 : Builtin.List.listSameRef (.ref S) (.ref it) = false := by simp [Builtin.List.listSameRef, hSi]
  unfold Builtin.List.listExtendWith
  refine wpAny_bind (wpAny_typeOf hT ?_)
  rw [if_neg (by rw [h1]; decide)]
  refine wpAny_bind (wpAny_pyIter_revIter hit ?_)
  refine wpAny_bind (wpAny_holding ?_)
  unfold Builtin.List.listLengthHint
  refine wpAny_bind (wpAny_specialOf hT nolen_lri ?_)
  show wpAny _ A.in1 (specialOf (Value.ref it) (Str.ofString "__length_hint__") >>= _) _ _ _
  refine wpAny_bind (wpAny_specialOf hT hint_lri ?_)
  generalize hid : ("list_reverseiterator.__length_hint__" : String) = id0
  wp_delta
  rw [show splitId id0 = some ("list_reverseiterator", "__length_hint__") from by subst hid; decide +kernel]
  subst hid
  refine wpAny_bind (wpAny_isInstance (b := true) hT (by rw [isSubtype_type]; kernel_rfl) ?_)
  refine wpAny_pure ?_
  rw [if_neg (by decide)]
  have e0 : ((items.size : Nat) : Int) - 1 - ((0 : Nat) : Int) = (items.size : Int) - 1 := by omega
  refine wpAny_pure ⟨plainId_quiet F.plain_extend_loop _, codeAny_extend_loopS W hn S hSf res items.size 0 _ _ _ rfl (Nat.zero_le _) ⟨Nat.zero_le _, by rw [e0]; exact hit, hl⟩ hS (ItemsOf.nil _) fun s' acc' c' hm hS' hacc => ?_⟩
  rw [Moved.eq_with hm]
  refine hR s'.heap s'.toks acc' c' (fun b o hb hb2 e => hm.heap b o (fun hmem => ?_) e) hS' hacc
  rcases List.mem_cons.mp hmem with e' | hmem
  · exact hb e'
  · exact hb2 (List.mem_singleton.mp hmem)
theorem rev_init {R : Result → Shared → Prop} (hh : A.handled = none) (hit : s.heap.IsRevIter it l ((items.size : Int) - 1)) (hl : s.heap.IsList l items) (hne : l ≠ it) (hn : items.size ≤ sizeLine) (S : Addr) (hSi : S ≠ it) (hSl : S ≠ l) (hS : s.heap.get? S = some { cls := .type "list", data := .seq #[] })
    (hR : ∀ h' tk acc' c', (∀ b o, b ≠ S → b ≠ it → s.heap.get? b = some o → h'.get? b = some o) → h'.get? S = some { cls := .type "list", dict := none, data := .seq acc' c', slots := #[] } → ItemsOf (fun i v => items[items.size - 1 - i]? = some v) acc' items.size → R (.ok (.ret .none)) { s with heap := h', toks := tk }) :
    wpAny (model prog w) A.in1 (Builtin.«list.__init__» ⟨[.ref S, .ref it], []⟩)
      (fun fin s' => match fin with | .done f => R (.ok f) s' | .again c' => c'.quiet = true ∧ codeAny (model prog w) A c' R s') (fun e s' => R (.error e) s') s := by
  show wpAny _ _ (do let old ← Builtin.List.listItems (.ref S); Builtin.List.listUpdate (.ref S) (fun _ => #[]); letGo old.toList.reverse; Builtin.List.listExtendWith (.ref S) (.ref it) .none) _ _ s
  refine wpAny_bind ?_
  unfold Builtin.List.listItems
  refine wpAny_bind (wpAny_seqItems hS rfl (wpAny_pure ?_))
  show wpAny _ _ (updateSeq S (fun _ => #[]) >>= fun _ => letGo (#[] : Array Value).toList.reverse >>= fun _ => Builtin.List.listExtendWith (.ref S) (.ref it) .none) _ _ s
  refine wpAny_bind (wpAny_updateSeq hS rfl ?_)
  have hS₂ := Heap.get?_update_self (Obj.mapSeq (fun _ => (#[] : Array Value))) hS rfl
  have oth : ∀ b o, b ≠ S → s.heap.get? b = some o → (s.heap.update S (Obj.mapSeq (fun _ => (#[] : Array Value)))).get? b = some o :=
    fun b o hb e => (Heap.get?_update_other _ _ (Ne.symm hb)).trans e
  refine wpAny_bind (wpAny_letGo ?_)
  have hit2 := hit.at (h' := s.heap.update S (Obj.mapSeq (fun _ => (#[] : Array Value)))) fun o e => oth it o hSi.symm e
  have hl2 : (s.heap.update S (Obj.mapSeq (fun _ => (#[] : Array Value)))).IsList l items := by
    obtain ⟨o, ho, x⟩ := hl
    exact ⟨o, oth l o hSl.symm ho, x⟩
  refine rev_extend (s := { s with heap := s.heap.update S (Obj.mapSeq (fun _ => (#[] : Array Value))) }) hh hit2 hl2 hne hn S hSi hSl .none _ hS₂ (fun h' tk acc' c' hk hS' hacc => ?_)
  exact hR h' tk acc' c' (fun b o hb hb2 e => hk b o hb hb2 (oth b o hb e)) hS' hacc
theorem call_list_rev {Q : Value → Shared → Prop} (hh : A.handled = none) (hit : s.heap.IsRevIter it l ((items.size : Int) - 1)) (hl : s.heap.IsList l items) (hne : l ≠ it) (hn : items.size ≤ sizeLine)
    (hQ : ∀ h' tk acc' c', (∀ b o, b ≠ it → s.heap.get? b = some o → h'.get? b = some o) → h'.get? s.heap.objs.size = some { cls := .type "list", dict := none, data := .seq acc' c', slots := #[] } → ItemsOf (fun i v => items[items.size - 1 - i]? = some v) acc' items.size → Q (.ref s.heap.objs.size) { s with heap := h', toks := tk }) :
    wpAny (model prog w) A (call (.type "list") [.ref it]) Q E s := by
  refine callType_codes (Q₁ := fun obj s₁ => obj = .ref s.heap.objs.size ∧ s₁ = { s with heap := s.heap.push { cls := .type "list", data := .seq #[] } }) PySem.F.called_list (PySem.F.typeCall_list_1 _) PySem.F.entry_list_init
    (code_list_new _ ⟨rfl, rfl⟩) fun obj s₁ h₁ => ?_
  obtain ⟨rfl, rfl⟩ := h₁
  have hS : (s.heap.push { cls := .type "list", data := .seq #[] }).get? s.heap.objs.size = some { cls := .type "list", data := .seq #[] } := Heap.get?_push_size _ rfl
  obtain ⟨oi, hoi, _⟩ := id hit
  obtain ⟨ol, hol, _⟩ := id hl
  refine ⟨⟨_, hS, rfl⟩, PySem.F.args_list_init_2 _ _, rev_init (A := A.in1) (s := { s with heap := s.heap.push { cls := .type "list", data := .seq #[] } }) hh (hit.at fun o e => Heap.get?_push_of_some _ e) (hl.push _) hne hn _ (Nat.ne_of_gt (Heap.lt_size hoi)) (Nat.ne_of_gt (Heap.lt_size hol)) hS (fun h' tk acc' c' hk hS' hacc => ?_)⟩
  exact ⟨rfl, hQ h' tk acc' c' (fun b o hb e => hk b o (Nat.ne_of_lt (Heap.lt_size e)) hb (Heap.get?_push_of_some _ e)) hS' hacc⟩
end
section
variable {X : Cx}
def tListRev (K : PySem.W.Frag) (te : TE) : TE := fun σ H Q => te σ H fun v H1 => ∃ (a : Addr) (xs : List V), v = .ref a ∧ SqL K H1 a xs ∧ ∀ q, H1 q = none → Q (.ref q) (upd H1 q (.lst xs.reverse))
theorem pe_listRev {e : Expr} {te : TE} {p p2 pos pos2 : Pos} (hc : X.calm = true) (hg : Gl X "list") (hm : X.mg "list" = none) (hg2 : Gl X "reversed") (hm2 : X.mg "reversed" = none) (he : PE X e te)
    (hs : starEach [e] X.env = (false, eval e X.env) :: starEach [] X.env := by rfl)
    (hs2 : starEach [.Call (.Name "reversed" p2) [e] [] pos2] X.env = (false, eval (.Call (.Name "reversed" p2) [e] [] pos2) X.env) :: starEach [] X.env := by rfl) :
    PE X (.Call (.Name "list" p) [.Call (.Name "reversed" p2) [e] [] pos2] [] pos) (tListRev X.K te) := by
  refine ⟨fun pins s σ H Q I h => ?_⟩
  refine Call_ (ld_blt I hg hm PyProof.Rows.boot_list (PyProof.Rows.callWith_type1 (args_cons (Call_ (ld_blt I hg2 hm2 PyProof.Rows.boot_reversed (PyProof.Rows.callWith_type1 (args_cons (thn (he.run pins s σ H _ I h) fun u s1 ⟨v, H1, I1, r1, q1⟩ => args_nil ?_) hs) hs rfl))) hs2) hs2 rfl))
  obtain ⟨a, xs, ev, hq, q⟩ := q1
  subst ev
  obtain rfl : u = Value.ref a := r1
  obtain ⟨its, rv, p', hz⟩ := I1.list hq
  refine call_reversed_list p'.isList (args_nil ?_)
  have k0 : ∀ b o, s1.heap.get? b = some o → (s1.heap.push (revObj a ((its.toArray.size : Int) - 1))).get? b = some o := fun b o e => Heap.get?_push_of_some _ e
  have I2 : Inv X pins σ H1 { s1 with heap := s1.heap.push (revObj a ((its.toArray.size : Int) - 1)) } := I1.kept (t' := s1.toks) k0
  obtain ⟨f0, f1, f2, f3, f4, f5⟩ := I1.fpOk (H' := H1) (b := s1.heap.objs.size) (Nat.le_refl _) (I1.hok.fresh (Nat.le_refl _))
  have hl := p'.isList
  obtain ⟨ol, hol, _⟩ := id hl
  have hne : a ≠ s1.heap.objs.size := Nat.ne_of_lt (Heap.lt_size hol)
  have hn : its.toArray.size ≤ sizeLine := by rw [List.size_toArray, ← rv.length]; exact hz
  refine call_list_rev (s := { s1 with heap := s1.heap.push (revObj a ((its.toArray.size : Int) - 1)) }) (I1.ok.hd hc) ⟨_, Heap.get?_push_size _ rfl, rfl, rfl⟩ (hl.push _) hne hn fun h' tk acc c hk hS hi => ?_
  have hz2 : (s1.heap.push (revObj a ((its.toArray.size : Int) - 1))).objs.size = s1.heap.objs.size + 1 := Heap.size_push ..
  rw [hz2] at hS
  have I3 := I2.turnedNew (ch := [s1.heap.objs.size]) (t' := tk) (T := s1.heap.objs.size + 1) (ob := .lst xs.reverse) (fun b o hb e => hk b o (fun z => hb (by simp [z])) e) (fun b hb => ?_) (by show (s1.heap.push _).objs.size ≤ _; rw [hz2]; exact Nat.le_refl _)
    (show ObjOk X.prog X.w _ h' _ (.lst xs.reverse) from ⟨by rw [List.length_reverse]; exact hz, acc.toList, c, vals_rev rv hi, by rw [Array.toArray_toList]; exact hS⟩)
  · exact ⟨.ref (s1.heap.objs.size + 1), _, I3, by rw [hz2]; rfl, q _ (I1.hok.fresh (Nat.le_succ _))⟩
  · have e : b = s1.heap.objs.size := by simpa using hb
    rw [e]
    exact ⟨f0, f1, f2, f3, f4, f5⟩
end
end QX
set_option autoImplicit true
set_option Elab.async false
set_option linter.all false
set_option maxRecDepth 100000
set_option maxHeartbeats 4000000
namespace QW
open PySem PySem.Spec PyProof.Rows L2 Evl

/-! ### dicts whose keys are ((x, y), d) -/
abbrev PK := Int × Int × Int
def kk (k : PK) : NestedKey := .tup [.tup [.num k.1, .num k.2.1], .num k.2.2]
def kd (k : PK) : PyData := .tuple [.tuple [.int k.1, .int k.2.1], .int k.2.2]
theorem kk_inj {k l : PK} (h : kk k = kk l) : k = l := by
  obtain ⟨a, b, c⟩ := k; obtain ⟨a', b', c'⟩ := l
  simp only [kk, NestedKey.tup.injEq, List.cons.injEq, NestedKey.num.injEq, and_true] at h
  obtain ⟨⟨rfl, rfl⟩, rfl⟩ := h
  rfl
abbrev NE := PK × Addr × V
def NRel (p : NE) (q : NestedKey × Addr × Value) : Prop := kk p.1 = q.1 ∧ p.2.1 = q.2.1 ∧ RelV p.2.2 q.2.2
def nkO (P : Program) (w : World) (a : Addr) (es : List NE) : HO := .ext fun h => es.length ≤ sizeLine ∧ (a == sysModules) = false ∧ ∃ xs : List (NestedKey × Addr × Value), Paired NRel es xs ∧
  ∃ (o : Obj) (ar : Array DictEntry) (ep : Nat), h.get? a = some o ∧ o.ExactDict ∧ o.data = .dict ar ep ∧ ar.toList = xs.map (entryOfKey (nestedKind P w)) ∧ (xs.map (·.1)).Nodup
def nkGet (es : List NE) (k : PK) : Option V := (es.find? fun e => decide (e.1 = k)).map (·.2.2)
/-- such a dict stands at a, its keys' tuples too -/
def Nk (P : Program) (w : World) (K : PySem.W.Frag) (H : Hp) (a : Addr) (es : List NE) : Prop := Rd H a (nkO P w a es) ∧ ∀ e ∈ es, Dn K H (.ref e.2.1) (kd e.1)
section
variable {X : Cx} {pins : List (Addr × Obj)} {σ : L2.St} {H : Hp} {s : Shared} {a b : Addr} {k : PK} {es : List NE}
theorem nested_is (I : Inv X pins σ H s) (h : Dn X.K H (.ref b) (kd k)) : (nestedKind X.prog X.w).is s.heap (kk k) b := by
  obtain ⟨p, xs, e, ht, hs⟩ := h.tup_eq
  cases e
  obtain ⟨u, v, rfl, h1, h2⟩ := hs.inv2
  obtain ⟨q, ys, rfl, ht2, hs2⟩ := h1.tup_eq
  obtain ⟨u1, u2, rfl, h3, h4⟩ := hs2.inv2
  rw [h3.int_eq, h4.int_eq] at ht2
  rw [h2.int_eq] at ht
  obtain ⟨its, rv, ⟨o, ho, hc, n, hd⟩, _⟩ := I.tuple ht.sq
  obtain ⟨its2, rv2, ⟨o2, ho2, hc2, n2, hd2⟩, _⟩ := I.tuple ht2.sq
  obtain ⟨z1, z2, rfl, r1, r2⟩ := vals2 rv
  obtain ⟨y1, y2, rfl, r3, r4⟩ := vals2 rv2
  obtain rfl : z1 = Value.ref q := r1
  obtain ⟨t2, rfl⟩ := r2
  obtain ⟨t3, rfl⟩ := r3
  obtain ⟨t4, rfl⟩ := r4
  refine ⟨.tup ho hc hd ?_, by simp [kk, NestedKey.depth, NestedKey.depthAll]⟩
  exact .cons (.tup ho2 hc2 hd2 (.cons (.int _ _) (.cons (.int _ _) .nil))) (.cons (.int _ _) .nil)
theorem paired_all {F : NE → NestedKey × Addr × Value → Prop} {G : NestedKey × Addr × Value → Prop} : ∀ {es : List NE} {xs : List (NestedKey × Addr × Value)}, Paired F es xs → (∀ e ∈ es, ∀ x, F e x → G x) → ∀ x ∈ xs, G x
  | _, _, .nil, _, x, hx => nomatch hx
  | e :: es, y :: ys, .cons r t, h, x, hx => by
    rcases List.mem_cons.mp hx with rfl | hx
    · exact h e (by simp) _ r
    · exact paired_all t (fun e he x => h e (by simp [he]) x) x hx
theorem nk_rd (I : Inv X pins σ H s) (h : Nk X.prog X.w X.K H a es) : es.length ≤ sizeLine ∧ (a == sysModules) = false ∧ ∃ xs, Paired NRel es xs ∧ s.heap.DictOfH (nestedKind X.prog X.w) a xs := by
  obtain ⟨⟨z, y, xs, r, o, ar, ep, h1, h2, h3, h4, h5⟩, _⟩ := (show ObjOk X.prog X.w H s.heap a (nkO X.prog X.w a es) from h.1.ok I.hok)
  refine ⟨z, y, xs, r, o, ar, ep, h1, h2, h3, h4, paired_all r fun e he x hx => ?_, h5⟩
  have q := nested_is I (h.2 e he)
  rw [hx.1, hx.2.1] at q
  exact q
theorem nk_at : ∀ {es : List NE} {xs : List (NestedKey × Addr × Value)} (k : PK), Paired NRel es xs → RelO (nkGet es k) ((atKey xs (kk k)).map (·.2))
  | _, _, k, .nil => trivial
  | e :: es, x :: xs, k, .cons r t => by
    have ih := nk_at k t
    unfold nkGet atKey at ih ⊢
    by_cases h : e.1 = k
    · have h2 : x.1 = kk k := by rw [← r.1, h]
      rw [List.find?_cons_of_pos (by simpa using h), List.find?_cons_of_pos (by simpa using h2)]
      exact r.2.2
    · have h2 : ¬ x.1 = kk k := fun z => h (kk_inj (by rw [r.1, z]))
      rw [List.find?_cons_of_neg (by simpa using h), List.find?_cons_of_neg (by simpa using h2)]
      exact ih
theorem nk_ty (I : Inv X pins σ H s) (h : Nk X.prog X.w X.K H a es) : s.TypeIs (.ref a) "dict" := by
  obtain ⟨_, _, xs, _, dd⟩ := nk_rd I h
  exact dd.typeIs
end
def tNGet (P : Program) (w : World) (K : PySem.W.Frag) (td ty : TE) : TE := fun σ H Q => td σ H fun x H1 => ty σ H1 fun y H2 => ∃ (a b : Addr) (es : List NE) (k : PK) (v : V), x = .ref a ∧ y = .ref b ∧ Nk P w K H2 a es ∧ Dn K H2 (.ref b) (kd k) ∧ nkGet es k = some v ∧ Q v H2
def tNIn (P : Program) (w : World) (K : PySem.W.Frag) (ty td : TE) : TE := fun σ H Q => ty σ H fun y H1 => td σ H1 fun x H2 => ∃ (a b : Addr) (es : List NE) (k : PK), x = .ref a ∧ y = .ref b ∧ Nk P w K H2 a es ∧ Dn K H2 (.ref b) (kd k) ∧ Q (.bl (nkGet es k).isSome) H2
def tNNotIn (P : Program) (w : World) (K : PySem.W.Frag) (ty td : TE) : TE := fun σ H Q => ty σ H fun y H1 => td σ H1 fun x H2 => ∃ (a b : Addr) (es : List NE) (k : PK), x = .ref a ∧ y = .ref b ∧ Nk P w K H2 a es ∧ Dn K H2 (.ref b) (kd k) ∧ Q (.bl (!(nkGet es k).isSome)) H2
/-- a new key -/
def sNPut (P : Program) (w : World) (K : PySem.W.Frag) (td ty tv : TE) : TS := fun D σ H => tv σ H fun v H1 => td σ H1 fun x H2 => ty σ H2 fun y H3 => ∃ (a b : Addr) (es : List NE) (k : PK), x = .ref a ∧ y = .ref b ∧ H3 a = some (nkO P w a es) ∧ (∀ e ∈ es, Dn K H3 (.ref e.2.1) (kd e.1)) ∧ Dn K H3 (.ref b) (kd k) ∧
  nkGet es k = none ∧ es.length < 10000000 ∧ D.nx σ (upd H3 a (nkO P w a (es ++ [(k, b, v)])))
def tDNewN (P : Program) (w : World) : TE := fun _ H Q => ∀ p, H p = none → Q (.ref p) (upd H p (nkO P w p []))
theorem room8 {P : Program} {w : World} {n : Nat} {A : Around} (hr : Room n A) : (nestedKind P w).room A.in1 := by
  show A.units + 1 + 8 < cLine
  have := hr.units; omega
section
variable {X : Cx} {o i e value : Expr} {pos pos' tpos : Pos} {td ty tv : TE} {n : Nat}
theorem pe_dnewN : PE X (.Dict [] [] pos) (tDNewN X.prog X.w) := ⟨fun pins s σ H Q I h => by
  have new : ObjOk X.prog X.w (upd H s.heap.objs.size (nkO X.prog X.w s.heap.objs.size [])) (s.heap.push { cls := .type "dict", data := .dict #[] }) s.heap.objs.size (nkO X.prog X.w s.heap.objs.size []) :=
    ⟨⟨Nat.zero_le _, beq_eq_false_iff_ne.mpr (Ne.symm (Nat.ne_of_lt I.big)), [], .nil, _, #[], 0, Heap.get?_push_size _ rfl, ⟨rfl, rfl, rfl⟩, rfl, rfl, List.nodup_nil⟩, ⟨_, Heap.get?_push_size _ rfl⟩,
      fun h1 h2 ⟨z, y, xs, r, o, ar, ep, g1, g2⟩ k => ⟨z, y, xs, r, o, ar, ep, k o g1, g2⟩⟩
  exact wpAny_Dict_empty ⟨.ref s.heap.objs.size, _, I.laid (a := s.heap.objs.size) (t' := s.toks) (fun _ _ q => Heap.get?_push_of_some _ q) (Nat.le_refl _) new, rfl, h _ (I.hok.fresh (Nat.le_refl _))⟩⟩
theorem pe_nget (hr : Room n X.A) (ho : PE X o td) (hi : PE X i ty) (hs : NoSl i) : PE X (.Subscript o i pos) (tNGet X.prog X.w X.K td ty) := by
  refine ⟨fun pins s σ H Q I h => ?_⟩
  refine subD_of PySem.F.slot_dict_getitem.lookup hs (thn (ho.run pins s σ H _ I h) fun u s1 ⟨x, H1, I1, rx, q1⟩ => thn (hi.run pins s1 σ H1 _ I1 q1) fun iv s2 ⟨y, H2, I2, ry, a, b, es, k, v, ex, ey, g, hk, l, q2⟩ => ?_)
  subst ex ey
  obtain rfl : u = Value.ref a := rx
  obtain rfl : iv = Value.ref b := ry
  refine ⟨nk_ty I2 g, ?_⟩
  obtain ⟨z, hd, xs, rel, dd⟩ := nk_rd I2 g
  obtain ⟨w', hw, rw'⟩ := RelO.some_of (v := v) (o := (atKey xs (kk k)).map (·.2)) (by rw [← l]; exact nk_at k rel)
  obtain ⟨p, hp, hp2⟩ := Option.map_eq_some_iff.mp hw
  refine wpAny_getItem_heap (knd := nestedKind X.prog X.w) (room8 hr) (nested_is I2 hk) dd hp ?_
  rw [hp2]
  exact ⟨v, H2, I2.tok _, rw', q2⟩
theorem pc_nin (hr : Room n X.A) (hi : PE X i ty) (ho : PE X o td) : PC X .In i o (tNIn X.prog X.w X.K ty td) := by
  refine ⟨fun pins s σ H Q I h => ?_⟩
  refine thn (hi.run pins s σ H _ I h) fun iv s1 ⟨y, H1, I1, ry, q1⟩ => thn (ho.run pins s1 σ H1 _ I1 q1) fun u s2 ⟨x, H2, I2, rx, a, b, es, k, ex, ey, g, hk, q2⟩ => ?_
  subst ex ey
  obtain rfl : u = Value.ref a := rx
  obtain rfl : iv = Value.ref b := ry
  obtain ⟨z, hd, xs, rel, dd⟩ := nk_rd I2 g
  refine wpAny_in_heap (knd := nestedKind X.prog X.w) (room8 hr) (nested_is I2 hk) hd dd ?_
  have q := (nk_at k rel).isSome_eq
  rw [Option.isSome_map] at q
  rw [← q]
  exact ⟨.bl _, H2, I2.tok _, rfl, q2⟩
theorem pc_nnotin (hr : Room n X.A) (hi : PE X i ty) (ho : PE X o td) : PC X .NotIn i o (tNNotIn X.prog X.w X.K ty td) := by
  refine ⟨fun pins s σ H Q I h => ?_⟩
  refine thn (hi.run pins s σ H _ I h) fun iv s1 ⟨y, H1, I1, ry, q1⟩ => thn (ho.run pins s1 σ H1 _ I1 q1) fun u s2 ⟨x, H2, I2, rx, a, b, es, k, ex, ey, g, hk, q2⟩ => ?_
  subst ex ey
  obtain rfl : u = Value.ref a := rx
  obtain rfl : iv = Value.ref b := ry
  obtain ⟨z, hd, xs, rel, dd⟩ := nk_rd I2 g
  refine wpAny_notIn_heap (knd := nestedKind X.prog X.w) (room8 hr) (nested_is I2 hk) hd dd ?_
  have q := (nk_at k rel).isSome_eq
  rw [Option.isSome_map] at q
  rw [← q]
  exact ⟨.bl _, H2, I2.tok _, rfl, q2⟩
theorem paired_snoc {F : NE → NestedKey × Addr × Value → Prop} {e : NE} {x : NestedKey × Addr × Value} : ∀ {es : List NE} {xs : List (NestedKey × Addr × Value)}, Paired F es xs → F e x → Paired F (es ++ [e]) (xs ++ [x])
  | _, _, .nil, r => .cons r .nil
  | _, _, .cons q t, r => .cons q (paired_snoc t r)
theorem ps_nput (hr : Room n X.A) (ho : PE X o td) (hi : PE X i ty) (hv : PE X value tv) (hs : swapsWith value (some (.Subscript o i pos')) pos.line X.env = pure false) :
    PS X (.Assign [.Subscript o i pos'] value pos) (sNPut X.prog X.w X.K td ty tv) := by
  refine ⟨fun pins s σ H D I h => ?_⟩
  refine wpAny_Assign_Subscript (thn (hv.run pins s σ H _ I h) fun r s1 ⟨v, H1, I1, rv, q1⟩ => thn (ho.run pins s1 σ H1 _ I1 q1) fun u s2 ⟨x, H2, I2, rx, q2⟩ => thn (hi.run pins s2 σ H2 _ I2 q2) fun iv s3 ⟨y, H3, I3, ry, a, b, es, k, ex, ey, g, ge, hk, l, hl, q3⟩ => ?_) hs
  subst ex ey
  obtain rfl : u = Value.ref a := rx
  obtain rfl : iv = Value.ref b := ry
  obtain ⟨z, hd, xs, rel, dd⟩ := nk_rd I3 ⟨.inl g, ge⟩
  have hn : atKey xs (kk k) = none := by
    have q := nk_at k rel
    rw [l] at q
    exact Option.map_eq_none_iff.mp (RelO.none_of q)
  have hz : xs.length ≤ sizeLine := by rw [← Paired.length rel]; exact z
  refine wpAny_setItem_heap (knd := nestedKind X.prog X.w) (hsz := hz) (room8 hr) (nested_is I3 hk) dd fun h' dd' hs => ⟨σ, _, ?_, q3⟩
  rw [storedH_new hn] at dd'
  obtain ⟨q, ar, ep, hq, h2, h3, h4, _, h5⟩ := dd'
  have hz2 : (es ++ [(k, b, v)]).length ≤ sizeLine := by
    rw [List.length_append]; exact Nat.le_trans (show es.length + 1 ≤ 10000000 from hl) (by decide)
  refine d_write I3 (by rw [g]; exact True.intro) hs ⟨q, hq⟩ ⟨⟨hz2, hd, _, paired_snoc rel ⟨rfl, rfl, rv⟩, q, ar, ep, hq, h2, h3, h4, h5⟩, ⟨q, hq⟩, fun h1 h2 ⟨z, y, xs, r, o, ar, ep, g1, g2⟩ k => ⟨z, y, xs, r, o, ar, ep, k o g1, g2⟩⟩
end
/-! ### the keys of a locked one -/
def Itn (P : Program) (w : World) (d : Addr) (o : Obj) (es : List NE) : It :=
  ⟨fun i H => H d = some (.frz o (nkO P w d es)) ∧ i < es.length, fun i H x H' => H' = H ∧ ∃ e, es[i]? = some e ∧ x = .ref e.2.1, fun i H => H d = some (.frz o (nkO P w d es)) ∧ es.length ≤ i⟩
def iNKeys (P : Program) (w : World) (td : TE) : TI := fun σ H R => td σ H fun x H1 => ∃ d o es, x = .ref d ∧ H1 d = some (.frz o (nkO P w d es)) ∧ R (Itn P w d o es) H1
theorem paired_get' {F : NE → NestedKey × Addr × Value → Prop} : ∀ {es : List NE} {xs : List (NestedKey × Addr × Value)} {i : Nat} {e : NE}, Paired F es xs → es[i]? = some e → ∃ x, xs[i]? = some x ∧ F e x
  | _, _, _, _, .nil, h => by simp at h
  | _, _, 0, _, .cons r _, h => by simp at h; subst h; exact ⟨_, rfl, r⟩
  | _, _, i + 1, _, .cons _ t, h => by simpa using paired_get' (i := i) t (by simpa using h)
section
variable {X : Cx} {pins : List (Addr × Obj)} {σ : L2.St} {H : Hp} {s : Shared} {d : Addr} {o : Obj} {es : List NE}
theorem frzN (I : Inv X pins σ H s) (h : H d = some (.frz o (nkO X.prog X.w d es))) : (d == sysModules) = false ∧ s.heap.get? d = some o ∧ o.ExactDict ∧ ∃ (ar : Array DictEntry) (ep : Nat), o.data = .dict ar ep ∧ ar.size = es.length ∧
    ∀ (i : Nat) (e : NE), es[i]? = some e → ∃ en : DictEntry, ar[i]? = some en ∧ en.key = .ref e.2.1 := by
  obtain ⟨hd, ⟨z, hs, xs, pr, o', ar, ep, ho, hx, hdt, he, _⟩, _⟩ := I.hok d _ h
  rw [hd] at ho
  cases ho
  refine ⟨hs, hd, hx, ar, ep, hdt, ?_, fun i e h => ?_⟩
  · have l1 : ar.size = xs.length := size_of_entries he
    have l2 : es.length = xs.length := Paired.length pr
    omega
  · obtain ⟨x, h1, h2⟩ := paired_get' pr h
    have q := entry_at he i
    rw [h1] at q
    exact ⟨_, q, by show Value.ref x.2.1 = _; rw [h2.2.1]⟩
theorem turn_nkeys {P : Program} {w : World} {K : PySem.W.Frag} {tg : Expr} {ar : Array DictEntry} {ep : Nat} (it : Addr) (hod : o.data = .dict ar ep) : Turn P w K tg (Itn P w d o es) [it] it (fun i h => h.IsKeyIter it d i es.length ep) where
  mem := by simp
  obj := fun i h st b hb => by
    have e : b = it := by simpa using hb
    subst e
    obtain ⟨oi, e, c, dd⟩ := st
    exact ⟨oi, e, fun v z => by rw [dd] at z; cases z⟩
  keep := fun i h h' st k => st.at fun oi e => k it (by simp) oi e
  item := by
    intro X hP hw hK hc i pins s σ H E I hf st hg
    subst hP hw hK
    obtain ⟨hd, hi⟩ := hg
    obtain ⟨f0, f1, f2, f3, f4, f5⟩ := hf it (by simp)
    obtain ⟨hs, hgd, hx, es', ep', hdt, hsz, ent⟩ := frzN I hd
    obtain ⟨rfl, rfl⟩ := dict_ep hod hdt
    obtain ⟨e, he⟩ : ∃ p, es[i]? = some p := ⟨es[i], List.getElem?_eq_getElem hi⟩
    obtain ⟨en, hen, hkey⟩ := ent i e he
    refine next_key_item st hgd hdt hsz hen fun h' st' sb => ?_
    have I1 : Inv X pins σ H { s with heap := h' } := I.turned (t' := s.toks) (fun b ob hb e => (sb.2 b hb).trans e) f0 f1 f3 f4 f5
    obtain ⟨oi, e1, c, dd⟩ := id st'
    exact ⟨en.key, rfl, go_of (s := { s with heap := h' }) e1 c dd (by decide) ⟨.ref e.2.1, H, I1, hkey, ⟨rfl, e, he, rfl⟩, st', fun b hb => (hf b hb).1⟩⟩
  done := by
    intro X hP hw hK hc i pins s σ H E I hf st hg
    subst hP hw hK
    obtain ⟨hd, hi⟩ := hg
    obtain ⟨f0, f1, f2, f3, f4, f5⟩ := hf it (by simp)
    obtain ⟨hs, hgd, hx, es', ep', hdt, hsz, ent⟩ := frzN I hd
    obtain ⟨rfl, rfl⟩ := dict_ep hod hdt
    exact next_key_end (I.ok.hd hc) st hgd hdt hsz hi fun h' eb => ⟨rfl, I.turned (t' := s.toks) (fun b ob hb e => eb b ob hb e) f0 f1 f3 f4 f5⟩
  self := fun A i s Q E st h => by
    refine wpAny_pyIter_slot st.typeIs F.slot_dict_keyiterator_iter (wpAny_call_entry F.slot_dict_keyiterator_iter st.typeIs F.entry_dict_keyiterator_iter ?_ (F.args_dict_keyiterator_iter_1 _))
    show wpAny _ _ (ret (.ref it)) _ _ s
    exact wpAny_pure ⟨_, rfl, "dict_keyiterator", _, st.typeIs, F.slot_dict_keyiterator_next.lookup, h⟩
theorem pi_nkeys {tg e : Expr} {td : TE} (he : PE X e td) : PI X tg e (iNKeys X.prog X.w td) := by
  refine ⟨fun pins s σ H R I h => ?_⟩
  refine thn (he.run pins s σ H _ I h) fun u s1 ⟨x, H1, I1, rx, d, o, es, ex, hd, q⟩ => ?_
  subst ex
  obtain rfl : u = Value.ref d := rx
  obtain ⟨hs, hgd, hx, ar, ep, hdt, hsz, ent⟩ := frzN I1 hd
  refine iter_keys hs hgd hx hdt (pi_one (tk := s1.toks) I1 _ (turn_nkeys _ hdt) ⟨_, Heap.get?_push_size _ rfl, rfl, ?_⟩ q)
  rw [hsz] <;> rfl
end
end QW
set_option autoImplicit true
set_option Elab.async false
set_option linter.all false
set_option maxRecDepth 100000
set_option maxHeartbeats 4000000
namespace QW
open PySem PySem.Spec PyProof.Rows L2 Evl PySem.W

section
variable {X : Cx} {pins : List (Addr × Obj)} {σ : L2.St} {H : Hp} {s : Shared}
mutual
theorem Dn.reads (I : Inv X pins σ H s) : ∀ {v : V} {d : PyData}, Dn X.K H v d → ∀ {u : Value}, RelV v u → Reads s.heap u d []
  | _, _, .non, u, r => by obtain rfl : u = .none := r; exact .none
  | _, _, .bl b, u, r => by obtain rfl : u = .bool b := r; exact .bool b
  | _, _, .int i, u, r => by obtain ⟨t, rfl⟩ := (show ∃ t, u = .int i t from r); exact .int i t
  | _, _, .str x, u, r => by obtain ⟨t, rfl⟩ := (show ∃ t, u = .str x t from r); exact .str x t
  | _, _, .tup (a := a) ht hs, u, r => by
    obtain rfl : u = .ref a := r
    obtain ⟨its, rv, ⟨o, ho, hc, n, hd⟩, _⟩ := I.tuple ht.sq
    exact .tuple ho hc hd (DnAll.reads I hs (by simpa using rv))
theorem DnAll.reads (I : Inv X pins σ H s) : ∀ {vs : List V} {ds : List PyData}, DnAll X.K H vs ds → ∀ {us : List Value}, Vals vs us → ReadsAll s.heap us ds []
  | _, _, .nil, _, .nil => .nil
  | _, _, .cons h hs, _, .cons r rs => .cons (as := []) (bs := []) (Dn.reads I h r) (DnAll.reads I hs rs)
end
theorem reads_each {h : Heap} : ∀ {us : List Value} {ds : List PyData} {as : List Addr}, ReadsAll h us ds as → EachIs (fun v k => ∃ as, Reads h v k as) us ds
  | _, _, _, .nil => .nil
  | _, _, _, .cons a b => .cons ⟨_, a⟩ (reads_each b)
/-- a def called from a built-in: what stands untouched -/
theorem call_key {A' : Around} {k : Nat} {f : Addr} {fd : FuncData} {ps : List Str} {sp : Sp} {us : List Value} {vs : List V} {Q : VK} {R : Value → Shared → Prop} {E : Value → Shared → Prop}
    (F : FnOk X.prog X.w X.K X.mg X.base CX0 k f fd ps sp) (hb : Binds X.K fd ps []) (hr : Room k A') (hf : A'.frames = X.A.frames) (I : Inv X pins σ H s) (r : Vals vs us) (h : sp vs H Q E0)
    (hR : ∀ v u H' s', Inv X pins σ H' s' → RelV v u → Q v H' → (∀ b o, s.heap.get? b = some o → FpOk X pins H b → s'.heap.get? b = some o ∧ FpOk X pins H' b) → R u s') :
    wpAny (model X.prog X.w) A' (call (.ref f) us) R E s := by
  have hl : (us ++ []).length = ps.length := by rw [List.append_nil, ← r.length]; exact F.len _ _ _ _ h
  have e0 := I.env0
  have hbd := hb s us I.kIn hl
  rw [List.append_nil] at hbd
  refine wpAny_call (codeAny_mono (F.run A' X.stack s H ⟨us, []⟩ us vs Q E0 hr ⟨by rw [hf]; exact e0.frames, e0.mod, e0.bs, e0.bsz, e0.funs, e0.frf, e0.hok, e0.bare⟩ hbd r h) fun r s' hq => ?_)
  cases r with
  | error e => exact False.elim hq
  | ok fl =>
    cases fl with
    | ret u =>
      obtain ⟨v, H', os, bare, un, hok, rv, q⟩ := hq
      obtain ⟨v2, H2, I2, _, e1, e2⟩ := I.after (Q := fun v2 H2 => v2 = v ∧ H2 = H') ⟨v, H', os, bare, un, hok, rv, rfl, rfl⟩
      rw [e2] at I2
      refine hR v u H' s' I2 rv q fun b o e f => ?_
      have hs : b ∉ frs X.stack := fun z => by
        rcases I.ok.stk with e3 | ⟨e3, e4⟩
        · rw [e3] at z; exact f.2.2.1 z
        · rw [e3] at z
          unfold frs at z
          rw [List.filterMap_cons, e4] at z
          rcases List.mem_cons.mp z with z | z
          · exact f.2.1 z
          · exact f.2.2.1 z
      exact ⟨un.keep b o e f.1 hs (by simp), un.free b o e f.1 (by simp), f.2⟩
    | next => exact False.elim hq
    | brk => exact False.elim hq
    | cont => exact False.elim hq
/-- its promise at one value: the data d -/
def KeyS (K : PySem.W.Frag) (sp : Sp) (H0 : Hp) (v : V) (d : PyData) : Prop := ∀ H', Ex H0 H' → ∀ Q : VK, (∀ v' H'', Ex H' H'' → Dn K H'' v' d → Q v' H'') → sp [v] H' Q E0
theorem keyJ_rest {A' : Around} {k : Nat} {f : Addr} {fd : FuncData} {ps : List Str} {sp : Sp} {H0 : Hp} {a kS : Addr} {vs : List Value} {xs : List V} {ds : List PyData} {e1 : Nat} {P : PySem.Fin → Shared → Prop} {E : Value → Shared → Prop}
    (F : FnOk X.prog X.w X.K X.mg X.base CX0 k f fd ps sp) (hb : Binds X.K fd ps []) (hr : Room k A') (hf : A'.frames = X.A.frames)
    (e0 : Ex H0 H) (I : Inv X pins σ H s) (fa : FpOk X pins H a) (fk : FpOk X pins H kS) (hka : kS ≠ a) (nk : s.heap.get? kS = some (seqObj "list" #[] 0)) (na : s.heap.get? a = some (seqObj "list" #[] e1))
    (hv : Vals xs vs) (hl : ds.length = vs.length) (hZ : vs.length ≤ sizeLine) (hal : AllAlike ds) (hsk : Sortable ds) (hu : ∀ d, d ∈ ds → A'.units + d.depth < cLine)
    (hsp : ∀ (i : Nat) v d, xs[i]? = some v → ds[i]? = some d → KeyS X.K sp H0 v d)
    (h : ∀ s' H' out c, Ex H0 H' → Inv X pins σ H' s' → FpOk X pins H' a → s'.heap.get? a = some (seqObj "list" (List.toArray out) c) → KeyedOut false ds vs out → P (.done (.ret .none)) s') :
    wpAny (model X.prog X.w) A' (ksk_rest a (.ref f) false vs.toArray e1 (.ref kS)) P E s := by
  unfold ksk_rest
  refine wpAny_bind (wpAny_rule ?_)
  first
    | rw [List.forIn_toArray]
    | (rw [← Array.forIn_toList]; simp only [List.toList_toArray])
    | rw [← Array.forIn_toList]
  refine wpAny_bind (ksk_fold (fun i s' => ∃ (H' : Hp) (kA : Array Value) (e : Nat) (ws : List V), Ex H0 H' ∧ Inv X pins σ H' s' ∧ FpOk X pins H' a ∧ FpOk X pins H' kS ∧ s'.heap.get? kS = some (seqObj "list" kA e) ∧ s'.heap.get? a = some (seqObj "list" #[] e1) ∧ Vals ws kA.toList ∧ DnAll X.K H' ws (ds.take i)) vs 0 s
    ⟨H, #[], 0, [], e0, I, fa, fk, nk, na, .nil, by rw [List.take_zero]; exact .nil⟩ ?step ?done)
  case step =>
    rintro j x s' hx ⟨H', kA, e, ws, e2, I', fa', fk', nk', na', hw, hd⟩
    simp only [Nat.zero_add] at hd ⊢
    have hj : j < vs.length := (List.getElem?_eq_some_iff.mp hx).1
    obtain ⟨d, hdj⟩ : ∃ d, ds[j]? = some d := ⟨_, List.getElem?_eq_getElem (by omega)⟩
    obtain ⟨v, hvj⟩ : ∃ v, xs[j]? = some v := ⟨_, List.getElem?_eq_getElem (by rw [hv.length]; exact hj)⟩
    obtain ⟨x', hx', rx⟩ := hv.get hvj
    rw [hx] at hx'; cases hx'
    have hz : kA.size ≤ vs.length := by
      have h1 := hd.len
      rw [hw.length, Array.length_toList, List.length_take] at h1
      omega
    refine wpAny_bind (wpAny_attempt (call_key F hb hr hf I' (.cons rx .nil) (hsp j v d hvj hdj H' e2 (fun v' H'' => Ex H' H'' ∧ Dn X.K H'' v' d) fun v' H'' a b => ⟨a, b⟩) fun v' u H'' s'' I'' ru q keep => ?_))
    obtain ⟨e3, dv⟩ := q
    obtain ⟨nk2, fk2⟩ := keep _ _ nk' fk'
    obtain ⟨na2, fa2⟩ := keep _ _ na' fa'
    have ek : ds.take (j + 1) = ds.take j ++ [d] := by rw [List.take_add_one, hdj]; simp
    try dsimp only
    have s1 := Heap.SameBut.update s''.heap kS (Obj.mapSeq (·.push u))
    obtain ⟨c2, hc2⟩ : ∃ c2, (s''.heap.update kS (Obj.mapSeq (·.push u))).get? kS = some (seqObj "list" (kA.push u) c2) := ⟨_, get?_update_seq nk2 (·.push u)⟩
    refine wpAny_bind (listUpdate_at nk2 rfl ?_ (Nat.le_trans hz hZ) (Nat.le_trans (Nat.le_of_eq (Array.size_push ..)) (Nat.succ_le_succ (Nat.le_trans hz hZ))))
    refine wpAny_pure ⟨rfl, H'', kA.push u, c2, ws ++ [v'], e2.trans e3, ?_, fa2, fk2, hc2, (s1.2 a hka.symm).trans na2, ?_, ?_⟩
    · exact I''.turned (t' := s''.toks) (fun b o hb e => (s1.2 b hb).trans e) fk2.1 fk2.2.1 fk2.2.2.2.1 fk2.2.2.2.2.1 fk2.2.2.2.2.2
    · rw [Array.toList_push]
      exact hw.append (.cons ru .nil)
    · rw [ek]
      exact (hd.ex e3).snoc dv
  case done =>
    rintro s' ⟨H', kA, e, ws, e2, I', fa', fk', nk', na', hw, hd⟩
    have e3 : ds.take (0 + vs.length) = ds := List.take_of_length_le (by omega)
    rw [e3] at hd
    have hsz : kA.size = vs.length := by
      have h1 := hd.len
      rw [hw.length, Array.length_toList] at h1
      omega
    have hk' := reads_each (hd.reads I' hw)
    obtain ⟨G, g1, g2⟩ := restrict s'.heap fun b => decide (b ≠ kS)
    have gk : ∀ b o, b ≠ kS → s'.heap.get? b = some o → G.get? b = some o := fun b o hb e => by
      rw [g1 b (decide_eq_true hb)]
      exact e
    try dsimp only
    refine wpAny_bind (listItems_at nk' rfl ?_)
    refine keyH_end (κ := dataKind s'.heap ds) (h₁ := G) (fun b o hb e => ?_) ?_ nk' na' hka (SortsAt.data hk' hal hsk hu) hsz hZ fun h3 tk3 c k3 n3 => h _ H' _ c e2 ?_ fa' n3 ⟨s'.heap, kA.toList, hal, rfl, hk'⟩
    · by_cases hbk : b = kS
      · rw [hbk, g2 kS (by simp)] at e; cases e
      · rw [g1 b (decide_eq_true hbk)] at e; exact e
    · exact g2 kS (by simp)
    · refine I'.turnedL (ch := [a, kS]) (t' := tk3) (fun b o hb e => k3 b o (fun z => hb (by simp [z])) (gk b o (fun z => hb (by simp [z])) e)) fun b hb => ?_
      simp only [List.mem_cons, List.not_mem_nil, or_false] at hb
      rcases hb with rfl | rfl
      · exact fa'
      · exact fk'
end
end QW
set_option autoImplicit true
set_option Elab.async false
set_option linter.all false
set_option maxRecDepth 100000
set_option maxHeartbeats 4000000
namespace QW
open PySem PySem.Spec PyProof.Rows L2 Evl PySem.W

/-! ### sorted(xs, key=f) -/
section
variable {X : Cx} {k : Nat} {f : Addr} {fd : FuncData} {ps : List Str} {sp : Sp}
def rSortedF (K : PySem.W.Frag) (f : Addr) (sp : Sp) : List V → List V → Hp → VK → Prop := fun vs zs H Q => ∃ (a : Addr) (xs : List V) (ds : List PyData), vs = [.ref a] ∧ zs = [.ref f] ∧ SqL K H a xs ∧ ds.length = xs.length ∧ AllAlike ds ∧ Sortable ds ∧ (∀ d ∈ ds, d.depth ≤ 8) ∧
  (∀ (i : Nat) v d, xs[i]? = some v → ds[i]? = some d → KeyS K sp H v d) ∧ ∀ p H', H p = none → H' p = none → Ex H H' → Q (.ref p) (upd H' p (.lst (((xs.zip ds).mergeSort (dataLe false (·.2))).map (·.1))))
theorem each_zip {us : List Value} {xs : List V} {ds : List PyData} (hv : Vals xs us) (hl : ds.length = xs.length) : EachIs (fun (u : Value) (b : V × PyData) => RelV b.1 u) us (xs.zip ds) := by
  induction hv generalizing ds with
  | nil => exact .nil
  | cons r rs ih =>
    cases ds with
    | nil => simp at hl
    | cons d ds => exact .cons r (ih (by simpa using hl))
theorem each_vals {us : List Value} {bs : List (V × PyData)} (h : EachIs (fun (u : Value) (b : V × PyData) => RelV b.1 u) us bs) : Vals (bs.map (·.1)) us := by
  induction h with
  | nil => exact .nil
  | cons r rs ih => exact .cons r ih
theorem zip_snd {xs : List V} {ds : List PyData} (hl : ds.length = xs.length) : (xs.zip ds).map (·.2) = ds := by
  rw [List.map_snd_zip]; omega
theorem cr_sortedF (F : FnOk X.prog X.w X.K X.mg X.base CX0 k f fd ps sp) (hb : Binds X.K fd ps []) (hr : Room (k + 2) X.A) : CallRK X (.builtin "sorted") [Str.ofString "key"] (rSortedF X.K f sp) := by
  intro pins s σ H vs zs us ws Q I r rz h
  obtain ⟨a, xs, ds, rfl, rfl, hs, hdl, hal, hsk, hdp, hsp, q⟩ := h
  obtain rfl := Vals.ref1 r
  obtain rfl := Vals.ref1 rz
  obtain ⟨its, rv, hl, hz⟩ := I.list hs
  have hz' : its.length ≤ sizeLine := by rw [← rv.length]; exact hz
  show wpAny _ _ (call (.builtin "sorted") [.ref a] [(Str.ofString "key", .ref f)]) _ _ _
  refine sorted_of_sort hl.isList hz' (ksk_s1 _ _) (fun _ => ksk_l1 _ _) fun E' => ?_
  rw [show Builtin.«list.sort» ⟨[.ref (s.heap.objs.size + 1)], [(Str.ofString "key", .ref f)]⟩ = ksk_tree (s.heap.objs.size + 1) (.ref f) false from ksk_t1 _ _]
  have ho := copyHeap_at s.heap its
  have hlt : s.heap.objs.size + 1 < (copyHeap s.heap its).objs.size := Heap.lt_size ho
  obtain ⟨e1, ho1⟩ : ∃ e1, ((copyHeap s.heap its).update (s.heap.objs.size + 1) (Obj.mapSeq fun _ => (#[] : Array Value))).get? (s.heap.objs.size + 1) = some (seqObj "list" #[] e1) := ⟨_, get?_update_seq ho fun _ => #[]⟩
  have hkS : (((copyHeap s.heap its).update (s.heap.objs.size + 1) (Obj.mapSeq fun _ => (#[] : Array Value))).push (seqObj "tuple" its.toArray 0)).objs.size = (copyHeap s.heap its).objs.size + 1 := by rw [size_push', Heap.size_update]
  obtain ⟨kS, hkS0⟩ : ∃ kS, kS = (((copyHeap s.heap its).update (s.heap.objs.size + 1) (Obj.mapSeq fun _ => (#[] : Array Value))).push (seqObj "tuple" its.toArray 0)).objs.size := ⟨_, rfl⟩
  have hk1 : s.heap.objs.size ≤ kS := by rw [hkS0, hkS]; omega
  have hk2 : kS ≠ s.heap.objs.size + 1 := by rw [hkS0, hkS]; omega
  unfold ksk_tree
  refine wpAny_bind (listItems_at ho rfl ?_)
  refine wpAny_bind (listUpdate_at ho rfl ?_ (by rw [List.size_toArray]; exact hz') (Nat.zero_le _))
  refine wpAny_bind (seqEpoch_at ho1 rfl ?_)
  refine wpAny_bind (wpAny_newTuple ?_ (by show its.length ≤ _; exact hz'))
  refine wpAny_bind (wpAny_newList ?_ (Nat.zero_le _))
  refine wpAny_holding ?_
  rw [← hkS0]
  have keep : ∀ b o, s.heap.get? b = some o → ((((copyHeap s.heap its).update (s.heap.objs.size + 1) (Obj.mapSeq fun _ => (#[] : Array Value))).push (seqObj "tuple" its.toArray 0)).push (seqObj "list" #[] 0)).get? b = some o := fun b o e =>
    Heap.get?_push_of_some _ (Heap.get?_push_of_some _ ((Heap.get?_update_other _ _ (Nat.ne_of_gt (Nat.lt_succ_of_lt (Heap.lt_size e)))).trans (copyHeap_old e)))
  have fr : ∀ b, s.heap.objs.size ≤ b → FpOk X pins H b := fun b hb => I.fpOk hb (I.hok.fresh hb)
  have un := hr.un
  refine keyJ_rest (H0 := H) (kS := kS) (A' := X.A.in1.in1) (s := { s with heap := _ }) F hb ((hr.in1).in1) rfl (Ex.refl H)
    (I.kept (t' := s.toks) keep) (fr _ (Nat.le_succ _)) (fr _ hk1) hk2 (by rw [hkS0]; exact Heap.get?_push_size _ rfl) (Heap.get?_push_of_some _ (Heap.get?_push_of_some _ ho1)) rv (by rw [hdl, rv.length]) hz' hal hsk
    (fun d hd => by have := hdp d hd; show X.A.units + 1 + 1 + d.depth < cLine; omega) hsp fun s' H' out c ex I' fa hD ko => ⟨rfl, ?_⟩
  have ez := zip_snd hdl
  rw [← ez] at ko
  have eo := keyedOut_each (fun b : V × PyData => b.2) ko (each_zip rv hdl)
  have vo := each_vals eo
  refine ⟨.ref (s.heap.objs.size + 1), _, I'.take (h' := s'.heap) (t' := s'.toks) (o := .lst (((xs.zip ds).mergeSort (dataLe false (·.2))).map (·.1))) (fun b o _ e => e) fa ⟨?_, out, c, vo, hD⟩, rfl, q _ H' (I.hok.fresh (Nat.le_succ _)) fa.1 ex⟩
  rw [List.length_map, List.length_mergeSort, List.length_zip, hdl, Nat.min_self]
  exact hz
end

/-! ### min(xs, key=f) -/
structure KRun (prog : Program) (w : World) (A : Around) (q : Addr) (S : Addr) (wr : List Addr) (G : Array GenState → Array GenState → Prop) (n : Nat) (P : Nat → Value → Prop) (St : Nat → Shared → Prop) (J : List (Nat × Value) → Shared → Prop) (bt : Nat → Nat → Bool) : Prop where
  keep : ∀ l s s', J l s → Moved (S :: wr) G s s' → J l s'
  sub : ∀ l l' s, J l s → (∀ x ∈ l', x ∈ l) → J l' s
  turn : ∀ l i v (s : Shared) (o : Obj) (Q : Value → Shared → Prop) (E : Value → Shared → Prop), i < n → P i v → J l s → St (i + 1) s → s.heap.get? S = some o →
    (∀ k s', J ((i, k) :: l) s' → St (i + 1) s' → s'.heap.get? S = some o → Q k s') → wpAny (model prog w) A (call (.ref q) [v]) Q E s
  cmp : ∀ i j ki kj l (s : Shared) (Q : Value → Shared → Prop) (E : Value → Shared → Prop), J l s → (i, ki) ∈ l → (j, kj) ∈ l → Q (.bool (bt i j)) s → wpAny (model prog w) A (richCompare .Lt ki kj) Q E s
section
variable {prog : Program} {w : World} {A : Around} {R : Result → Shared → Prop} {I q : Addr} {fp wr : List Addr} {G : Array GenState → Array GenState → Prop} {n : Nat} {P : Nat → Value → Prop} {St : Nat → Shared → Prop} {J : List (Nat × Value) → Shared → Prop} {bt : Nat → Nat → Bool}
theorem min_loopJ (W : WalksS prog w A.in1 I fp wr G n P St) (S : Addr) (hSf : S ∉ fp) (K : KRun prog w A.in1 q S wr G n P St J bt) (kw : List (Str × Value)) :
    ∀ (k j : Nat) (s : Shared) (vb kb : Value) (c : Nat), n - (j + 1) = k → j + 1 ≤ n → J [(argBest bt j, kb)] s → St (j + 1) s → P (argBest bt j) vb →
    s.heap.get? S = some { cls := .type "list", dict := none, data := .seq #[vb, kb] c, slots := #[] } →
    (∀ v s', P (argBest bt (n - 1)) v → J [] s' → R (.ok (.ret v)) s') → codeAny (model prog w) A (.builtin "min.loop" ⟨[.ref I, (.ref q), .ref S], kw⟩) R s := by
  have hSw : S ∉ wr := fun h => hSf (W.sub _ h)
  have hsub : ∀ b ∈ wr, b ∈ S :: wr := fun b hb => List.mem_cons_of_mem _ hb
  have hname : (toString "min" ++ toString ".loop" : String) = "min.loop" := by decide
  have notS : ∀ {b : Addr}, b ∉ S :: wr → S ≠ b := fun hb h => hb (by rw [h]; exact List.mem_cons_self)
  intro k
  induction k with
  | zero =>
    intro j s vb kb c hk hj hJ hst hPb hS hR
    have hin : j + 1 = n := by omega
    refine codeAny_builtin F.entry_min_loop ?_
    rw [Around.under_plainId F.plain_min_loop _]
    show wpAny _ A.in1 (seqItems? (.ref S) >>= _) _ _ s
    refine wpAny_bind (wpAny_seqItems hS rfl ?_)
    show wpAny _ A.in1 (tryCatch (pyNext (.ref I)) _ >>= _) _ _ s
    refine wpAny_bind (wpAny_tryCatch (W.done s _ _ (hin ▸ hst) fun s' hm => ?_))
    have hS' := hm.heap S _ hSw hS
    show wpAny _ A.in1 (updateSeq S (fun _ => #[]) >>= _) _ _ _
    refine wpAny_bind ?_
    refine wpAny_updateSeq hS' rfl (wpAny_bind (wpAny_letGo (wpAny_pure ?_)))
    exact hR vb _ (by rw [← hin]; exact hPb) (K.keep _ _ _ (K.sub _ _ _ hJ (fun x h => nomatch h)) ((hm.mono hsub).then_heap (tk := s'.toks) (Nat.le_refl _) fun b o hb e => (Heap.get?_update_other _ _ (notS hb)).trans e))
  | succ k ih =>
    intro j s vb kb c hk hj hJ hst hPb hS hR
    have hlt : j + 1 < n := by omega
    refine codeAny_builtin F.entry_min_loop ?_
    rw [Around.under_plainId F.plain_min_loop _]
    show wpAny _ A.in1 (seqItems? (.ref S) >>= _) _ _ s
    refine wpAny_bind (wpAny_seqItems hS rfl ?_)
    show wpAny _ A.in1 (tryCatch (pyNext (.ref I)) _ >>= _) _ _ s
    refine wpAny_bind (wpAny_tryCatch (W.item (j + 1) s _ _ hlt hst fun v s' hP hst' hm => ?_))
    have hS' := hm.heap S _ hSw hS
    have hJ' := K.keep _ _ _ hJ (hm.mono hsub)
    show wpAny _ A.in1 (tryCatch (holding [v] (call (.ref q) [v])) _ >>= _) _ _ _
    refine wpAny_bind (wpAny_tryCatch (wpAny_holding (K.turn _ (j + 1) v s' _ _ _ hlt hP hJ' hst' hS' fun kx s'' hJ2 hst2 hS2 => ?_)))
    show wpAny _ A.in1 (tryCatch (holding [v, kx] (richCompare .Lt kx kb >>= _)) _ >>= _) _ _ _
    refine wpAny_bind (wpAny_tryCatch (wpAny_holding (wpAny_bind (K.cmp (j + 1) (argBest bt j) kx kb _ s'' _ _ hJ2 (by simp) (by simp) ?_))))
    refine wpAny_bind (wpAny_holding (wpAny_truthy_bool ?_))
    refine wpAny_bind (wpAny_letGo (wpAny_pure ?_))
    cases hb : bt (j + 1) (argBest bt j) with
    | true =>
      simp only [if_true]
      refine wpAny_bind ?_
      refine wpAny_updateSeq hS2 rfl (wpAny_bind (wpAny_letGo ?_))
      rw [hname]
      have hm2 : Moved (S :: wr) G s'' { s'' with heap := s''.heap.update S (Obj.mapSeq fun _ => #[v, kx]), toks := s''.toks } := (Moved.refl W.grefl).then_heap (tk := s''.toks) (Nat.le_refl _) fun b o hb e => (Heap.get?_update_other _ _ (notS hb)).trans e
      refine wpAny_pure ⟨plainId_quiet F.plain_min_loop _, ih (j + 1) _ v kx _ (by omega) hlt (by simp only [argBest, hb, if_true]; exact K.keep _ _ _ (K.sub _ _ _ hJ2 (fun x h => by simp at h; simp [h])) hm2) (W.frame _ s'' _ s''.toks hst2 (Nat.le_refl _) fun b hbf o e => ?_) (by simp only [argBest, hb, if_true]; exact hP) (Heap.get?_update_self _ hS2 rfl) hR⟩
      exact (Heap.get?_update_other _ _ (fun h : S = b => hSf (by rw [h]; exact hbf))).trans e
    | false =>
      simp only [Bool.false_eq_true, if_false]
      refine wpAny_bind (wpAny_letGo ?_)
      rw [hname]
      exact wpAny_pure ⟨plainId_quiet F.plain_min_loop _, ih (j + 1) _ vb kb c (by omega) hlt (by simp only [argBest, hb, Bool.false_eq_true, if_false]; exact K.sub _ _ _ hJ2 (fun x h => by simp at h; simp [h])) hst2 (by simp only [argBest, hb, Bool.false_eq_true, if_false]; exact hPb) hS2 hR⟩
theorem min_firstJ (W : WalksS prog w A.in1 I fp wr G n P St) (S : Addr) (hSf : S ∉ fp) (K : KRun prog w A.in1 q S wr G n P St J bt) (kw : List (Str × Value)) (hn : 0 < n) {s : Shared} {c : Nat} (hJ : J [] s) (hst : St 0 s)
    (hS : s.heap.get? S = some { cls := .type "list", dict := none, data := .seq #[] c, slots := #[] })
    (hR : ∀ v s', P (argBest bt (n - 1)) v → J [] s' → R (.ok (.ret v)) s') : codeAny (model prog w) A (.builtin "min.loop" ⟨[.ref I, (.ref q), .ref S], kw⟩) R s := by
  have hSw : S ∉ wr := fun h => hSf (W.sub _ h)
  have hsub : ∀ b ∈ wr, b ∈ S :: wr := fun b hb => List.mem_cons_of_mem _ hb
  have hname : (toString "min" ++ toString ".loop" : String) = "min.loop" := by decide
  have notS : ∀ {b : Addr}, b ∉ S :: wr → S ≠ b := fun hb h => hb (by rw [h]; exact List.mem_cons_self)
  refine codeAny_builtin F.entry_min_loop ?_
  rw [Around.under_plainId F.plain_min_loop _]
  show wpAny _ A.in1 (seqItems? (.ref S) >>= _) _ _ s
  refine wpAny_bind (wpAny_seqItems hS rfl ?_)
  show wpAny _ A.in1 (tryCatch (pyNext (.ref I)) _ >>= _) _ _ s
  refine wpAny_bind (wpAny_tryCatch (W.item 0 s _ _ hn hst fun v s' hP hst' hm => ?_))
  have hS' := hm.heap S _ hSw hS
  have hJ' := K.keep _ _ _ hJ (hm.mono hsub)
  show wpAny _ A.in1 (tryCatch (holding [v] (call (.ref q) [v])) _ >>= _) _ _ _
  refine wpAny_bind (wpAny_tryCatch (wpAny_holding (K.turn _ 0 v s' _ _ _ hn hP hJ' hst' hS' fun kx s'' hJ2 hst2 hS2 => ?_)))
  show wpAny _ A.in1 (updateSeq S (fun _ => #[v, kx]) >>= _) _ _ _
  refine wpAny_bind ?_
  refine wpAny_updateSeq hS2 rfl ?_
  rw [hname]
  have hm2 : Moved (S :: wr) G s'' { s'' with heap := s''.heap.update S (Obj.mapSeq fun _ => #[v, kx]), toks := s''.toks } := (Moved.refl W.grefl).then_heap (tk := s''.toks) (Nat.le_refl _) fun b o hb e => (Heap.get?_update_other _ _ (notS hb)).trans e
  refine wpAny_pure ⟨plainId_quiet F.plain_min_loop _, min_loopJ W S hSf K kw _ 0 _ v kx _ rfl hn (K.keep _ _ _ hJ2 hm2) (W.frame _ s'' _ s''.toks hst2 (Nat.le_refl _) fun b hbf o e => ?_) hP (Heap.get?_update_self _ hS2 rfl) hR⟩
  exact (Heap.get?_update_other _ _ (fun h : S = b => hSf (by rw [h]; exact hbf))).trans e
theorem call_minJ {E : Value → Shared → Prop} {s : Shared} {x : Value} {q : Addr} {Q : Value → Shared → Prop}
    (h : wpAny (model prog w) A.in1 (pyIter x) (fun it s₂ => ∃ I fp wr G n P St J bt, it = .ref I ∧ WalksS prog w A.in1 I fp wr G n P St ∧ St 0 s₂ ∧ (∀ b ∈ fp, b < s₂.heap.objs.size) ∧ 0 < n ∧ 
      KRun prog w A.in1 q s₂.heap.objs.size wr G n P St J bt ∧ J [] { s₂ with heap := s₂.heap.push { cls := .type "list", data := .seq #[] 0 } } ∧ ∀ v s', P (argBest bt (n - 1)) v → J [] s' → Q v s') E s) :
    wpAny (model prog w) A (call (.builtin "min") [x] [(Str.ofString "key", .ref q)]) Q E s := by
  have hname : (toString "min" ++ toString ".loop" : String) = "min.loop" := by decide
  refine PyProof.Rows.kmk_tree F.kind_min F.plain_min F.entry_min (PyProof.Rows.kmk_min_key _ _) ?_
  show wpAny _ A.in1 (Builtin.Builtins.bindParams "min" ["key", "default"] 0 ⟨[], [(Str.ofString "key", .ref q)]⟩ >>= _) _ _ s
  refine wpAny_bind (wpAny_of_eq (show Builtin.Builtins.bindParams "min" ["key", "default"] 0 ⟨[], [(Str.ofString "key", .ref q)]⟩ = pure [some (.ref q), none] from rfl) ?_)
  refine wpAny_bind (wpAny_pure ?_)
  refine wpAny_bind (wpAny_mono h (fun it s₂ h₂ => ?_) fun _ _ e => e)
  obtain ⟨I, fp, wr, G, n, P, St, J, bt, rfl, W, hst, hfp, hn, K, hJ, hQ⟩ := h₂
  refine wpAny_bind (wpAny_newObj_type ?_)
  have hSf : s₂.heap.objs.size ∉ fp := fun hm => Nat.lt_irrefl _ (hfp _ hm)
  rw [hname]
  have hst' := W.frame 0 s₂ (s₂.heap.push { cls := .type "list", data := .seq #[] 0 }) s₂.toks hst (Nat.le_refl _) fun b _ o e => Heap.get?_push_of_some _ e
  exact wpAny_pure ⟨plainId_quiet F.plain_min_loop _, min_firstJ W s₂.heap.objs.size hSf K _ hn hJ hst' (Heap.get?_push_size _ rfl) hQ⟩
end
end QW
set_option autoImplicit true
set_option Elab.async false
set_option linter.all false
set_option maxRecDepth 100000
set_option maxHeartbeats 4000000
namespace QW
open PySem PySem.Spec PyProof.Rows L2 Evl PySem.W

section
variable {X : Cx} {k : Nat} {f : Addr} {fd : FuncData} {ps : List Str} {sp : Sp}
/-- min(xs, key=f) of a list of things that are objects -/
def rMinF (K : PySem.W.Frag) (f : Addr) (sp : Sp) : List V → List V → Hp → VK → Prop := fun vs zs H Q => ∃ (a : Addr) (xs : List V) (ds : List PyData), vs = [.ref a] ∧ zs = [.ref f] ∧ H a = some (.lst xs) ∧ (∀ x ∈ xs, ∃ p, x = .ref p) ∧ ds.length = xs.length ∧ 0 < xs.length ∧
  (∀ d ∈ ds, ∀ e ∈ ds, alike d e = true) ∧ (∀ d ∈ ds, d ≠ .none ∧ d.depth ≤ 8) ∧ (∀ (i : Nat) v d, xs[i]? = some v → ds[i]? = some d → KeyS K sp H v d) ∧
  ∀ v H', xs[argBest (fun i j => dataLt (ds.getD i .none) (ds.getD j .none)) (xs.length - 1)]? = some v → Ex H H' → Q v H'
theorem vals_refs {xs : List V} {us : List Value} (a : Vals xs us) : (∀ x ∈ xs, ∃ p, x = V.ref p) → ∀ {ws : List Value}, Vals xs ws → us = ws := by
  induction a with
  | nil => intro _ ws b; cases b; rfl
  | @cons x u xs us r rs ih =>
    intro h ws b
    cases b with
    | @cons _ w2 _ ws2 r2 rs2 =>
      obtain ⟨p, hp⟩ := h x (List.mem_cons_self ..)
      subst hp
      have e1 : u = Value.ref p := r
      have e2 : w2 = Value.ref p := r2
      rw [e1, e2, ih (fun x hx => h x (List.mem_cons_of_mem _ hx)) rs2]
theorem cr_minF (F : FnOk X.prog X.w X.K X.mg X.base CX0 k f fd ps sp) (hb : Binds X.K fd ps []) (hr : Room (k + 2) X.A) (hc : X.calm = true) : CallRK X (.builtin "min") [Str.ofString "key"] (rMinF X.K f sp) := by
  intro pins s σ H vs zs us ws Q I r rz h
  obtain ⟨a, xs, ds, rfl, rfl, hs, href, hdl, h0, hal, hdp, hsp, q⟩ := h
  obtain rfl := Vals.ref1 r
  obtain rfl := Vals.ref1 rz
  obtain ⟨hz, its, n0, rv, hlen0, hl⟩ := I.lstM hs
  have hL : s.heap.IsList a its.toArray := ⟨_, hl, rfl, n0, rfl⟩
  have hlen : its.toArray.size = xs.length := by rw [List.size_toArray, rv.length]
  show wpAny _ _ (call (.builtin "min") [.ref a] [(Str.ofString "key", .ref f)]) _ _ _
  have hh : X.A.handled = none := I.ok.hd hc
  have hra : a < s.heap.objs.size := Heap.lt_size hl
  refine call_minJ (wpAny_pyIter_list hL ?_)
  have un := hr.un
  have hz1 : (s.heap.push { cls := .type "list_iterator", data := .fields #[.ref a, .int 0 0] }).objs.size = s.heap.objs.size + 1 := Heap.size_push ..
  let J : List (Nat × Value) → Shared → Prop := fun l s' => ∃ H', Ex H H' ∧ Inv X pins σ H' s' ∧ FpOk X pins H' s.heap.objs.size ∧ FpOk X pins H' (s.heap.objs.size + 1) ∧ ∀ z ∈ l, ∃ v d, ds[z.1]? = some d ∧ RelV v z.2 ∧ Dn X.K H' v d
  have fr : ∀ b, s.heap.objs.size ≤ b → FpOk X pins H b := fun b hb => I.fpOk hb (I.hok.fresh hb)
  have W := (Walks.list (prog := X.prog) (w := X.w) (A := X.A.in1) hh s.heap.objs.size a (Nat.ne_of_lt hra) its.toArray).toS
  rw [hlen] at W
  refine ⟨s.heap.objs.size, [s.heap.objs.size, a], [s.heap.objs.size], _, xs.length, _, _, J, fun i j => dataLt (ds.getD i .none) (ds.getD j .none), rfl, W,
    ⟨⟨_, Heap.get?_push_size _ rfl, rfl, rfl⟩, hL.push _⟩, fun b hb => ?_, h0, ?_, ?_, fun v s' hv hJ => ?_⟩
  · show b < (s.heap.push _).objs.size
    rw [hz1]
    simp only [List.mem_cons, List.not_mem_nil, or_false] at hb
    rcases hb with rfl | rfl
    · exact Nat.lt_succ_self _
    · exact Nat.lt_succ_of_lt hra
  · show KRun X.prog X.w X.A.in1 f (s.heap.push _).objs.size _ _ _ _ _ _ _
    rw [hz1]
    refine ⟨fun l s1 s2 hJ hm => ?_, fun l l' s1 hJ hl => ?_, fun l i v s1 o Q1 E1 hi hv hJ hst hS hk => ?_, fun i j ki kj l s1 Q1 E1 hJ hi hj hq => ?_⟩
    · obtain ⟨H', e1, I1, f1, f2, hl⟩ := hJ
      have hm' := Moved.eq_with hm
      refine ⟨H', e1, ?_, f1, f2, hl⟩
      rw [hm']
      refine I1.turnedL (ch := [s.heap.objs.size + 1, s.heap.objs.size]) (fun b o hb e => hm.heap b o hb e) fun b hb => ?_
      simp only [List.mem_cons, List.not_mem_nil, or_false] at hb
      rcases hb with rfl | rfl
      · exact f2
      · exact f1
    · obtain ⟨H', e1, I1, f1, f2, hl2⟩ := hJ
      exact ⟨H', e1, I1, f1, f2, fun z hz => hl2 z (hl z hz)⟩
    · obtain ⟨H', e1, I1, f1, f2, hl2⟩ := hJ
      have hv' : its[i]? = some v := by simpa using hv
      obtain ⟨x, hx⟩ : ∃ x, xs[i]? = some x := ⟨_, List.getElem?_eq_getElem hi⟩
      obtain ⟨d, hd⟩ : ∃ d, ds[i]? = some d := ⟨_, List.getElem?_eq_getElem (by omega)⟩
      obtain ⟨u, hu, ru⟩ := rv.get hx
      rw [hv'] at hu; cases hu
      obtain ⟨⟨oi, ho, hoi⟩, _⟩ := hst
      refine call_key F hb (hr.in1.mono (Nat.le_succ _)) rfl I1 (.cons ru .nil) (hsp i x d hx hd H' e1 (fun v' H'' => Ex H' H'' ∧ Dn X.K H'' v' d) fun v' H'' a b => ⟨a, b⟩) fun v' u' H'' s'' I'' ru' q' keep => ?_
      obtain ⟨e2, dv⟩ := q'
      obtain ⟨k1, f1'⟩ := keep _ _ ho f1
      obtain ⟨k2, f2'⟩ := keep _ _ hS f2
      refine hk u' s'' ⟨H'', e1.trans e2, I'', f1', f2', fun z hz => ?_⟩ ⟨⟨oi, k1, hoi⟩, ?_⟩ k2
      · rcases List.mem_cons.mp hz with rfl | hz
        · exact ⟨v', d, hd, ru', dv⟩
        · obtain ⟨v2, d2, g1, g2, g3⟩ := hl2 z hz
          exact ⟨v2, d2, g1, g2, g3.ex e2⟩
      · obtain ⟨_, its2, n2, rv2, _, hl3⟩ := I''.lstM ((e1.trans e2) a _ hs)
        rw [vals_refs rv href rv2]
        exact ⟨_, hl3, rfl, n2, rfl⟩
    · obtain ⟨H', e1, I1, f1, f2, hl2⟩ := hJ
      obtain ⟨v1, d1, g1, g2, g3⟩ := hl2 _ hi
      obtain ⟨v2, d2, g4, g5, g6⟩ := hl2 _ hj
      have m1 := List.mem_of_getElem? g1
      have m2 := List.mem_of_getElem? g4
      simp only [List.getD_eq_getElem?_getD] at hq
      rw [show ds[i]? = some d1 from g1, show ds[j]? = some d2 from g4] at hq
      refine rcLt_alike d1 d2 X.A.in1 s1 ki kj [] [] (g3.reads I1 g2) (g6.reads I1 g5) (hal d1 m1 d2 m2) (hdp d1 m1).1 ?_ _ _ _ _ hq
      have := (hdp d1 m1).2
      show X.A.units + 1 + min d1.depth d2.depth < cLine
      omega
  · exact ⟨H, Ex.refl H, I.kept (t' := s.toks) fun b o e => Heap.get?_push_of_some _ (Heap.get?_push_of_some _ e), fr _ (Nat.le_refl _), fr _ (Nat.le_succ _), fun z hz => nomatch hz⟩
  · obtain ⟨H', e1, I1, f1, f2, _⟩ := hJ
    have hv' : its[argBest (fun i j => dataLt (ds.getD i .none) (ds.getD j .none)) (xs.length - 1)]? = some v := by simpa using hv
    obtain ⟨x, hx⟩ : ∃ x, xs[argBest (fun i j => dataLt (ds.getD i .none) (ds.getD j .none)) (xs.length - 1)]? = some x := by
      have := (List.getElem?_eq_some_iff.mp hv').1
      exact ⟨_, List.getElem?_eq_getElem (by rw [← rv.length] at this; exact this)⟩
    obtain ⟨u, hu, ru⟩ := rv.get hx
    rw [hv'] at hu; cases hu
    exact ⟨x, H', I1, ru, q x H' hx e1⟩
end

/-! ### max of three, '0123'.index(sign), sorted texts -/
section
variable {X : Cx}
theorem call_max3 (hc : X.calm = true) : CallR X (.builtin "max") (fun xs H Q => ∃ i j k : Int, xs = [.int i, .int j, .int k] ∧ Q (.int (max (max i j) k)) H) := by
  intro pins s σ H xs us Q I r h
  obtain ⟨i, j, k, rfl, q⟩ := h
  cases r with
  | cons r1 r =>
  obtain ⟨v, w, rfl, ⟨t', rfl⟩, ⟨t'', rfl⟩⟩ := vals2 r
  obtain ⟨t, rfl⟩ := r1
  refine max_three_ints (I.ok.hd hc) fun h' tk kp => ⟨_, H, I.kept kp, ?_, q⟩
  by_cases h1 : j > i
  · rw [if_pos h1]
    by_cases h2 : k > j
    · rw [if_pos h2]; exact ⟨_, by rw [show max (max i j) k = k by omega]⟩
    · rw [if_neg h2]; exact ⟨_, by rw [show max (max i j) k = j by omega]⟩
  · rw [if_neg h1]
    by_cases h2 : k > i
    · rw [if_pos h2]; exact ⟨_, by rw [show max (max i j) k = k by omega]⟩
    · rw [if_neg h2]; exact ⟨_, by rw [show max (max i j) k = i by omega]⟩
theorem mt_sindex : MtR X "str.index" (fun x xs H Q => ∃ (a b : Str) (n : Nat), x = .str a ∧ xs = [.str b] ∧ Txt.index0 a b = some n ∧ Q (.int n) H) := by
  intro pins s σ H x xs v us Q I rx rs h
  obtain ⟨a, b, n, rfl, rfl, hy, q⟩ := h
  obtain ⟨t, rfl⟩ := rx
  obtain ⟨u0, rfl, r1⟩ := vals1 rs
  obtain ⟨u, rfl⟩ := r1
  cases e : Builtin.Str.occurrences a b 0 a.length 1 with
  | nil => unfold Txt.index0 at hy; rw [e] at hy; cases hy
  | cons k rest =>
    unfold Txt.index0 at hy; rw [e] at hy
    obtain rfl : k = n := by simpa using hy
    exact PySem.SC.index e ⟨.int (k : Nat), H, I.tok _, ⟨_, rfl⟩, q⟩
theorem pe_sindex {o e : Expr} {to te : TE} {apos pos : Pos} (ho : PE X o to) (he : PE X e te) (hs : starEach [e] X.env = [(false, eval e X.env)] := by rfl) (hbase : attributeBase o "index" X.env (eval o X.env) = eval o X.env := by rfl) (hline : (apos.endLine == pos.line) = true := by rfl) :
    PE X (.Call (.Attribute o "index" apos) [e] [] pos) (tM1 (fun x xs H Q => ∃ (a b : Str) (n : Nat), x = .str a ∧ xs = [.str b] ∧ Txt.index0 a b = some n ∧ Q (.int n) H) to te) :=
  pe_m1 F.slot_str_index F.type_str_index mt_sindex ho he hs hbase hline
def strLe (p q : Str) : Bool := decide (p.cps.toList ≤ q.cps.toList)
theorem each_strs {h : Heap} : ∀ {zs : List Str} {us : List Value}, Vals (zs.map V.str) us → EachIs (fun (u : Value) (z : Str) => RelV (.str z) u) us zs ∧ EachIs (fun (u : Value) (z : Str) => ∃ as, Reads h u (.str z) as) us zs
  | [], _, .nil => ⟨.nil, .nil⟩
  | z :: zs, _, .cons r rs => by
    obtain ⟨a, b⟩ := each_strs (h := h) rs
    obtain ⟨t, rfl⟩ := (show ∃ t, _ = Value.str z t from r)
    exact ⟨.cons ⟨t, rfl⟩ a, .cons ⟨[], .str z t⟩ b⟩
theorem strs_each : ∀ {zs : List Str} {us : List Value}, EachIs (fun (u : Value) (z : Str) => RelV (.str z) u) us zs → Vals (zs.map V.str) us
  | _, _, .nil => .nil
  | _, _, .cons r rs => .cons r (strs_each rs)
theorem cr_sortedStr (hu : X.A.units + 64 < cLine) : CallR X (.builtin "sorted") (fun vs H Q => ∃ (a : Addr) (zs : List Str), vs = [.ref a] ∧ SqL X.K H a (zs.map V.str) ∧ ∀ p, H p = none → Q (.ref p) (upd H p (.lst ((zs.mergeSort strLe).map V.str)))) := by
  intro pins s σ H vs us Q I r h
  obtain ⟨a, zs, rfl, hs, q⟩ := h
  obtain ⟨its, rv, hl, hz⟩ := I.list hs
  obtain rfl := Vals.ref1 r
  obtain ⟨e1, e2⟩ := each_strs (h := s.heap) rv
  have hL : zs.length ≤ sizeLine := by rw [List.length_map] at hz; exact hz
  refine sorted_data (enc := fun z : Str => PyData.str z) (R := fun (u : Value) (z : Str) => RelV (.str z) u) hl.isList e1 e2 (AllAlike.of fun _ _ => rfl) (Sortable.others fun _ => ⟨by simp, fun _ => by simp⟩) hL (fun z _ => by
    show X.A.units + 2 + 0 < cLine
    omega) fun out ho he => ?_
  rw [dataLe_str (fun z : Str => z)] at he
  obtain ⟨e, hD⟩ := sortedAll_at s.heap its (List.toArray out)
  have hlen : ((zs.mergeSort strLe).map V.str).length ≤ sizeLine := by rw [List.length_map, List.length_mergeSort]; exact hL
  exact ⟨.ref (s.heap.objs.size + 1), _, I.laid (t' := s.toks) (fun b o e => sortedAll_old e) (Nat.le_succ _) (show ObjOk X.prog X.w _ _ _ (.lst ((zs.mergeSort strLe).map V.str)) from ⟨hlen, out, e, strs_each he, hD⟩), rfl, q _ (I.hok.fresh (Nat.le_succ _))⟩
end

end QW
set_option autoImplicit true
set_option Elab.async false
set_option linter.all false
set_option maxRecDepth 100000
set_option maxHeartbeats 4000000
namespace QW
open PySem PySem.Spec PyProof.Rows L2 Evl PySem.W

/-! ### enumerate of a tuple -/
theorem meets_enum1 {v : Value} {o : Obj} {H : Heap → Prop} (B : Begins v o H) : Meets (Builtin.«enumerate.__new__» ⟨[.type "enumerate", v], []⟩) (fun _ R s => H s.heap ∧
      R (.ok (.ret (.ref (s.heap.push o).objs.size))) { s with heap := (s.heap.push o).push { cls := .type "enumerate", data := .fields #[.none, .bool false, .ref s.heap.objs.size, rawInt 0, .none, .none] } }) :=
  .of_wp fun prog w A R s h => by
    obtain ⟨hp, g, d, tk, os⟩ := s; obtain ⟨h1, h⟩ := h
    have hsub := sub_enumerate
    have q1 : ∀ {A' : Around} {E : Value → Shared → Prop} {Q : Value → Shared → Prop}, Q (.ref hp.objs.size) ⟨hp.push o, g, d, tk, os⟩ → wpAny (model prog w) A' (pyIter v) Q E ⟨hp, g, d, tk, os⟩ :=
      fun q => B.iter prog w _ _ ⟨hp, g, d, tk, os⟩ _ h1 q
    wp_walk using q1
    refine wpAny_stack_any fun st => wpAny_pure ?_
    split
    · rename_i c _ _ _ _ _
      cases (c == Value.type "enumerate")
      · wp_walk using q1
        exact ⟨_, rfl, h⟩
      · wp_walk using q1
        exact ⟨_, rfl, h⟩
    · wp_walk using q1
      exact ⟨_, rfl, h⟩
section
variable {prog : Program} {w : World} {A : Around} {E : Value → Shared → Prop} {s : Shared}
theorem call_enum1 {v : Value} {o : Obj} {H : Heap → Prop} {Q : Value → Shared → Prop} (B : Begins v o H) (h1 : H s.heap)
    (h : ∀ h', IsEnum h' (s.heap.objs.size + 1) s.heap.objs.size 0 .none → h'.get? s.heap.objs.size = some o → h'.objs.size = s.heap.objs.size + 2 →
      (∀ b o, s.heap.get? b = some o → h'.get? b = some o) → Q (.ref (s.heap.objs.size + 1)) { s with heap := h' }) :
    wpAny (model prog w) A (call (.type "enumerate") [v]) Q E s := by
  refine callType_new F.called_enumerate (by decide) (F.typeCall_enumerate_1 _) (F.newCall_enumerate_1 _) (fun obj => F.args_object_init_2 obj _) F.entry_enumerate_new
    (meets_enum1 B) ⟨h1, ?_⟩
  have hz : (s.heap.push o).objs.size = s.heap.objs.size + 1 := Heap.size_push ..
  show _ ∧ _
  rw [hz]
  have he : IsEnum ((s.heap.push o).push { cls := .type "enumerate", data := .fields #[.none, .bool false, .ref s.heap.objs.size, rawInt 0, .none, .none] }) (s.heap.objs.size + 1) s.heap.objs.size 0 .none := by
    have := Heap.get?_push_size (s.heap.push o) (o := { cls := .type "enumerate", data := .fields #[.none, .bool false, .ref s.heap.objs.size, rawInt 0, .none, .none] }) rfl
    rw [hz] at this; exact this
  refine ⟨⟨_, he, rfl⟩, h _ he (Heap.get?_push_of_some _ (Heap.get?_push_size _ B.free)) (by rw [Heap.size_push, hz]) fun b o x => Heap.get?_push_of_some _ (Heap.get?_push_of_some _ x)⟩
end
/-- the items of the tuple at a, each in a new pair behind its place -/
def Itet (K : PySem.W.Frag) (a : Addr) (n : Nat) : It :=
  ⟨fun i H => i < n ∧ ∃ xs : List V, xs.length = n ∧ SqT K H a xs, fun i H v H' => ∃ T x, v = .ref T ∧ H T = none ∧ H' = upd H T (.tup [.int (i : Nat), x]) ∧ ∀ xs, SqT K H a xs → xs[i]? = some x, fun i H => n ≤ i ∧ ∃ xs : List V, xs.length = n ∧ SqT K H a xs⟩
def iEnumT (K : PySem.W.Frag) (ta : TA) : TI := fun σ H R => ta σ H fun vs H1 => ∃ a xs, vs = [.ref a] ∧ SqT K H1 a xs ∧ R (Itet K a xs.length) H1
theorem turn_enumT {P : Program} {w : World} {K : PySem.W.Frag} {elts : List Expr} {kk : Nat} {tpos : Pos} (a e it : Addr) (n : Nat) :
    Turn P w K (.Tuple elts kk tpos) (Itet K a n) [e, it] e (fun i h => (∃ old, IsEnum h e it ((i : Nat) : Int) old) ∧ h.IsTupleIter it a i ∧ e ≠ it ∧ i ≤ n) where
  mem := by simp
  obj := fun i h st b hb => by
    obtain ⟨⟨old, he⟩, ⟨o, ho, hc, hd⟩, _⟩ := st
    have e' : b = e ∨ b = it := by simpa using hb
    rcases e' with z | z
    · rw [z]; exact ⟨_, he, fun v q => nomatch q⟩
    · rw [z]; exact ⟨o, ho, fun v q => by rw [hd] at q; cases q⟩
  keep := fun i h h' st k => let ⟨⟨old, he⟩, hi, hne, hn⟩ := st; ⟨⟨old, k e (by simp) _ he⟩, hi.at fun o q => k it (by simp) o q, hne, hn⟩
  item := by
    intro X hP hw hK hc i pins s σ H E I hf st hg
    subst hP hw hK
    obtain ⟨⟨old, he⟩, hit, hne, _⟩ := st
    obtain ⟨hin, xs, hlen, hq⟩ := hg
    obtain ⟨its, rv, p, hz⟩ := I.tuple hq
    have hel : e < s.heap.objs.size := Heap.lt_size he
    have hil : it < s.heap.objs.size := by obtain ⟨_, q, _⟩ := hit; exact Heap.lt_size q
    have hal : a < s.heap.objs.size := p.lt
    have hsz : its.toArray.size = n := by rw [List.size_toArray, ← rv.length, hlen]
    have hne2 : a ≠ it := fun z => by
      obtain ⟨o, ho, hc1, hd1⟩ := hit
      obtain ⟨o2, ho2, hc2, _⟩ := p
      rw [z, ho] at ho2; cases ho2
      rw [hc1] at hc2
      exact absurd (Value.type.inj hc2) (by decide)
    have hea : e ≠ a := fun z => by
      obtain ⟨o2, ho2, hc2, _⟩ := p
      have he' : s.heap.get? e = some _ := he
      rw [z, ho2] at he'
      cases he'
      exact absurd (Value.type.inj hc2) (by decide)
    have D := Draws.tuple (prog := X.prog) (w := X.w) (A := X.A.in1) (I.ok.hd hc) it a hne2 its.toArray
    rw [hsz] at D
    refine wpAny_pyNext_enum_itemC D he ⟨hit, p⟩ hin hne (by simp [hne, hea]) fun u h' tk hu ho hit' hT hsz' hk => ?_
    obtain ⟨x, hx⟩ : ∃ x, xs[i]? = some x := ⟨_, List.getElem?_eq_getElem (by omega)⟩
    obtain ⟨u2, hu2, ru⟩ := rv.get hx
    have : u2 = u := by
      have h1 : its[i]? = some u := by simpa using hu
      rw [hu2] at h1; cases h1; rfl
    subst this
    refine ⟨_, rfl, wpAny_letOwnedTupleGo_enum (s := { s with heap := h', toks := tk + 1 }) ho fun h'' he' sb => ?_⟩
    have hT2 : h''.get? s.heap.objs.size = some { cls := .type "tuple", data := .seq #[.int i tk, u2] } := (sb.2 _ (Nat.ne_of_gt hel)).trans hT
    have new : ObjOk X.prog X.w (upd H s.heap.objs.size (.tup [.int (i : Nat), x])) h'' s.heap.objs.size (.tup [.int (i : Nat), x]) :=
      ⟨by show 2 ≤ sizeLine; decide, [.int i tk, u2], .cons ⟨_, rfl⟩ (.cons ru .nil), ⟨_, hT2, rfl, _, rfl⟩⟩
    have I1 : Inv X pins σ (upd H s.heap.objs.size (.tup [.int (i : Nat), x])) { s with heap := h'', toks := tk + 1 } :=
      I.turnedNew (ch := [e, it]) (fun b ob hb q => (sb.2 b (fun z => hb (by simp [z]))).trans (hk b ob (fun z => hb (by simp [z])) (fun z => hb (by simp [z])) q)) hf (Nat.le_refl _) new
    refine ⟨.ref s.heap.objs.size, _, I1, rfl, ⟨_, x, rfl, I.hok.fresh (Nat.le_refl _), rfl, fun ys hy => by rw [I.tuple_inj hy hq]; exact hx⟩, ⟨⟨u2, ?_⟩, hit'.1.at fun o q => (sb.2 it (Ne.symm hne)).trans q, hne, hin⟩, fun b hb => ?_⟩
    · have e1 : ((i + 1 : Nat) : Int) = (i : Int) + 1 := by omega
      rw [e1]; exact he'
    · have hb' : b < s.heap.objs.size := by
        have e' : b = e ∨ b = it := by simpa using hb
        rcases e' with z | z
        · rw [z]; exact hel
        · rw [z]; exact hil
      rw [upd_ne (Nat.ne_of_lt hb')]
      exact (hf b hb).1
  done := by
    intro X hP hw hK hc i pins s σ H E I hf st hg
    subst hP hw hK
    obtain ⟨⟨old, he⟩, hit, hne, hin'⟩ := st
    obtain ⟨hin, xs, hlen, hq⟩ := hg
    obtain ⟨its, rv, p, hz⟩ := I.tuple hq
    obtain ⟨f0, f1, f2, f3, f4, f5⟩ := hf it (by simp)
    have hsz : its.toArray.size = n := by rw [List.size_toArray, ← rv.length, hlen]
    have hi : i = n := by omega
    have hne2 : a ≠ it := fun z => by
      obtain ⟨o, ho, hc1, hd1⟩ := hit
      obtain ⟨o2, ho2, hc2, _⟩ := p
      rw [z, ho] at ho2; cases ho2
      rw [hc1] at hc2
      exact absurd (Value.type.inj hc2) (by decide)
    have D := Draws.tuple (prog := X.prog) (w := X.w) (A := X.A.in1) (I.ok.hd hc) it a hne2 its.toArray
    rw [hsz] at D
    exact wpAny_pyNext_enum_endD D he ⟨hi ▸ hit, p⟩ fun h' eb => ⟨rfl, I.turned (t' := s.toks) (fun b o hb q => eb b o hb q) f0 f1 f3 f4 f5⟩
  self := fun A i s Q E st h => let ⟨⟨_, he⟩, _⟩ := st; wpAny_pyIter_enum he h
theorem pi_enumT {X : Cx} {e : Expr} {ta : TA} {p pos tpos : Pos} {elts : List Expr} {kk : Nat} (hg : Gl X "enumerate") (hm : X.mg "enumerate" = none) (ha : PA X [e] ta) (hs : starEach [e] X.env = [(false, eval e X.env)] := by rfl) :
    PI X (.Tuple elts kk tpos) (.Call (.Name "enumerate" p) [e] [] pos) (iEnumT X.K ta) := by
  refine ⟨fun pins s σ H R I h => ?_⟩
  refine Call_ (ld_blt I hg hm boot_enumerate (PyProof.Rows.callWith_type1 (thn (ha.run pos pins s σ H _ I h) fun us s1 ⟨vs, H1, I1, r1, q1⟩ => ?_) hs rfl))
  obtain ⟨a, xs, ex, hq, q⟩ := q1
  subst ex
  cases r1 with
  | cons r rr =>
    cases rr
    cases r
    obtain ⟨its, rv, p', hz⟩ := I1.tuple hq
    refine call_enum1 (begins_tuple a its.toArray) p' fun h' he hit hsz hk => wpAny_pyIter_enum he ?_
    have I2 : Inv X pins σ H1 { s1 with heap := h' } := I1.kept (t' := s1.toks) hk
    refine ⟨s1.heap.objs.size + 1, [s1.heap.objs.size + 1, s1.heap.objs.size], _, _, H1, rfl, I2, turn_enumT a (s1.heap.objs.size + 1) s1.heap.objs.size xs.length, ⟨⟨.none, he⟩, ⟨_, hit, rfl, rfl⟩, Nat.succ_ne_self _, Nat.zero_le _⟩, fun b hb => ?_, q⟩
    have e' : b = s1.heap.objs.size + 1 ∨ b = s1.heap.objs.size := by simpa using hb
    have hle : s1.heap.objs.size ≤ b := by
      rcases e' with z | z
      · rw [z]; exact Nat.le_add_right _ _
      · rw [z]; exact Nat.le_refl _
    exact I1.fpOk hle (I1.hok.fresh hle)
end QW
set_option autoImplicit true
set_option Elab.async false
set_option linter.all false
set_option maxRecDepth 100000
set_option maxHeartbeats 4000000
namespace QW
open PySem PySem.Spec PyProof.Rows L2 Evl
open QS (Qd Sd Tr Sq sqr)
abbrev Cd := QS.Code
def top (i : Nat) : Stmt := PySem.Challenge.pw_quartersheet_k66_whole_rings_area_and_ri.main.body.getD i (.Pass ⟨0, 0, 0, 0⟩)

/-! ### codes as texts -/
def dg (q : Qd) : Nat := 48 + q.num
def cs (c : Cd) : Str := ⟨(c.map dg).toArray⟩
theorem cs_toList (c : Cd) : (cs c).cps.toList = c.map dg := by simp [cs]
theorem cs_len (c : Cd) : (cs c).length = c.length := by
  show (c.map dg).toArray.size = _
  simp
theorem dg_inj : ∀ {a b : Qd}, dg a = dg b → a = b := by intro a b; cases a <;> cases b <;> simp [dg, Qd.num]
theorem cs_inj {a b : Cd} (h : cs a = cs b) : a = b := by
  have h2 : a.map dg = b.map dg := by rw [← cs_toList, ← cs_toList, h]
  exact List.map_inj_right (fun _ _ h => dg_inj h) |>.mp h2
theorem str_eq {a b : Str} (h : a.cps.toList = b.cps.toList) : a = b := by
  obtain ⟨a⟩ := a; obtain ⟨b⟩ := b
  congr 1
  exact Array.toList_inj.mp h
theorem cs_app (a b : Cd) : cs (a ++ b) = cs a ++ cs b := by
  refine str_eq ?_
  rw [cs_toList]
  show _ = ((cs a).cps ++ (cs b).cps).toList
  rw [Array.toList_append, cs_toList, cs_toList, List.map_append]
def sn : Sd → Str | .up => "up" | .right => "right" | .down => "down" | .left => "left"
theorem sn_inj : ∀ {a b : Sd}, sn a = sn b → a = b := by intro a b; cases a <;> cases b <;> first | exact fun _ => rfl | (intro h; revert h; decide +kernel)

/-! ### data -/
def dC (c : Cd) : PyData := .str (cs c)
def dT : Tr → PyData
  | .leaf v => .int v
  | .node a b c d => .tuple [dT a, dT b, dT c, dT d]
def dSh (L : Nat) (t : Tr) : PyData := .tuple [.int L, dT t]
def dSq (A : Sq) : PyData := .tuple [.int A.x, .int A.y, .int A.w]
def dS (s : Sd) : PyData := .str (sn s)

/-! ### the module's facts -/
def wbit : Sd → Int | .up => 2 | .right => 1 | .down => 2 | .left => 1
def wmore : Sd → Bool | .up => false | .right => true | .down => true | .left => false
structure Txt (K : PySem.W.Frag) (w : World) (mg : Str → Option Value) (tM tS : Tok) (aS aF aW : Addr) : Prop where
  isinstance : mg "isinstance" = none
  int : mg "int" = none
  bool : mg "bool" = none
  str : mg "str" = none
  tuple : mg "tuple" = none
  list : mg "list" = none
  dict : mg "dict" = none
  len : mg "len" = none
  range : mg "range" = none
  enumerate : mg "enumerate" = none
  reversed : mg "reversed" = none
  min : mg "min" = none
  max : mg "max" = none
  abs : mg "abs" = none
  all : mg "all" = none
  sum : mg "sum" = none
  sorted : mg "sorted" = none
  gMOST : mg "MOST" = some (.int 40 tM)
  gSIGNS : mg "SIGNS" = some (.str "0123" tS)
  gSIDES : mg "SIDES" = some (.ref aS)
  gFACING : mg "FACING" = some (.ref aF)
  gWAYS : mg "WAYS" = some (.ref aW)
  sides : ∃ (o : Obj) (its : Array Value) (n : Nat), K.lookup aS = some o ∧ o.cls = .type "tuple" ∧ o.data = .seq its n ∧ its.size ≤ sizeLine ∧ Vals [.str "up", .str "right", .str "down", .str "left"] its.toList
  ways : ∀ s : Sd, ∃ p, KDct K w aW (sn s) (.ref p) ∧ ∀ H, TupAt K H p [.int (wbit s), .bl (wmore s)]
  facing : ∀ s : Sd, ∃ p, KDct K w aF (sn s) (.ref p) ∧ ∀ H, TupAt K H p [.int (QS.fc s).1.num, .int (QS.fc s).2.num]
section
variable {K : PySem.W.Frag} {w : World} {mg : Str → Option Value} {tM tS : Tok} {aS aF aW : Addr}
theorem Txt.rMOST (_ : Txt K w mg tM tS aS aF aW) : RelV (.int 40) (.int 40 tM) := ⟨_, rfl⟩
theorem Txt.rSIGNS (_ : Txt K w mg tM tS aS aF aW) : RelV (.str "0123") (.str "0123" tS) := ⟨_, rfl⟩
theorem Txt.rSIDES (_ : Txt K w mg tM tS aS aF aW) : RelV (.ref aS) (.ref aS) := rfl
theorem Txt.rFACING (_ : Txt K w mg tM tS aS aF aW) : RelV (.ref aF) (.ref aF) := rfl
theorem Txt.rWAYS (_ : Txt K w mg tM tS aS aF aW) : RelV (.ref aW) (.ref aW) := rfl
end
theorem b_isinstance : bootBuiltins "isinstance" = some (.builtin "isinstance") := by decide +kernel
theorem b_int : bootBuiltins "int" = some (.type "int") := by decide +kernel
theorem b_bool : bootBuiltins "bool" = some (.type "bool") := by decide +kernel
theorem b_str : bootBuiltins "str" = some (.type "str") := by decide +kernel
theorem b_tuple : bootBuiltins "tuple" = some (.type "tuple") := by decide +kernel
theorem b_list : bootBuiltins "list" = some (.type "list") := by decide +kernel
theorem b_dict : bootBuiltins "dict" = some (.type "dict") := by decide +kernel
theorem b_len : bootBuiltins "len" = some (.builtin "len") := by decide +kernel
theorem b_min : bootBuiltins "min" = some (.builtin "min") := by decide +kernel
theorem b_max : bootBuiltins "max" = some (.builtin "max") := by decide +kernel
theorem b_abs : bootBuiltins "abs" = some (.builtin "abs") := by decide +kernel
theorem b_all : bootBuiltins "all" = some (.builtin "all") := by decide +kernel
theorem b_sum : bootBuiltins "sum" = some (.builtin "sum") := by decide +kernel
theorem b_sorted : bootBuiltins "sorted" = some (.builtin "sorted") := by decide +kernel

/-! ### a def that may be called -/
def Ca (P : Program) (w : World) (K : PySem.W.Frag) (mg : Str → Option Value) (base : Heap) (x : Str) (ps : List Str) (k : Nat) (sp : Sp) : Prop :=
  ∃ f fd, FnOk P w K mg base CX0 k f fd ps sp ∧ mg x = some (.ref f) ∧ PySem.W.keepIn K (.ref f) = true ∧ Binds K fd ps []
def Fd (K : PySem.W.Frag) (mg : Str → Option Value) (x : Str) (st : Stmt) : Prop := ∃ f fd, FunD K x x (defArgs st) (defBody st) (defScope st) [] [] f fd ∧ mg x = some (.ref f)
section
variable {X : Cx} {x : Str} {ps : List Str} {k n : Nat} {sp : Sp} {p pos : Pos} {e : Expr} {es : List Expr} {t : TA}
theorem pe_ca (C : Ca X.prog X.w X.K X.mg X.base x ps k sp) (hr : Room n X.A) (ha : PA X (e :: es) t) (hk : k ≤ n := by decide) (hg : Gl X x := by rfl) (hdb : (x == ("__debug__" : Str)) = false := by decide)
    (he : starEach (e :: es) X.env = (false, eval e X.env) :: starEach es X.env := by rfl) (hpl : (backTo pos (starEach es X.env)).any (·.1) = false := by rfl) : PE X (.Call (.Name x p) (e :: es) [] pos) (tCall sp [] E0 t) := by
  obtain ⟨f, fd, F, hm, kp, b⟩ := C
  exact pe_call F (hr.mono hk) hg hm kp b .nil pass0 ha hdb he hpl
end
section
variable {P : Program} {w : World} {K : PySem.W.Frag} {mg : Str → Option Value} {base : Heap} {x : Str} {st : Stmt} {N ps : List Str} {k : Nat} {sp : Sp}
abbrev BindOk (x : Str) (st : Stmt) (ps : List Str) : Prop := ∀ (kV doc pm : Value) (an : Option Addr) (cdv ct : Value) (us : List Value), us.length = ps.length → bindArgs (PySem.W.fnOf x x (defArgs st) (defBody st) (defScope st) .none kV doc pm an cdv ct) ⟨us, []⟩ = pure (ps.zip us)
theorem Fd.mk (F : Fd K mg x st) (S : FnScope N ps (defScope st)) (b : BindOk x st ps) (len : ∀ vs H Q E, sp vs H Q E → vs.length = ps.length)
    (hbody : ∀ (f : Addr) (cdv : Value) (A : Around) (outer : List Env) (s : Shared) (H : Hp) (vs : List V) (Q : VK) (E : XK), Room k (A.deeper (envOfC x (defScope st) s.heap.objs.size f cdv)) → sp vs H Q E →
      ∃ t, PSs (cxOf CX0 P w K mg base N x (defScope st) f cdv A outer s H E).nox (defBody st) t ∧ t { nx := fun _ H' => Q .non H', rt := Q } (start N vs) H) : Ca P w K mg base x ps (k + 1) sp := by
  obtain ⟨f, fd, D, hm⟩ := F
  refine ⟨f, fd, D.ok S len fun cdv A outer s H vs Q E hr hsp => ?_, hm, D.kp, D.bindsN b⟩
  obtain ⟨t, h, q⟩ := hbody f cdv A outer s H vs Q E hr hsp
  exact ⟨t, h.nox, q⟩
end
/-- data in, data out: for some x of α -/
def spF (K : PySem.W.Frag) {α : Type} (args : α → List PyData) (pre : α → Prop) (f : α → PyData) : Sp := fun vs H Q _ => ∃ x : α, DnAll K H vs (args x) ∧ pre x ∧ ∀ v H', Ex H H' → Dn K H' v (f x) → Q v H'
def spL (K : PySem.W.Frag) {α : Type} (args : α → List PyData) (pre : α → Prop) (f : α → List PyData) : Sp := fun vs H Q _ => ∃ x : α, DnAll K H vs (args x) ∧ pre x ∧ ∀ p ws H', H p = none → Ex H H' → H' p = some (.lst ws) → DnAll K H' ws (f x) → Q (.ref p) H'
section
variable {K : PySem.W.Frag} {α : Type} {args : α → List PyData} {pre : α → Prop} {f : α → PyData} {fl : α → List PyData} {σ : L2.St} {H : Hp} {ta te : TE} {tr : TA} {tt : TT} {tz tu tw : TS} {D : Ends} {d : PyData} {ds : List PyData} {i : Int} {b : Bool} {s : Str}
theorem spF_len {n : Nat} (h : ∀ x, (args x).length = n) : ∀ vs H Q E, spF K args pre f vs H Q E → vs.length = n := fun vs H Q E ⟨x, h1, _⟩ => by rw [h1.len, h]
theorem spL_len {n : Nat} (h : ∀ x, (args x).length = n) : ∀ vs H Q E, spL K args pre fl vs H Q E → vs.length = n := fun vs H Q E ⟨x, h1, _⟩ => by rw [h1.len, h]
theorem en_call (x : α) (h : EvNs K tr σ H (args x)) (hp : pre x) : EvN K (tCall (spF K args pre f) [] E0 tr) σ H (f x) := fun H1 a Q q =>
  h H1 a _ fun vs H2 a2 hs => ⟨x, by rw [List.append_nil]; exact hs, hp, fun v H3 a3 hd => q v H3 (a2.trans a3) hd⟩
theorem el_call (x : α) (h : EvNs K tr σ H (args x)) (hp : pre x) : EvLs K (tCall (spL K args pre fl) [] E0 tr) σ H (fl x) := fun H1 a Q q =>
  h H1 a _ fun vs H2 a2 hs => ⟨x, by rw [List.append_nil]; exact hs, hp, fun p ws H3 np a3 hl hd => q p ws H3 (fresh_back a2 np) (a2.trans a3) hl hd⟩
/-- statements -/
theorem q_set {k : Nat} (h : EvN K te σ H d) (q : ∀ v H1, Ex H H1 → Dn K H1 v d → tz D (σ.set k (some v)) H1) : tSeq (tAsg te (gName k)) tz D σ H := h H (Ex.refl H) _ fun v H1 a hd => q v H1 a hd
theorem q_setL {k : Nat} (h : EvLs K te σ H ds) (q : ∀ p vs H1, H p = none → Ex H H1 → H1 p = some (.lst vs) → DnAll K H1 vs ds → tz D (σ.set k (some (.ref p))) H1) : tSeq (tAsg te (gName k)) tz D σ H := h H (Ex.refl H) _ fun p vs H1 np a hl hd => q p vs H1 np a hl hd
theorem q_do (h : EvN K te σ H d) (q : ∀ H1, Ex H H1 → tz D σ H1) : tSeq (tDrop te) tz D σ H := h H (Ex.refl H) _ fun v H1 a _ => q H1 a
theorem s_do (h : EvN K te σ H d) (q : ∀ H1, Ex H H1 → D.nx σ H1) : tDrop te D σ H := h H (Ex.refl H) _ fun v H1 a _ => q H1 a
theorem s_setN {k : Nat} (h : EvN K te σ H d) (q : ∀ v H1, Ex H H1 → Dn K H1 v d → D.nx (σ.set k (some v)) H1) : tAsg te (gName k) D σ H := h H (Ex.refl H) _ fun v H1 a hd => q v H1 a hd
theorem s_retN (h : EvN K te σ H d) (q : ∀ v H1, Ex H H1 → Dn K H1 v d → D.rt v H1) : tRet te D σ H := h H (Ex.refl H) _ fun v H1 a hd => q v H1 a hd
theorem s_retLs (h : EvLs K te σ H ds) (q : ∀ p vs H1, H p = none → Ex H H1 → H1 p = some (.lst vs) → DnAll K H1 vs ds → D.rt (.ref p) H1) : tRet te D σ H := h H (Ex.refl H) _ fun p vs H1 np a hl hd => q p vs H1 np a hl hd
/-- a test that is known -/
theorem q_no (h : EvT tt σ H false) (q : ∀ H1, Ex H H1 → tz D σ H1) : tSeq (tIfS tt tu tNext) tz D σ H := q_when h (fun z => (nomatch z)) fun _ => q
theorem s_no (h : EvT tt σ H false) (q : ∀ H1, Ex H H1 → tw D σ H1) : tIfS tt tu tw D σ H := s_if h (fun z => (nomatch z)) fun _ => q
theorem s_yes (h : EvT tt σ H true) (q : ∀ H1, Ex H H1 → tu D σ H1) : tIfS tt tu tw D σ H := s_if h (fun _ => q) fun z => (nomatch z)
/-- a, b, .. = e -/
theorem s_unpack {n : Nat} {g : TGs} (h : EvN K te σ H (.tuple ds)) (hn : ds.length = n) (q : ∀ vs H1, Ex H H1 → DnAll K H1 vs ds → g vs σ H1 D.nx) : tAsg te (gTup K n g) D σ H := h H (Ex.refl H) _ fun v H1 a hd => by
  obtain ⟨p, xs, rfl, ht, hs⟩ := hd.tup_eq
  exact ⟨p, xs, rfl, ht.sq, by rw [hs.len, hn], q xs H1 a hs⟩
theorem q_unpack {n : Nat} {g : TGs} (h : EvN K te σ H (.tuple ds)) (hn : ds.length = n) (q : ∀ vs H1, Ex H H1 → DnAll K H1 vs ds → g vs σ H1 (tz D)) : tSeq (tAsg te (gTup K n g)) tz D σ H := s_unpack (D := { D with nx := tz D }) h hn q
/-- len, isinstance .. -/
def rLenStr : List V → Hp → VK → Prop := fun xs H Q => ∃ z, xs = [.str z] ∧ z.length ≤ sizeLine ∧ Q (.int z.length) H
theorem en_lenS (h : EvN K te σ H (.str s)) (hl : s.length ≤ 100000) : EvN K (tCB (fun xs H Q => ∃ z : Str, xs = [.str z] ∧ z.length ≤ sizeLine ∧ Q (.int z.length) H) (tCons te tNil)) σ H (.int s.length) := fun H1 a Q q =>
  h.vs H1 a _ fun H2 a2 => ⟨s, rfl, sz_of hl, q _ H2 a2 (.int _)⟩
def dty : PyData → String
  | .none => "NoneType" | .bool _ => "bool" | .int _ => "int" | .str _ => "str" | .tuple _ => "tuple" | .list _ => "list" | .dict _ => "dict"
theorem Dn.ty {v : V} (h : Dn K H v d) : TyX K H v (.type (dty d)) := by
  cases h with
  | non => exact .base .non
  | bl b => exact .base (.bl b)
  | int i => exact .base (.int i)
  | str x => exact .base (.str x)
  | tup ht hs =>
    rcases ht with ht | ⟨o, its, n, h1, h2, _⟩
    · exact .base (.tup ht)
    · exact .kTuple h1 h2
theorem en_isi {ty : String} (h : EvN K te σ H d) (hk : kitB (dty d) ty = some b) : EvN K (tCB (rIsi K) (tCons te (tCons (tC (.ty ty)) tNil))) σ H (.bool b) := fun H1 a Q q =>
  h H1 a _ fun v H2 a2 hd => ⟨v, .ty ty, _, _, b, rfl, .ty ty, hd.ty, kit_ty hk, q _ H2 a2 (.bl _)⟩
theorem en_isIT {ty : String} (h : EvN K te σ H (.int i)) (hk : kitB "int" ty = some true := by decide +kernel) : EvN K (tCB (rIsi K) (tCons te (tCons (tC (.ty ty)) tNil))) σ H (.bool true) := en_isi h hk
theorem en_isIF {ty : String} (h : EvN K te σ H (.int i)) (hk : kitB "int" ty = some false := by decide +kernel) : EvN K (tCB (rIsi K) (tCons te (tCons (tC (.ty ty)) tNil))) σ H (.bool false) := en_isi h hk
theorem en_isST {ty : String} (h : EvN K te σ H (.str s)) (hk : kitB "str" ty = some true := by decide +kernel) : EvN K (tCB (rIsi K) (tCons te (tCons (tC (.ty ty)) tNil))) σ H (.bool true) := en_isi h hk
theorem en_isSF {ty : String} (h : EvN K te σ H (.str s)) (hk : kitB "str" ty = some false := by decide +kernel) : EvN K (tCB (rIsi K) (tCons te (tCons (tC (.ty ty)) tNil))) σ H (.bool false) := en_isi h hk
theorem en_isUT {ty : String} (h : EvN K te σ H (.tuple ds)) (hk : kitB "tuple" ty = some true := by decide +kernel) : EvN K (tCB (rIsi K) (tCons te (tCons (tC (.ty ty)) tNil))) σ H (.bool true) := en_isi h hk
theorem en_isUF {ty : String} (h : EvN K te σ H (.tuple ds)) (hk : kitB "tuple" ty = some false := by decide +kernel) : EvN K (tCB (rIsi K) (tCons te (tCons (tC (.ty ty)) tNil))) σ H (.bool false) := en_isi h hk
theorem en_min {i j : Int} {te' : TE} (h : EvN K te σ H (.int i)) (h' : EvN K te' σ H (.int j)) : EvN K (tCB (fun xs H Q => ∃ i j, xs = [.int i, .int j] ∧ Q (.int (if j < i then j else i)) H) (tCons te (tCons te' tNil))) σ H (.int (min i j)) := fun H1 a Q q =>
  h.vi H1 a _ fun H2 a2 => h'.vi H2 (a.trans a2) _ fun H3 a3 => ⟨i, j, rfl, q _ H3 (a2.trans a3) (by rw [show min i j = if j < i then j else i by omega]; exact .int _)⟩
theorem en_max {i j : Int} {te' : TE} (h : EvN K te σ H (.int i)) (h' : EvN K te' σ H (.int j)) : EvN K (tCB (fun xs H Q => ∃ i j, xs = [.int i, .int j] ∧ Q (.int (if j > i then j else i)) H) (tCons te (tCons te' tNil))) σ H (.int (max i j)) := fun H1 a Q q =>
  h.vi H1 a _ fun H2 a2 => h'.vi H2 (a.trans a2) _ fun H3 a3 => ⟨i, j, rfl, q _ H3 (a2.trans a3) (by rw [show max i j = if j > i then j else i by omega]; exact .int _)⟩
end
end QW
set_option autoImplicit true
set_option Elab.async false
set_option linter.all false
set_option maxRecDepth 100000
set_option maxHeartbeats 4000000
namespace QW
open PySem PySem.Spec PyProof.Rows L2 Evl
open QS (Qd Sd Tr Sq sqr)

/-! ### heaps in which some objects may change -/
def ExB (m : List Addr) (H H' : Hp) : Prop := ∀ a o, a ∉ m → H a = some o → H' a = some o
/-- those that may change stand, and are no tuples -/
def Mu (m : List Addr) (H : Hp) : Prop := ∀ a ∈ m, ∃ o, H a = some o ∧ ∀ xs, o ≠ .tup xs
theorem ExB.refl (m : List Addr) (H : Hp) : ExB m H H := fun _ _ _ h => h
theorem ExB.trans {m : List Addr} {H H1 H2 : Hp} (a : ExB m H H1) (b : ExB m H1 H2) : ExB m H H2 := fun x o n h => b x o n (a x o n h)
theorem ExB.of {m : List Addr} {H H' : Hp} (e : Ex H H') : ExB m H H' := fun a o _ h => e a o h
theorem ExB.ex {H H' : Hp} (e : ExB [] H H') : Ex H H' := fun a o h => e a o (by simp) h
theorem ExB.upd {m : List Addr} {H H' : Hp} {l : Addr} {o : HO} (e : ExB m H H') (h : l ∈ m) : ExB m H (upd H' l o) := fun a u n ha => by
  have z : a ≠ l := fun z => n (by rw [z]; exact h)
  rw [upd_ne z]
  exact e a u n ha
theorem ExB.mono {m m' : List Addr} {H H' : Hp} (e : ExB m H H') (h : ∀ a ∈ m, a ∈ m') : ExB m' H H' := fun a o n ha => e a o (fun z => n (h a z)) ha
theorem ExB.tk {m : List Addr} {H H' : Hp} (e : ExB m H H') (hm : Mu m H) : TKp H H' := fun b xs h => by
  refine e b _ (fun z => ?_) h
  obtain ⟨o, h1, h2⟩ := hm b z
  rw [h] at h1
  exact h2 xs (Option.some.inj h1).symm
theorem Mu.nil {H : Hp} : Mu [] H := fun _ h => nomatch h
theorem Mu.cons {m : List Addr} {H : Hp} {l : Addr} {o : HO} (h : H l = some o) (hn : ∀ xs, o ≠ .tup xs) (hm : Mu m H) : Mu (l :: m) H := fun a ha => by
  rcases List.mem_cons.mp ha with rfl | ha
  · exact ⟨o, h, hn⟩
  · exact hm a ha
theorem Mu.one {H : Hp} {l : Addr} {xs : List V} (h : H l = some (.lst xs)) : Mu [l] H := .cons h (fun _ z => nomatch z) .nil
theorem Mu.ex {m : List Addr} {H H' : Hp} (hm : Mu m H) (e : Ex H H') : Mu m H' := fun a ha => let ⟨o, h1, h2⟩ := hm a ha; ⟨o, e a o h1, h2⟩
theorem Mu.not {m : List Addr} {H : Hp} {p : Addr} (hm : Mu m H) (h : H p = none) : p ∉ m := fun z => by
  obtain ⟨o, h1, _⟩ := hm p z
  rw [h] at h1; cases h1

/-! ### what is walked, by its data -/
def EvIt (K : PySem.W.Frag) (wi : TI) (σ : L2.St) (H : Hp) (m : List Addr) (ds : List PyData) : Prop := ∀ H1, Ex H H1 → Mu m H1 → ∀ R : It → Hp → Prop,
  (∀ J G H2, Ex H1 H2 → Walk J ds.length G (fun i H' x H'' => ExB m H2 H' → Ex H' H'' ∧ ∃ d, ds[i]? = some d ∧ Dn K H'' x d) → (∀ H3, ExB m H2 H3 → G H3) → R J H2) → wi σ H1 R
section
variable {K : PySem.W.Frag} {σ : L2.St} {H : Hp} {tl te : TE} {ta : TA} {m : List Addr} {ds : List PyData}
theorem ei_list {p : Addr} {vs : List V} (h : Ev tl σ H (.ref p)) (hp : H p = some (.lst vs)) (hs : DnAll K H vs ds) (hn : p ∉ m) : EvIt K (iList K tl) σ H m ds := fun H1 a mu R r =>
  h H1 a _ fun H2 a2 => by
    have e2 : H2 p = some (.lst vs) := a2 p _ (a p _ hp)
    refine ⟨p, rfl, ⟨vs, .inl (.inl e2)⟩, r _ (fun H' => SqL K H' p vs) H2 a2 ?_ fun H3 e => .inl (.inl (e p _ hn e2))⟩
    have w := walk_list (K := K) (a := p) (xs := vs)
    rw [hs.len] at w
    refine w.mono (fun _ g => g) fun i H' x H'' hi g y e => ?_
    obtain ⟨rfl, y⟩ := y
    obtain ⟨d, h1, h2⟩ := hs.get' y
    exact ⟨Ex.refl _, d, h1, h2.keep (((TKp.ex a).trans (.ex a2)).trans (e.tk (mu.ex a2)))⟩
theorem ei_new (h : EvLs K tl σ H ds) : EvIt K (iList K tl) σ H m ds := fun H1 a mu R r =>
  h H1 a _ fun p vs H2 np a2 hp hs => by
    have hn : p ∉ m := mu.not np
    refine ⟨p, rfl, ⟨vs, .inl (.inl hp)⟩, r _ (fun H' => SqL K H' p vs) H2 a2 ?_ fun H3 e => .inl (.inl (e p _ hn hp))⟩
    have w := walk_list (K := K) (a := p) (xs := vs)
    rw [hs.len] at w
    refine w.mono (fun _ g => g) fun i H' x H'' hi g y e => ?_
    obtain ⟨rfl, y⟩ := y
    obtain ⟨d, h1, h2⟩ := hs.get' y
    exact ⟨Ex.refl _, d, h1, h2.keep (e.tk (mu.ex a2))⟩
theorem TupAt.keep {H' : Hp} {p : Addr} {xs : List V} (t : TKp H H') (h : TupAt K H p xs) : TupAt K H' p xs := h.elim (fun h => .inl (t _ _ h)) .inr
theorem ei_tup (h : EvN K tl σ H (.tuple ds)) : EvIt K (iTup K tl) σ H m ds := fun H1 a mu R r =>
  h H1 a _ fun v H2 a2 hd => by
    obtain ⟨p, vs, rfl, ht, hs⟩ := hd.tup_eq
    refine ⟨p, rfl, ⟨vs, ht.sq⟩, r _ (fun H' => SqT K H' p vs) H2 a2 ?_ fun H3 e => (ht.keep (e.tk (mu.ex a2))).sq⟩
    have w := walk_tup (K := K) (a := p) (xs := vs)
    rw [hs.len] at w
    refine w.mono (fun _ g => g) fun i H' x H'' hi g y e => ?_
    obtain ⟨rfl, y⟩ := y
    obtain ⟨d, h1, h2⟩ := hs.get' y
    exact ⟨Ex.refl _, d, h1, h2.keep (e.tk (mu.ex a2))⟩
def upto (lo : Int) (n : Nat) : List PyData := (List.range n).map fun (i : Nat) => PyData.int (lo + (i : Int))
def uptoC (lo c : Int) (n : Nat) : List PyData := (List.range n).map fun (i : Nat) => PyData.int (lo + (i : Int) * c)
theorem ei_range1 {n : Int} (h : EvNs K ta σ H [.int n]) (h1 : -(2 ^ 62) ≤ n) (h2 : n < 2 ^ 62) : EvIt K (iRng1 ta) σ H m (upto 0 n.toNat) := fun H1 a mu R r =>
  h H1 a _ fun vs H2 a2 hs => by
    obtain ⟨x, rfl, hx⟩ := hs.inv1
    rw [hx.int_eq]
    refine ⟨n, rfl, h1, h2, r _ (fun _ => True) H2 a2 ?_ fun _ _ => trivial⟩
    have w := walk_range (lo := 0) (n := n.toNat)
    rw [show (upto 0 n.toNat).length = n.toNat by simp [upto]]
    refine w.mono (fun _ g => g) fun i H' x H'' hi g y e => ?_
    obtain ⟨rfl, rfl⟩ := y
    exact ⟨Ex.refl _, .int (0 + i), by simp [upto, hi], .int _⟩
theorem ei_range2 {lo n : Int} (h : EvNs K ta σ H [.int lo, .int n]) (h0 : -(2 ^ 62) ≤ lo) (h0' : lo < 2 ^ 62) (h1 : -(2 ^ 62) ≤ n) (h2 : n < 2 ^ 62) : EvIt K (iRng2 ta) σ H m (upto lo (n - lo).toNat) := fun H1 a mu R r =>
  h H1 a _ fun vs H2 a2 hs => by
    obtain ⟨x, y, rfl, hx, hy⟩ := hs.inv2
    rw [hx.int_eq, hy.int_eq]
    refine ⟨lo, n, rfl, ⟨h0, h0', h1, h2⟩, r _ (fun _ => True) H2 a2 ?_ fun _ _ => trivial⟩
    have w := walk_range (lo := lo) (n := (n - lo).toNat)
    rw [show (upto lo (n - lo).toNat).length = (n - lo).toNat by simp [upto]]
    refine w.mono (fun _ g => g) fun i H' x H'' hi g y e => ?_
    obtain ⟨rfl, rfl⟩ := y
    exact ⟨Ex.refl _, .int (lo + i), by simp [upto, hi], .int _⟩
theorem ei_range3 {lo hi c : Int} {n : Nat} (h : EvNs K ta σ H [.int lo, .int hi, .int c]) (hr : RgC lo hi c n) : EvIt K (iRng3 ta) σ H m (uptoC lo c n) := fun H1 a mu R r =>
  h H1 a _ fun vs H2 a2 hs => by
    obtain ⟨x, y, z, rfl, hx, hy, hz⟩ := hs.inv3
    rw [hx.int_eq, hy.int_eq, hz.int_eq]
    refine ⟨lo, hi, c, n, rfl, hr, r _ (fun _ => True) H2 a2 ?_ fun _ _ => trivial⟩
    have w := walk_rangeC (lo := lo) (c := c) (n := n)
    rw [show (uptoC lo c n).length = n by simp [uptoC]]
    refine w.mono (fun _ g => g) fun i H' x H'' hi g y e => ?_
    obtain ⟨rfl, rfl⟩ := y
    exact ⟨Ex.refl _, .int (lo + i * c), by simp [uptoC, hi], .int _⟩
def signs (s : Str) : List PyData := s.cps.toList.map fun c => .str ⟨#[c]⟩
theorem ei_str {s : Str} (h : EvN K tl σ H (.str s)) : EvIt K (iStr tl) σ H m (signs s) := fun H1 a mu R r =>
  h.vs H1 a _ fun H2 a2 => by
    refine ⟨s, rfl, r _ (fun _ => True) H2 a2 ?_ fun _ _ => trivial⟩
    have w := walk_str (z := s)
    rw [show (signs s).length = s.cps.size by simp [signs]]
    refine w.mono (fun _ g => g) fun i H' x H'' hi g y e => ?_
    obtain ⟨rfl, c, hc, rfl⟩ := y
    refine ⟨Ex.refl _, .str ⟨#[c]⟩, ?_, .str _⟩
    unfold signs
    rw [List.getElem?_map, Array.getElem?_toList, hc]
    rfl
def dKey : L2.Key → PyData
  | .inl i => .int i
  | .inr x => .str x
theorem dn_key (k : L2.Key) : Dn K H (kV k) (dKey k) := by
  cases k with
  | inl i => exact .int i
  | inr x => exact .str x
theorem ei_keys {d : Addr} {o : Obj} {kvs : List (L2.Key × V)} (h : Ev tl σ H (.ref d)) (hd : H d = some (.frz o (.dK kvs))) (hn : d ∉ m) : EvIt K (iKeys tl) σ H m (kvs.map fun kv => dKey kv.1) := fun H1 a mu R r =>
  h H1 a _ fun H2 a2 => by
    have e2 : H2 d = some (.frz o (.dK kvs)) := a2 d _ (a d _ hd)
    refine ⟨d, o, rfl, .inl ⟨kvs, e2, r _ (fun H' => H' d = some (.frz o (.dK kvs))) H2 a2 ?_ fun H3 e => e d _ hn e2⟩⟩
    have w := walk_keys (d := d) (o := o) (kvs := kvs)
    rw [List.length_map]
    refine w.mono (fun _ g => g) fun i H' x H'' hi g y e => ?_
    obtain ⟨rfl, k, v, hk, rfl⟩ := y
    exact ⟨Ex.refl _, dKey k, by rw [List.getElem?_map, hk]; rfl, dn_key k⟩
end

/-! ### loops -/
section
variable {K : PySem.W.Frag} {σ : L2.St} {H : Hp} {wi : TI} {g : TG} {tu tz : TS} {D : Ends} {m : List Addr}
theorem s_for {α : Type} {enc : α → PyData} {xs : List α} (h : EvIt K wi σ H m (xs.map enc)) (hm : Mu m H) (Pv : List α → L2.St → Hp → Prop) (h0 : ∀ H1, Ex H H1 → Pv [] σ H1)
    (hs : ∀ pre a post x σ' H' H'', xs = pre ++ a :: post → ExB m H H' → Pv pre σ' H' → Ex H' H'' → Dn K H'' x (enc a) → ∀ N : L2.St → Hp → Prop, (∀ σ3 H3, ExB m H'' H3 → Pv (pre ++ [a]) σ3 H3 → N σ3 H3) →
      g x σ' H'' fun σ2 H2 => tu { D with nx := N, ct := N, bk := D.nx } σ2 H2)
    (hd : ∀ σ' H', ExB m H H' → Pv xs σ' H' → D.nx σ' H') : tFor wi g tu D σ H := by
  refine h H (Ex.refl H) hm _ fun J G H2 a2 w stab => ?_
  rw [List.length_map] at w
  refine for_it w (fun i σ' H' => ExB m H2 H' ∧ Pv (xs.take i) σ' H') ⟨ExB.refl _ _, h0 H2 a2⟩ (fun i σ' H' _ p => stab H' p.1) (fun i x σ' H' H'' hi p y => ?_) (fun σ' H' p => ?_)
  · obtain ⟨e, d, hdd, hx⟩ := y p.1
    rw [List.getElem?_map, List.getElem?_eq_getElem hi] at hdd
    cases hdd
    refine hs (xs.take i) xs[i] (xs.drop (i + 1)) x σ' H' H'' ?_ ((ExB.of a2).trans p.1) p.2 e hx _ fun σ3 H3 e3 p3 => ⟨(p.1.trans (.of e)).trans e3, ?_⟩
    · rw [List.getElem_cons_drop, List.take_append_drop]
    · rw [List.take_add_one, List.getElem?_eq_getElem hi]
      exact p3
  · refine hd σ' H' ((ExB.of a2).trans p.1) ?_
    have := p.2
    rw [List.take_length] at this
    exact this
theorem q_for {α : Type} {enc : α → PyData} {xs : List α} (h : EvIt K wi σ H m (xs.map enc)) (hm : Mu m H) (Pv : List α → L2.St → Hp → Prop) (h0 : ∀ H1, Ex H H1 → Pv [] σ H1)
    (hs : ∀ pre a post x σ' H' H'', xs = pre ++ a :: post → ExB m H H' → Pv pre σ' H' → Ex H' H'' → Dn K H'' x (enc a) → ∀ N : L2.St → Hp → Prop, (∀ σ3 H3, ExB m H'' H3 → Pv (pre ++ [a]) σ3 H3 → N σ3 H3) →
      g x σ' H'' fun σ2 H2 => tu { D with nx := N, ct := N, bk := tz D } σ2 H2)
    (hd : ∀ σ' H', ExB m H H' → Pv xs σ' H' → tz D σ' H') : tSeq (tFor wi g tu) tz D σ H := s_for (D := { D with nx := tz D }) h hm Pv h0 hs hd
/-- a comprehension whose items are data -/
theorem el_lc {tt : TT} {te : TE} {vs : List Nat} {α : Type} {enc : α → PyData} {xs : List α} (b : α → Bool) (f : α → PyData) (h : EvIt K wi σ H [] (xs.map enc)) (hl : xs.length ≤ 50000)
    (hs : ∀ a x H'', a ∈ xs → Ex H H'' → Dn K H'' x (enc a) → ∀ M : L2.St → Hp → Prop, (∀ σ2, wipe σ2 vs = wipe σ vs → EvT tt σ2 H'' (b a) → (b a = true → EvN K te σ2 H'' (f a)) → M σ2 H'') → g x (wipe σ vs) H'' M) :
    EvLs K (tLc wi g tt te vs) σ H ((xs.filter b).map f) := fun H1 a Q q => by
  refine h H1 a .nil _ fun J G H2 a2 w stab D hD => ?_
  rw [List.length_map] at w
  refine lc_it w (fun i H' => Ex H2 H' ∧ ∃ ws, H' D = some (.lst ws) ∧ DnAll K H' ws (((xs.take i).filter b).map f)) ⟨Ex.new hD, [], upd_same, .nil⟩ (fun i H' _ p => stab H' (.of p.1)) (fun i x H' H'' hi p y => ?_) (fun H' p => ?_)
  · obtain ⟨e, d, hdd, hx⟩ := y (.of p.1)
    rw [List.getElem?_map, List.getElem?_eq_getElem hi] at hdd
    cases hdd
    obtain ⟨p1, ws, p2, p3⟩ := p
    have hwl : ws.length ≤ 50000 := by
      rw [p3.len, List.length_map]
      exact Nat.le_trans (List.length_filter_le _ _) (Nat.le_trans (List.length_take_le _ _) (Nat.le_trans (Nat.le_of_lt hi) hl))
    have et : xs.take (i + 1) = xs.take i ++ [xs[i]] := by rw [List.take_add_one, List.getElem?_eq_getElem hi]; rfl
    refine hs xs[i] x H'' (List.getElem_mem hi) ((a.trans a2).trans (p1.trans e)) hx _ fun σ2 hw ht he => ⟨hw, ht H'' (Ex.refl _) _ fun H3 e3 => ?_⟩
    cases hb : b xs[i] with
    | false =>
      refine iteF ⟨(p1.trans e).trans e3, ws, e3 D _ (e D _ p2), ?_⟩
      rw [et, List.filter_append, List.filter_cons_of_neg (by simp [hb]), List.filter_nil, List.append_nil]
      exact p3.ex (e.trans e3)
    | true =>
      refine iteT (he hb H3 e3 _ fun v H4 e4 hv => ⟨ws, e4 D _ (e3 D _ (e D _ p2)), sz_lt (by omega), ?_, ws ++ [v], upd_same, ?_⟩)
      · exact Ex.mut (((p1.trans e).trans e3).trans e4) hD
      · rw [et, List.filter_append, List.filter_cons_of_pos hb, List.filter_nil, List.map_append]
        have tk : TKp H4 (upd H4 D (.lst (ws ++ [v]))) := .upd fun xs z => by
          rw [e4 D _ (e3 D _ (e D _ p2))] at z; cases z
        exact ((p3.ex ((e.trans e3).trans e4)).keep tk).snoc (hv.keep tk)
  · obtain ⟨p1, ws, p2, p3⟩ := p
    rw [List.take_length] at p3
    exact q D ws H' (fresh_back a2 hD) (a2.trans p1) p2 p3
/-- xs.append(e) to a list that is filled -/
theorem s_push {l : Addr} {ws : List V} {ta te : TE} {d : PyData} (hl : H l = some (.lst ws)) (ha : Ev ta σ H (.ref l)) (h : EvN K te σ H d) (hz : ws.length < 10000000) (k : ∀ v H1, Ex H H1 → Dn K H1 v d → D.nx σ (upd H1 l (.lst (ws ++ [v])))) :
    tDrop (tBM K "list" rAppend ta (tCons te tNil)) D σ H := ha H (Ex.refl H) _ fun H1 e1 =>
  ⟨.inl ⟨rfl, ws, sq_of (e1 l _ hl)⟩, h H1 e1 _ fun v H2 e2 hv => ⟨l, ws, v, rfl, rfl, e2 l _ (e1 l _ hl), Nat.lt_of_lt_of_le hz (by decide), k v H2 (e1.trans e2) hv⟩⟩
theorem q_push {l : Addr} {ws : List V} {ta te : TE} {d : PyData} (hl : H l = some (.lst ws)) (ha : Ev ta σ H (.ref l)) (h : EvN K te σ H d) (hz : ws.length < 10000000) (k : ∀ v H1, Ex H H1 → Dn K H1 v d → tz D σ (upd H1 l (.lst (ws ++ [v])))) :
    tSeq (tDrop (tBM K "list" rAppend ta (tCons te tNil))) tz D σ H := s_push (D := { D with nx := tz D }) hl ha h hz k
theorem lst_tk {H' : Hp} {l : Addr} {ws : List V} {o : HO} (h : H' l = some (.lst ws)) : TKp H' (upd H' l o) := .upd fun xs z => by rw [h] at z; cases z
end
end QW
set_option autoImplicit true
set_option Elab.async false
set_option linter.all false
set_option maxRecDepth 100000
set_option maxHeartbeats 4000000
namespace QW
open PySem PySem.Spec PyProof.Rows L2 Evl
open QS (Qd Sd Tr Sq sqr)

/-! ### more rules -/
section
variable {K : PySem.W.Frag} {σ : L2.St} {H : Hp} {ta tb te : TE} {d : PyData} {ds : List PyData} {i j : Int} {b : Bool} {s u : Str}
theorem DnAll.bls : ∀ {vs : List V} {bs : List Bool}, DnAll K H vs (bs.map PyData.bool) → vs = bs.map V.bl
  | _, [], .nil => rfl
  | _, n :: ns, .cons h r => by rw [h.bl_eq, r.bls]; rfl
theorem en_all {bs : List Bool} (h : EvLs K te σ H (bs.map PyData.bool)) : EvN K (tCB (rAll K) (tCons te tNil)) σ H (.bool (bs.all id)) := fun H1 a Q q =>
  h H1 a _ fun p vs H2 np a2 hp hs => ⟨p, bs, rfl, by rw [← hs.bls]; exact .inl (.inl hp), q _ H2 a2 (.bl _)⟩
theorem en_inS {c : Nat} (ha : EvN K ta σ H (.str ⟨#[c]⟩)) (hb : EvN K tb σ H (.str u)) : EvN K (tOp (fun x y H Q => ∃ (c : Nat) (z : Str), x = .str ⟨#[c]⟩ ∧ y = .str z ∧ Q (.bl (decide (c ∈ z.cps.toList))) H) ta tb) σ H (.bool (decide (c ∈ u.cps.toList))) := fun H1 a Q q =>
  ha.vs H1 a _ fun H2 a2 => hb.vs H2 (a.trans a2) _ fun H3 a3 => ⟨c, u, rfl, rfl, q _ H3 (a2.trans a3) (.bl _)⟩
theorem en_intS {n : Int} (h : EvN K te σ H (.str s)) (hn : PySem.intText? s = some n) (hl : s.length ≤ 640) : EvN K (tCB (fun xs H Q => ∃ a n, xs = [.str a] ∧ PySem.intText? a = some n ∧ a.length ≤ 640 ∧ Q (.int n) H) (tCons te tNil)) σ H (.int n) := fun H1 a Q q =>
  h.vs H1 a _ fun H2 a2 => ⟨s, n, rfl, hn, hl, q _ H2 a2 (.int _)⟩
end
theorem signs_cs (c : Cd) : signs (cs c) = c.map fun q => .str ⟨#[dg q]⟩ := by
  unfold signs; rw [cs_toList, List.map_map]; rfl
theorem dg_int (q : Qd) : PySem.intText? ⟨#[dg q]⟩ = some (q.num : Int) := by cases q <;> decide +kernel
theorem dg_in (q : Qd) : decide (dg q ∈ ("0123" : Str).cps.toList) = true := by cases q <;> decide +kernel
theorem and1 (q : Qd) : Builtin.bitAnd (q.num : Int) 1 = q.bx := by cases q <;> decide +kernel
theorem shr1 (q : Qd) : (q.num : Int) / 2 ^ (1 : Int).toNat = q.bY := by cases q <;> decide +kernel
/-! ### a code's corner by the figures -/
def px (c : Cd) : Int := c.foldl (fun x q => 2 * x + q.bx) 0
def py (c : Cd) : Int := c.foldl (fun x q => 2 * x + q.bY) 0
theorem px_snoc (c : Cd) (q : Qd) : px (c ++ [q]) = 2 * px c + q.bx := by simp [px]
theorem py_snoc (c : Cd) (q : Qd) : py (c ++ [q]) = 2 * py c + q.bY := by simp [py]
theorem sqr_gen : ∀ (c : Cd) (L : Nat) (X Y a b : Int), c.length ≤ L → X = a * QS.pw L → Y = b * QS.pw L →
    sqr L X Y c = ⟨c.foldl (fun x q => 2 * x + q.bx) a * QS.pw (L - c.length), c.foldl (fun x q => 2 * x + q.bY) b * QS.pw (L - c.length), QS.pw (L - c.length)⟩
  | [], L, X, Y, a, b, _, hx, hy => by rw [QS.sqr_nil, hx, hy]; rfl
  | q :: c, 0, _, _, _, _, h, _, _ => by simp at h
  | q :: c, L + 1, X, Y, a, b, h, hx, hy => by
    rw [QS.sqr_cons, sqr_gen c L _ _ (2 * a + q.bx) (2 * b + q.bY) (by simpa using h) (by rw [hx, QS.pw_succ, Int.add_mul]; grind) (by rw [hy, QS.pw_succ, Int.add_mul]; grind)]
    simp only [List.foldl_cons, List.length_cons, Nat.add_sub_add_right]
theorem sqr_px {c : Cd} {L : Nat} (h : c.length ≤ L) : sqr L 0 0 c = ⟨px c * QS.pw (L - c.length), py c * QS.pw (L - c.length), QS.pw (L - c.length)⟩ := sqr_gen c L 0 0 0 0 h (by simp) (by simp)
theorem px_lt (c : Cd) : 0 ≤ px c ∧ px c < QS.pw c.length ∧ 0 ≤ py c ∧ py c < QS.pw c.length := by
  have h1 := QS.sqr_in c c.length 0 0 (Nat.le_refl _)
  rw [sqr_px (Nat.le_refl _)] at h1
  simp only [Nat.sub_self, QS.pw_zero, Int.mul_one] at h1
  omega
theorem pw_le {L : Nat} (h : L ≤ 40) : QS.pw L ≤ 1099511627776 := by
  have : ∀ n, n ≤ 40 → QS.pw n * QS.pw (40 - n) = QS.pw 40 := fun n hn => by
    unfold QS.pw; rw [← Int.pow_add]; congr 1; omega
  have h1 := this L h
  have h2 := QS.pw_pos (40 - L)
  have h3 := QS.pw_pos L
  have h4 : QS.pw 40 = 1099511627776 := by decide +kernel
  rw [h4] at h1
  have : QS.pw L * 1 ≤ QS.pw L * QS.pw (40 - L) := Int.mul_le_mul_of_nonneg_left (by omega) (by omega)
  omega
theorem pw_eq (n : Nat) (i : Int) (h : i = (n : Int)) : (2 : Int) ^ i.toNat = QS.pw n := by rw [h]; rfl
section
variable {P : Program} {w : World} {K : PySem.W.Frag} {mg : Str → Option Value} {base : Heap} {tM tS : Tok} {aS aF aW : Addr}
abbrev s_is_whole : Stmt := top 10
abbrev N_is_whole : List Str := ["thing"]
abbrev P_is_whole : List Str := ["thing"]
theorem sc_is_whole : FnScope N_is_whole P_is_whole (defScope s_is_whole) := ⟨rfl, rfl, rfl, by decide +kernel, rfl, by decide +kernel, by decide +kernel⟩
theorem nd_is_whole : N_is_whole.Nodup := sc_is_whole.nd
def sp_is_whole (K : PySem.W.Frag) : Sp := spF K (fun i : Int => [.int i]) (fun _ => True) (fun _ => .bool true)
theorem ok_is_whole (T : Txt K w mg tM tS aS aF aW) (F : Fd K mg "is_whole" s_is_whole) : Ca P w K mg base "is_whole" P_is_whole 1 (sp_is_whole K) := by
  refine F.mk sc_is_whole (fun _ _ _ _ _ _ us hl => match us, hl with | [_], _ => rfl) (spF_len fun _ => rfl) (fun f cdv A outer s H vs Q E hr h => ?_)
  obtain ⟨i, hv, _, k⟩ := h
  obtain ⟨v, rfl, h0⟩ := hv.inv1
  refine ⟨_, (pss_one (ps_ret (pe_and (pe_callB call_isi (by rfl) T.isinstance b_isinstance (pa_cons (pv 0) (pa_cons (pe_bltn (v := .ty "int") (by rfl) T.int b_int rfl) pa_nil))) (pe_one (pe_not (pe_callB call_isi (by rfl) T.isinstance b_isinstance (pa_cons (pv 0) (pa_cons (pe_bltn (v := .ty "bool") (by rfl) T.bool b_bool rfl) pa_nil)))))))), ?_⟩
  exact s_retN (en_and (en_isIT (en_var rfl h0)) fun _ => en_not (en_isIF (en_var rfl h0))) fun v H1 e hd => k v H1 e hd
abbrev s_is_level : Stmt := top 11
abbrev N_is_level : List Str := ["thing"]
abbrev P_is_level : List Str := ["thing"]
theorem sc_is_level : FnScope N_is_level P_is_level (defScope s_is_level) := ⟨rfl, rfl, rfl, by decide +kernel, rfl, by decide +kernel, by decide +kernel⟩
theorem nd_is_level : N_is_level.Nodup := sc_is_level.nd
def sp_is_level (K : PySem.W.Frag) : Sp := spF K (fun i : Int => [.int i]) (fun i => 0 ≤ i ∧ i ≤ 40) (fun _ => .bool true)
theorem ok_is_level (T : Txt K w mg tM tS aS aF aW) (F : Fd K mg "is_level" s_is_level) (C_is_whole : Ca P w K mg base "is_whole" P_is_whole 1 (sp_is_whole K)) : Ca P w K mg base "is_level" P_is_level 2 (sp_is_level K) := by
  refine F.mk sc_is_level (fun _ _ _ _ _ _ us hl => match us, hl with | [_], _ => rfl) (spF_len fun _ => rfl) (fun f cdv A outer s H vs Q E hr h => ?_)
  obtain ⟨i, hv, hi, k⟩ := h
  obtain ⟨v, rfl, h0⟩ := hv.inv1
  refine ⟨_, (pss_one (ps_ret (pe_and (pe_ca C_is_whole hr (pa_cons (pv 0) pa_nil)) (pe_one (pe_chain op_le op_le pe_int (pv 0) (pe_glob rfl T.gMOST T.rMOST)))))), ?_⟩
  refine s_retN (en_and (en_call i (eg_cons (en_var rfl h0) eg_nil) trivial) fun _ => en_chain en_int (en_var rfl h0) en_int) fun v H1 e hd => k v H1 e ?_
  have e1 : (true && (decide ((0 : Int) ≤ i) && decide (i ≤ 40))) = true := by simp [hi.1, hi.2]
  rw [e1] at hd
  exact hd
abbrev s_is_code : Stmt := top 12
abbrev N_is_code : List Str := ["thing", "sign"]
abbrev P_is_code : List Str := ["thing"]
theorem sc_is_code : FnScope N_is_code P_is_code (defScope s_is_code) := ⟨rfl, rfl, rfl, by decide +kernel, rfl, by decide +kernel, by decide +kernel⟩
theorem nd_is_code : N_is_code.Nodup := sc_is_code.nd
def sp_is_code (K : PySem.W.Frag) : Sp := spF K (fun c : Cd => [dC c]) (fun c => c.length ≤ 40) (fun _ => .bool true)
theorem ok_is_code (T : Txt K w mg tM tS aS aF aW) (F : Fd K mg "is_code" s_is_code) : Ca P w K mg base "is_code" P_is_code 1 (sp_is_code K) := by
  refine F.mk sc_is_code (fun _ _ _ _ _ _ us hl => match us, hl with | [_], _ => rfl) (spF_len fun _ => rfl) (fun f cdv A outer s H vs Q E hr h => ?_)
  obtain ⟨c, hv, hc, k⟩ := h
  obtain ⟨v, rfl, h0⟩ := hv.inv1
  refine ⟨_, (pss_cons (ps_if (PW.pt (pw_or (pt_not (pt_val (pe_callB call_isi (by rfl) T.isinstance b_isinstance (pa_cons (pv 0) (pa_cons (pe_bltn (v := .ty "str") (by rfl) T.str b_str rfl) pa_nil))))) (pw_or1 (pt_cmpR op_gt (pe_callB call_len_str (by rfl) T.len b_len (pa_cons (pv 0) pa_nil)) (pe_glob rfl T.gMOST T.rMOST) (nomark _))))) (pss_one (ps_ret pe_bl)) pss_nil)
      (pss_one (ps_ret (pe_callB (cr_all rfl) (by rfl) T.all b_all (pa_cons (pe_lc (own := [("sign", 1)]) rfl nd_is_code (pi_str (pv 0)) (blkOk_by (own := [("sign", 1)]) (N := N_is_code) (sc := defScope s_is_code) (by decide +kernel)) (fun _ _ _ _ _ => (pg_name (i := 1) (nd_is_code) rfl (Or.inl rfl))) (fun _ _ _ _ _ => pts_nil) (fun _ _ _ _ _ => (pe_cmpR op_in_sign (pv 1) (pe_glob rfl T.gSIGNS T.rSIGNS) rfl))) pa_nil))))), ?_⟩
  refine q_no (et_is (et_or (et_not (et_v (en_isST (en_var rfl h0)))) fun _ => et_n (en_cmp (en_lenS (en_var rfl h0) (by rw [cs_len]; omega)) en_int)) (by rw [cs_len]; simp; omega)) fun H1 e1 => ?_
  refine s_retN ((en_all (bs := c.map fun _ => true) ?_).cast (by simp)) fun v' H2 e2 hd => k v' H2 (e1.trans e2) hd
  have el := el_lc (K := K) (σ := [some v, none]) (H := H1) (wi := iStr (tVar 0)) (g := gName 1) (tt := tYes) (te := tOp (fun x y H Q => ∃ (c : Nat) (z : Str), x = .str ⟨#[c]⟩ ∧ y = .str z ∧ Q (.bl (decide (c ∈ z.cps.toList))) H) (tVar 1) (tC (.str "0123"))) (vs := [1]) (xs := c) (enc := fun q => .str ⟨#[dg q]⟩)
    (fun _ => true) (fun _ => .bool true) (by rw [← signs_cs]; exact ei_str (en_var rfl (h0.ex e1))) (by omega) (fun q x H'' _ _ hx M hM => hM _ rfl (fun H1 a Q q => q H1 (Ex.refl _)) fun _ => (en_inS (en_var rfl hx) en_str).cast (by rw [dg_in]))
  rw [List.filter_eq_self.mpr (fun _ _ => rfl)] at el
  rw [List.map_map]
  exact el
abbrev s_check_code : Stmt := top 15
abbrev N_check_code : List Str := ["code"]
abbrev P_check_code : List Str := ["code"]
theorem sc_check_code : FnScope N_check_code P_check_code (defScope s_check_code) := ⟨rfl, rfl, rfl, by decide +kernel, rfl, by decide +kernel, by decide +kernel⟩
theorem nd_check_code : N_check_code.Nodup := sc_check_code.nd
def sp_check_code (K : PySem.W.Frag) : Sp := spF K (fun c : Cd => [dC c]) (fun c => c.length ≤ 40) (fun _ => .none)
theorem ok_check_code (T : Txt K w mg tM tS aS aF aW) (F : Fd K mg "check_code" s_check_code) (C_is_code : Ca P w K mg base "is_code" P_is_code 1 (sp_is_code K)) : Ca P w K mg base "check_code" P_check_code 2 (sp_check_code K) := by
  refine F.mk sc_check_code (fun _ _ _ _ _ _ us hl => match us, hl with | [_], _ => rfl) (spF_len fun _ => rfl) (fun f cdv A outer s H vs Q E hr h => ?_)
  obtain ⟨c, hv, hc, k⟩ := h
  obtain ⟨v, rfl, h0⟩ := hv.inv1
  refine ⟨_, (pss_one (ps_if (pt_not (pt_val (pe_ca C_is_code hr (pa_cons (pv 0) pa_nil)))) (pss_one ps_never) pss_nil)), ?_⟩
  exact s_no (et_is (et_not (et_v (en_call c (eg_cons (en_var rfl h0) eg_nil) hc))) rfl) fun H1 e1 => k _ H1 e1 .non
abbrev s_check_level : Stmt := top 16
abbrev N_check_level : List Str := ["code", "level"]
abbrev P_check_level : List Str := ["code", "level"]
theorem sc_check_level : FnScope N_check_level P_check_level (defScope s_check_level) := ⟨rfl, rfl, rfl, by decide +kernel, rfl, by decide +kernel, by decide +kernel⟩
theorem nd_check_level : N_check_level.Nodup := sc_check_level.nd
def sp_check_level (K : PySem.W.Frag) : Sp := spF K (fun x : Cd × Nat => [dC x.1, .int x.2]) (fun x => x.1.length ≤ x.2 ∧ x.2 ≤ 40) (fun _ => .none)
theorem ok_check_level (T : Txt K w mg tM tS aS aF aW) (F : Fd K mg "check_level" s_check_level) (C_is_level : Ca P w K mg base "is_level" P_is_level 2 (sp_is_level K)) : Ca P w K mg base "check_level" P_check_level 3 (sp_check_level K) := by
  refine F.mk sc_check_level (fun _ _ _ _ _ _ us hl => match us, hl with | [_, _], _ => rfl) (spF_len fun _ => rfl) (fun f cdv A outer s H vs Q E hr h => ?_)
  obtain ⟨⟨c, L⟩, hv, ⟨hc, hL⟩, k⟩ := h
  obtain ⟨v, u, rfl, h0, h1⟩ := hv.inv2
  simp only at h0 h1 hc hL
  refine ⟨_, (pss_one (ps_if (PW.pt (pw_or (pt_not (pt_val (pe_ca C_is_level hr (pa_cons (pv 1) pa_nil)))) (pw_or1 (pt_cmpR op_lt (pv 1) (pe_callB call_len_str (by rfl) T.len b_len (pa_cons (pv 0) pa_nil)) (nomark _))))) (pss_one ps_never) pss_nil)), ?_⟩
  refine s_no (et_is (et_or (et_not (et_v (en_call (L : Int) (eg_cons (en_var rfl h1) eg_nil) ⟨by omega, by omega⟩))) fun _ => et_n (en_cmp (en_var rfl h1) (en_lenS (en_var rfl h0) (by rw [cs_len]; omega)))) ?_) fun H1 e1 => k _ H1 e1 .non
  rw [cs_len]
  simp; omega
abbrev s_check_place : Stmt := top 17
abbrev N_check_place : List Str := ["x", "y", "level", "wide", "one"]
abbrev P_check_place : List Str := ["x", "y", "level"]
theorem sc_check_place : FnScope N_check_place P_check_place (defScope s_check_place) := ⟨rfl, rfl, rfl, by decide +kernel, rfl, by decide +kernel, by decide +kernel⟩
theorem nd_check_place : N_check_place.Nodup := sc_check_place.nd
def sp_check_place (K : PySem.W.Frag) : Sp := spF K (fun x : Int × Int × Nat => [.int x.1, .int x.2.1, .int x.2.2]) (fun x => x.2.2 ≤ 40 ∧ 0 ≤ x.1 ∧ x.1 < QS.pw x.2.2 ∧ 0 ≤ x.2.1 ∧ x.2.1 < QS.pw x.2.2) (fun _ => .none)
theorem ok_check_place (T : Txt K w mg tM tS aS aF aW) (F : Fd K mg "check_place" s_check_place) (C_is_whole : Ca P w K mg base "is_whole" P_is_whole 1 (sp_is_whole K)) : Ca P w K mg base "check_place" P_check_place 2 (sp_check_place K) := by
  refine F.mk sc_check_place (fun _ _ _ _ _ _ us hl => match us, hl with | [_, _, _], _ => rfl) (spF_len fun _ => rfl) (fun f cdv A outer s H vs Q E hr h => ?_)
  obtain ⟨⟨x, y, L⟩, hv, ⟨hL, hx0, hx1, hy0, hy1⟩, k⟩ := h
  obtain ⟨vx, vy, vl, rfl, h0, h1, h2⟩ := hv.inv3
  simp only at h0 h1 h2 hL hx0 hx1 hy0 hy1
  refine ⟨_, (pss_cons (ps_set (i := 3) nd_check_place rfl (Or.inl rfl) (pe_op op_shl pe_int (pv 2)))
      (pss_one (ps_for PassesOwn.never rfl (pi_tup (pe_tup (pa_cons (pv 0) (pa_cons (pv 1) pa_nil)))) (pg_name (i := 4) nd_check_place rfl (Or.inl rfl)) (pss_one (ps_if (PW.pt (pw_or (pt_not (pt_val (pe_ca C_is_whole hr (pa_cons (pv 4) pa_nil)))) (pw_or1 (pt_not (pt_chain op_le op_lt pe_int (pv 4) (pv 3)))))) (pss_one ps_never) pss_nil))))), ?_⟩
  refine q_set ((en_opC en_int (en_var rfl h2) ⟨by omega, by omega, by decide⟩).cast (by rw [pw_eq L _ rfl, Int.one_mul])) fun v1 H1 e1 d1 => ?_
  have hs : EvN K (tTup (tCons (tVar 0) (tCons (tVar 1) tNil))) [some vx, some vy, some vl, some v1, none] H1 (.tuple ([x, y].map PyData.int)) := en_tup (eg_cons (en_var rfl (h0.ex e1)) (eg_cons (en_var rfl (h1.ex e1)) eg_nil))
  refine s_for (m := []) (xs := [x, y]) (enc := PyData.int) (ei_tup hs) .nil (fun _ σ' _ => ∃ o, σ' = [some vx, some vy, some vl, some v1, o]) (fun _ _ => ⟨_, rfl⟩) (fun pre a post xv σ' H' H'' hxs e p e' hd N hN => ?_) (fun σ' H' e p => k _ H' (e1.trans e.ex) .non)
  obtain ⟨o, rfl⟩ := p
  have ha : a ∈ [x, y] := by rw [hxs]; simp
  have hb : 0 ≤ a ∧ a < QS.pw L := by
    simp only [List.mem_cons, List.not_mem_nil, or_false] at ha
    rcases ha with rfl | rfl <;> omega
  have ev1 : EvN K (tVar 3) [some vx, some vy, some vl, some v1, some xv] H'' (.int (QS.pw L)) := en_var rfl (d1.ex (e.ex.trans e'))
  have ev4 : EvN K (tVar 4) [some vx, some vy, some vl, some v1, some xv] H'' (.int a) := en_var rfl hd
  refine s_no (et_is (et_or (et_not (et_v (en_call a (eg_cons ev4 eg_nil) trivial))) fun _ => et_not (et_n (en_chain en_int ev4 ev1))) ?_) fun H3 e3 => hN _ _ (.of e3) ⟨_, rfl⟩
  simp [hb.1, hb.2]
abbrev s_corner : Stmt := top 18
abbrev N_corner : List Str := ["code", "level", "x", "y", "sign", "figure", "rest"]
abbrev P_corner : List Str := ["code", "level"]
theorem sc_corner : FnScope N_corner P_corner (defScope s_corner) := ⟨rfl, rfl, rfl, by decide +kernel, rfl, by decide +kernel, by decide +kernel⟩
theorem nd_corner : N_corner.Nodup := sc_corner.nd
def sp_corner (K : PySem.W.Frag) : Sp := spF K (fun x : Cd × Nat => [dC x.1, .int x.2]) (fun x => x.1.length ≤ x.2 ∧ x.2 ≤ 40) (fun x => dSq (sqr x.2 0 0 x.1))
theorem ok_corner (T : Txt K w mg tM tS aS aF aW) (F : Fd K mg "corner" s_corner) (C_check_code : Ca P w K mg base "check_code" P_check_code 2 (sp_check_code K)) (C_check_level : Ca P w K mg base "check_level" P_check_level 3 (sp_check_level K)) : Ca P w K mg base "corner" P_corner 4 (sp_corner K) := by
  refine F.mk sc_corner (fun _ _ _ _ _ _ us hl => match us, hl with | [_, _], _ => rfl) (spF_len fun _ => rfl) (fun f cdv A outer s H vs Q E hr h => ?_)
  obtain ⟨⟨c, L⟩, hv, ⟨hc, hL⟩, k⟩ := h
  obtain ⟨v, u, rfl, h0, h1⟩ := hv.inv2
  simp only at h0 h1 hc hL
  refine ⟨_, (pss_cons (ps_expr (pe_ca C_check_code hr (pa_cons (pv 0) pa_nil)))
      (pss_cons (ps_expr (pe_ca C_check_level hr (pa_cons (pv 0) (pa_cons (pv 1) pa_nil))))
      (pss_cons (ps_set (i := 2) nd_corner rfl (Or.inl rfl) pe_int)
      (pss_cons (ps_set (i := 3) nd_corner rfl (Or.inl rfl) pe_int)
      (pss_cons (ps_for PassesOwn.never rfl (pi_str (pv 0)) (pg_name (i := 4) nd_corner rfl (Or.inl rfl)) (pss_cons (ps_set (i := 5) nd_corner rfl (Or.inl rfl) (pe_callTy call_int_str (by rfl) T.int b_int (pa_cons (pv 4) pa_nil)))
      (pss_cons (ps_set (i := 2) nd_corner rfl (Or.inl rfl) (pe_op op_add (pe_op op_mul pe_int (pv 2)) (pe_op op_and (pv 5) pe_int)))
      (pss_one (ps_set (i := 3) nd_corner rfl (Or.inl rfl) (pe_op op_add (pe_op op_mul pe_int (pv 3)) (pe_op op_shr (pv 5) pe_int)))))))
      (pss_cons (ps_set (i := 6) nd_corner rfl (Or.inl rfl) (pe_op op_sub (pv 1) (pe_callB call_len_str (by rfl) T.len b_len (pa_cons (pv 0) pa_nil))))
      (pss_one (ps_ret (pe_tup (pa_cons (pe_op op_shl (pv 2) (pv 6)) (pa_cons (pe_op op_shl (pv 3) (pv 6)) (pa_cons (pe_op op_shl pe_int (pv 6)) pa_nil)))))))))))), ?_⟩
  refine q_do (en_call c (eg_cons (en_var rfl h0) eg_nil) (by omega)) fun H1 e1 => ?_
  refine q_do (en_call (c, L) (eg_cons (en_var rfl (h0.ex e1)) (eg_cons (en_var rfl (h1.ex e1)) eg_nil)) ⟨hc, hL⟩) fun H2 e2 => ?_
  refine q_set (K := K) en_int fun v2 H3 e3 d2 => ?_
  refine q_set (K := K) en_int fun v3 H4 e4 d3 => ?_
  have e04 : Ex H H4 := ((e1.trans e2).trans e3).trans e4
  refine q_for (m := []) (xs := c) (enc := fun q => .str ⟨#[dg q]⟩) (by rw [← signs_cs]; exact ei_str (en_var rfl (h0.ex e04))) .nil (fun pre σ' _ => ∃ o4 o5, σ' = [some v, some u, some (.int (px pre)), some (.int (py pre)), o4, o5, none])
    (fun _ _ => ⟨_, _, by rw [d2.int_eq, d3.int_eq]; rfl⟩) (fun pre q post xv σ' H' H'' hxs e p e' hd N hN => ?_) (fun σ' H' e p => ?_)
  · obtain ⟨o4, o5, rfl⟩ := p
    refine q_set (en_intS (en_var rfl hd) (dg_int q) (by show 1 ≤ 640; decide)) fun v5 H5 e5 d5 => ?_
    refine q_set ((en_op0 (en_opC en_int (en_var rfl (.int (px pre))) (.inl ⟨by decide, by decide⟩)) (en_op0 (en_var rfl d5) en_int)).cast (by rw [and1, ← px_snoc])) fun v6 H6 e6 d6 => ?_
    refine s_setN ((en_op0 (en_opC en_int (en_var rfl (.int (py pre))) (.inl ⟨by decide, by decide⟩)) (en_opC (en_var rfl (d5.ex e6)) en_int (by decide))).cast (by rw [shr1, ← py_snoc])) fun v7 H7 e7 d7 => ?_
    exact hN _ _ (.of ((e5.trans e6).trans e7)) ⟨_, _, by rw [d6.int_eq, d7.int_eq]; rfl⟩
  · obtain ⟨o4, o5, rfl⟩ := p
    have e05 := e04.trans e.ex
    refine q_set ((en_op0 (en_var rfl (h1.ex e05)) (en_lenS (en_var rfl (h0.ex e05)) (by rw [cs_len]; omega))).cast (e := .int ((L - c.length : Nat) : Int)) (by rw [cs_len]; congr 1; omega)) fun v6 H6 e6 d6 => ?_
    have hb := px_lt c
    have hp := pw_le (L := c.length) (by omega)
    refine s_retN (en_tup (eg_cons (en_opC (en_var rfl (.int (px c))) (en_var rfl d6) ⟨by omega, by omega, by omega⟩) (eg_cons (en_opC (en_var rfl (.int (py c))) (en_var rfl d6) ⟨by omega, by omega, by omega⟩) (eg_cons (en_opC en_int (en_var rfl d6) ⟨by omega, by omega, by decide⟩) eg_nil)))) fun v7 H7 e7 d7 => k v7 H7 ((e05.trans e6).trans e7) ?_
    show Dn K H7 v7 (dSq (sqr L 0 0 c))
    rw [sqr_px hc]
    rw [pw_eq (L - c.length) _ rfl, Int.one_mul] at d7
    exact d7
end
end QW
set_option autoImplicit true
set_option Elab.async false
set_option linter.all false
set_option maxRecDepth 100000
set_option maxHeartbeats 4000000
namespace QW
open PySem
open QS (Qd Sd Tr Sq sqr)
open QS.Qd QS.Sd
/-! ### plain mirrors -/
theorem range_split {n : Nat} {pre post : List Nat} {a : Nat} (h : List.range n = pre ++ a :: post) : a = pre.length ∧ a < n ∧ pre = List.range a := by
  have hl : pre.length < n := by
    have := congrArg List.length h
    simp at this; omega
  have h1 : (List.range n)[pre.length]? = some a := by rw [h]; simp
  rw [List.getElem?_range hl] at h1
  have e : pre.length = a := Option.some.inj h1
  refine ⟨e.symm, by omega, ?_⟩
  have h2 : (List.range n).take pre.length = pre := by rw [h]; simp
  rw [← h2, e, List.take_range]
  congr 1; omega
/-- a tree's square at a code: how far, what -/
def sqat : Tr → Cd → Nat × Tr
  | .leaf v, _ => (0, .leaf v)
  | .node a b c d, [] => (0, .node a b c d)
  | .node a b c d, q :: k => ((sqat (QS.pick a b c d q) k).1 + 1, (sqat (QS.pick a b c d q) k).2)
theorem sqat_nil (t : Tr) : sqat t [] = (0, t) := by cases t <;> rfl
theorem sqat_leaf : ∀ {t : Tr} {c : Cd}, QS.isLf t c = true → sqat t c = (c.length, .leaf (QS.col t c))
  | .leaf v, [], _ => rfl
  | .leaf v, _ :: _, h => by simp [QS.isLf] at h
  | .node .., [], h => by simp [QS.isLf] at h
  | .node a b c d, q :: k, h => by
    have ih := sqat_leaf (t := QS.pick a b c d q) (c := k) h
    show ((sqat (QS.pick a b c d q) k).1 + 1, (sqat (QS.pick a b c d q) k).2) = _
    rw [ih]; rfl
theorem sqat_le : ∀ (t : Tr) (c : Cd), (sqat t c).1 ≤ c.length
  | .leaf v, c => by rw [sqat]; exact Nat.zero_le _
  | .node .., [] => Nat.zero_le _
  | .node a b c d, q :: k => Nat.succ_le_succ (sqat_le (QS.pick a b c d q) k)
/-- along a side -/
def aln (s : Sd) : Tr → List Cd
  | .leaf _ => [[]]
  | .node a b c d => (match s with
    | .up => (aln s c).map (q2 :: ·) ++ (aln s d).map (q3 :: ·)
    | .right => (aln s a).map (q0 :: ·) ++ (aln s c).map (q2 :: ·)
    | .down => (aln s a).map (q0 :: ·) ++ (aln s b).map (q1 :: ·)
    | .left => (aln s b).map (q1 :: ·) ++ (aln s d).map (q3 :: ·))
theorem aln_node (s : Sd) (a b c d : Tr) : aln s (.node a b c d) = (aln s (QS.pick a b c d (QS.fc s).1)).map ((QS.fc s).1 :: ·) ++ (aln s (QS.pick a b c d (QS.fc s).2)).map ((QS.fc s).2 :: ·) := by cases s <;> rfl
theorem aln_look (s : Sd) : ∀ t : Tr, aln s t = QS.look s t []
  | .leaf _ => by rw [QS.look]; rfl
  | .node a b c d => by
    rw [QS.look]
    cases s <;> simp only [QS.fc, QS.pick, aln] <;> rw [aln_look, aln_look]
theorem look_sqat (s : Sd) : ∀ (t : Tr) (c : Cd), QS.look s t c = (aln s (sqat t c).2).map (c.take (sqat t c).1 ++ ·)
  | .leaf v, c => by rw [QS.look]; simp [sqat, aln]
  | .node a b c d, [] => by rw [← aln_look]; simp [sqat]
  | .node a b c d, q :: k => by
    rw [QS.look, look_sqat s (QS.pick a b c d q) k, List.map_map]
    rfl
termination_by t c => c.length
/-- the neighbour's code, from the back -/
theorem beside_back {s : Sd} {q : Qd} {post : Cd} (hq : QS.canGo s q = true) (hp : QS.beside post s = none) : ∀ pre : Cd, QS.beside (pre ++ q :: post) s = some (pre ++ QS.flip s q :: post.map (QS.flip s))
  | [] => by rw [List.nil_append, QS.beside, hp]; simp [hq]
  | p :: pre => by rw [List.cons_append, QS.beside, beside_back hq hp pre]; rfl
theorem beside_no {s : Sd} {q : Qd} {post : Cd} (hq : QS.canGo s q = false) (hp : QS.beside post s = none) : QS.beside (q :: post) s = none := by
  rw [QS.beside, hp]; simp [hq]
theorem xor_flip (s : Sd) (q : Qd) : Builtin.bitXor (q.num : Int) (wbit s) = ((QS.flip s q).num : Int) := by cases s <;> cases q <;> decide +kernel
theorem and_go (s : Sd) (q : Qd) : decide (decide (Builtin.bitAnd (q.num : Int) (wbit s) = 0) = wmore s) = QS.canGo s q := by cases s <;> cases q <;> decide +kernel
/-! ### the code of a place -/
def qb (a b : Int) : Qd := if a = 0 then (if b = 0 then q0 else q2) else (if b = 0 then q1 else q3)
def codeAt (L : Nat) (x y : Int) : Cd := (List.range L).map fun i => qb (x / 2 ^ (L - 1 - i) % 2) (y / 2 ^ (L - 1 - i) % 2)
theorem codeAt_len (L : Nat) (x y : Int) : (codeAt L x y).length = L := by simp [codeAt]
theorem qb_num {a b : Int} (ha : a = 0 ∨ a = 1) (hb : b = 0 ∨ b = 1) : ((qb a b).num : Int) = b * 2 + a := by
  rcases ha with rfl | rfl <;> rcases hb with rfl | rfl <;> rfl
theorem qb_q (q : Qd) : qb q.bx q.bY = q := by cases q <;> rfl
theorem bit01 (x : Int) : x % 2 = 0 ∨ x % 2 = 1 := by omega
theorem pw2 (n : Nat) : (2 : Int) ^ n = QS.pw n := rfl
theorem codeAt_take (L : Nat) (x y : Int) : ∀ (n : Nat) (c : Cd), c.length = n → n ≤ L → px c = x / QS.pw (L - n) → py c = y / QS.pw (L - n) → (codeAt L x y).take n = c
  | 0, c, h, _, _, _ => by rw [List.take_zero, List.length_eq_zero_iff.mp h]
  | n + 1, c, h, hn, hx, hy => by
    obtain ⟨c', q, rfl⟩ : ∃ c' q, c = c' ++ [q] := ⟨c.dropLast, c.getLast (by intro z; rw [z] at h; simp at h), (List.dropLast_concat_getLast _).symm⟩
    have hl : c'.length = n := by simpa using h
    rw [px_snoc] at hx
    rw [py_snoc] at hy
    have e : L - n = (L - (n + 1)) + 1 := by omega
    have hp := QS.pw_pos (L - (n + 1))
    have d2 : ∀ z : Int, z / QS.pw (L - n) = z / QS.pw (L - (n + 1)) / 2 := fun z => by
      rw [e, QS.pw_succ, Int.mul_comm, Int.ediv_ediv_of_nonneg (by omega)]
    have b1 : q.bx = 0 ∨ q.bx = 1 := by cases q <;> simp [QS.Qd.bx]
    have b2 : q.bY = 0 ∨ q.bY = 1 := by cases q <;> simp [QS.Qd.bY]
    have ih := codeAt_take L x y n c' hl (by omega) (by rw [d2]; omega) (by rw [d2]; omega)
    rw [List.take_add_one, ih]
    congr 1
    have hg : (codeAt L x y)[n]? = some (qb (x / 2 ^ (L - 1 - n) % 2) (y / 2 ^ (L - 1 - n) % 2)) := by
      unfold codeAt
      rw [List.getElem?_map, List.getElem?_range (by omega)]; rfl
    rw [hg]
    have e2 : L - 1 - n = L - (n + 1) := by omega
    rw [e2, pw2, ← hx, ← hy]
    have h1 : (2 * px c' + q.bx) % 2 = q.bx := by omega
    have h2 : (2 * py c' + q.bY) % 2 = q.bY := by omega
    rw [h1, h2, qb_q]
    rfl
theorem codeAt_leaf {L : Nat} {x y : Int} {c : Cd} (hc : c.length ≤ L) (h : (sqr L 0 0 c).has x y) : (codeAt L x y).take c.length = c := by
  rw [sqr_px hc] at h
  obtain ⟨h1, h2, h3, h4⟩ := h
  simp only at h1 h2 h3 h4
  have hp := QS.pw_pos (L - c.length)
  refine codeAt_take L x y c.length c rfl hc ?_ ?_
  · refine ((Int.ediv_eq_iff_of_pos hp).mpr ⟨?_, ?_⟩).symm
    · exact h1
    · omega
  · refine ((Int.ediv_eq_iff_of_pos hp).mpr ⟨?_, ?_⟩).symm
    · exact h3
    · omega
end QW
set_option autoImplicit true
set_option Elab.async false
set_option linter.all false
set_option maxRecDepth 100000
set_option maxHeartbeats 4000000
namespace QW
open PySem PySem.Spec PyProof.Rows L2 Evl QX
open QS (Qd Sd Tr Sq sqr)

section
variable {K : PySem.W.Frag} {σ : L2.St} {H H' : Hp} {ta tb te : TE} {tl th : TO} {d : PyData} {ds es : List PyData} {i j : Int} {b : Bool} {s u : Str} {lo hi : Option Int} {tz : TS} {D : Ends}
/-- texts -/
theorem en_cut (h : EvN K te σ H (.str s)) (h1 : EvO tl σ H lo) (h2 : EvO th σ H hi) (hl : s.length ≤ 100000) : EvN K (tSl rSlS te tl th) σ H (.str (cutS s lo hi)) := fun H1 a Q q =>
  h.vs H1 a _ fun H2 a2 => h1 H2 (a.trans a2) _ fun H3 a3 => h2 H3 ((a.trans a2).trans a3) _ fun H4 a4 => ⟨s, rfl, sz_of hl, q _ H4 ((a2.trans a3).trans a4) (.str _)⟩
theorem en_addS (ha : EvN K ta σ H (.str s)) (hb : EvN K tb σ H (.str u)) (hl : s.length + u.length ≤ 100000) : EvN K (tOp (fun x y H Q => ∃ i j, x = .str i ∧ y = .str j ∧ i.length + j.length ≤ sizeLine ∧ Q (.str (i ++ j)) H) ta tb) σ H (.str (s ++ u)) := fun H1 a Q q =>
  ha.vs H1 a _ fun H2 a2 => hb.vs H2 (a.trans a2) _ fun H3 a3 => ⟨s, u, rfl, rfl, sz_of hl, q _ H3 (a2.trans a3) (.str _)⟩
def rJoin (K : PySem.W.Frag) : V → List V → Hp → VK → Prop := fun x xs H Q => ∃ a p, ∃ ys : List Str, x = .str a ∧ xs = [.ref p] ∧ (SqL K H p (ys.map V.str) ∨ SqT K H p (ys.map V.str)) ∧ (ys.map (·.length)).sum + ys.length * a.length ≤ 16777216 ∧ Q (.str (Txt.join a ys)) H
theorem en_joinN {ys : List Str} (ha : EvN K ta σ H (.str s)) (hb : EvLs K tb σ H (ys.map .str)) (hl : (ys.map (·.length)).sum + ys.length * s.length ≤ 16777216) : EvN K (tM1 (rJoin K) ta tb) σ H (.str (Txt.join s ys)) := fun H1 a Q q =>
  ha.vs H1 a _ fun H2 a2 => ⟨⟨s, rfl⟩, hb H2 (a.trans a2) _ fun p vs H3 np a3 hp hs => ⟨s, p, ys, rfl, rfl, .inl (by rw [← hs.strs]; exact .inl (.inl hp)), hl, q _ H3 (a2.trans a3) (.str _)⟩⟩
theorem en_joinL {ys : List Str} {p : Addr} {vs : List V} (ha : EvN K ta σ H (.str s)) (hb : Ev tb σ H (.ref p)) (hp : H p = some (.lst vs)) (hs : DnAll K H vs (ys.map .str)) (hl : (ys.map (·.length)).sum + ys.length * s.length ≤ 16777216) : EvN K (tM1 (rJoin K) ta tb) σ H (.str (Txt.join s ys)) := fun H1 a Q q =>
  ha.vs H1 a _ fun H2 a2 => ⟨⟨s, rfl⟩, hb H2 (a.trans a2) _ fun H3 a3 => ⟨s, p, ys, rfl, rfl, .inl (by rw [← hs.strs]; exact .inl (.inl (a3 _ _ (a2 _ _ (a _ _ hp))))), hl, q _ H3 (a2.trans a3) (.str _)⟩⟩
theorem DnAll.rev : ∀ {vs : List V} {ds : List PyData}, DnAll K H vs ds → DnAll K H vs.reverse ds.reverse
  | _, _, .nil => .nil
  | _, _, .cons h r => by rw [List.reverse_cons, List.reverse_cons]; exact r.rev.snoc h
theorem el_rev {p : Addr} {vs : List V} (ha : Ev ta σ H (.ref p)) (hp : H p = some (.lst vs)) (hs : DnAll K H vs ds) : EvLs K (tListRev K ta) σ H ds.reverse := fun H1 a Q q =>
  ha H1 a _ fun H2 a2 => ⟨p, vs, rfl, .inl (.inl (a2 _ _ (a _ _ hp))), fun l hl => q l _ _ (fresh_back a2 hl) (a2.trans (Ex.new hl)) upd_same ((hs.ex ((a.trans a2).trans (Ex.new hl))).rev)⟩
def rStrI : List V → Hp → VK → Prop := fun xs H Q => ∃ i, xs = [.int i] ∧ i.natAbs.log2 < 1920 ∧ Q (.str (toString i)) H
theorem num_str (q : Qd) : ((toString (q.num : Int) : String) : Str) = cs [q] := by cases q <;> decide +kernel
theorem en_strQ {q : Qd} (ha : EvN K ta σ H (.int q.num)) : EvN K (tCB rStrI (tCons ta tNil)) σ H (.str (cs [q])) := fun H1 a Q k =>
  ha.vi H1 a _ fun H2 a2 => ⟨q.num, rfl, by cases q <;> decide +kernel, k _ H2 a2 (by rw [num_str]; exact .str _)⟩
/-- not in a tuple of texts -/
theorem en_niT {ys : List Str} (ha : EvN K ta σ H (.str s)) (hb : EvN K tb σ H (.tuple (ys.map .str))) : EvN K (tOp (rIn K true) ta tb) σ H (.bool (!inV (.str s) (ys.map V.str))) := fun H1 a Q q =>
  ha.vs H1 a _ fun H2 a2 => hb H2 (a.trans a2) _ fun v H3 a3 hd => by
    obtain ⟨p, xs, rfl, ht, hs⟩ := hd.tup_eq
    exact ⟨p, ys.map V.str, rfl, .inr (by rw [← hs.strs]; exact ht.sq), rfl, by simp [flatV], q _ H3 (a2.trans a3) (.bl _)⟩
theorem en_isT {ys : List Str} (ha : EvN K ta σ H (.str s)) (hb : EvN K tb σ H (.tuple (ys.map .str))) : EvN K (tOp (rIn K false) ta tb) σ H (.bool (inV (.str s) (ys.map V.str))) := fun H1 a Q q =>
  ha.vs H1 a _ fun H2 a2 => hb H2 (a.trans a2) _ fun v H3 a3 hd => by
    obtain ⟨p, xs, rfl, ht, hs⟩ := hd.tup_eq
    exact ⟨p, ys.map V.str, rfl, .inr (by rw [← hs.strs]; exact ht.sq), rfl, by simp [flatV], q _ H3 (a2.trans a3) (.bl _)⟩
theorem q_unpack2 {i j : Nat} {d1 d2 : PyData} (h : EvN K te σ H (.tuple [d1, d2])) (q : ∀ v1 v2 H1, Ex H H1 → Dn K H1 v1 d1 → Dn K H1 v2 d2 → tz D ((σ.set i (some v1)).set j (some v2)) H1) : tSeq (tAsg te (gTup K 2 (gCons (gName i) (gCons (gName j) gNil)))) tz D σ H :=
  q_unpack h rfl fun vs H1 e hs => by
    obtain ⟨v1, v2, rfl, h1, h2⟩ := hs.inv2
    exact ⟨v1, _, rfl, v2, _, rfl, rfl, q v1 v2 H1 e h1 h2⟩
theorem q_unpack3 {i j k : Nat} {d1 d2 d3 : PyData} (h : EvN K te σ H (.tuple [d1, d2, d3])) (q : ∀ v1 v2 v3 H1, Ex H H1 → Dn K H1 v1 d1 → Dn K H1 v2 d2 → Dn K H1 v3 d3 → tz D (((σ.set i (some v1)).set j (some v2)).set k (some v3)) H1) : tSeq (tAsg te (gTup K 3 (gCons (gName i) (gCons (gName j) (gCons (gName k) gNil))))) tz D σ H :=
  q_unpack h rfl fun vs H1 e hs => by
    obtain ⟨v1, v2, v3, rfl, h1, h2, h3⟩ := hs.inv3
    exact ⟨v1, _, rfl, v2, _, rfl, v3, _, rfl, rfl, q v1 v2 v3 H1 e h1 h2 h3⟩
/-- the same as a target of a loop -/
theorem g_two {i j : Nat} {x : V} {d1 d2 : PyData} {M : L2.St → Hp → Prop} (h : Dn K H x (.tuple [d1, d2])) (q : ∀ v1 v2, Dn K H v1 d1 → Dn K H v2 d2 → M ((σ.set i (some v1)).set j (some v2)) H) : gTup K 2 (gCons (gName i) (gCons (gName j) gNil)) x σ H M := by
  obtain ⟨p, xs, rfl, ht, hs⟩ := h.tup_eq
  obtain ⟨v1, v2, rfl, h1, h2⟩ := hs.inv2
  exact ⟨p, _, rfl, ht.sq, rfl, v1, _, rfl, v2, _, rfl, rfl, q v1 v2 h1 h2⟩
theorem g_three {i j k : Nat} {x : V} {d1 d2 d3 : PyData} {M : L2.St → Hp → Prop} (h : Dn K H x (.tuple [d1, d2, d3])) (q : ∀ v1 v2 v3, Dn K H v1 d1 → Dn K H v2 d2 → Dn K H v3 d3 → M (((σ.set i (some v1)).set j (some v2)).set k (some v3)) H) : gTup K 3 (gCons (gName i) (gCons (gName j) (gCons (gName k) gNil))) x σ H M := by
  obtain ⟨p, xs, rfl, ht, hs⟩ := h.tup_eq
  obtain ⟨v1, v2, v3, rfl, h1, h2, h3⟩ := hs.inv3
  exact ⟨p, _, rfl, ht.sq, rfl, v1, _, rfl, v2, _, rfl, v3, _, rfl, rfl, q v1 v2 v3 h1 h2 h3⟩
/-- is None -/
def rIsNo : R2 := fun x y H Q => y = .non ∧ Q (.bl (decide (x = .non))) H
theorem en_isNT (ha : EvN K ta σ H .none) : EvN K (tOp rIsNo ta (tC .non)) σ H (.bool true) := fun H1 a Q q => ha.vn H1 a _ fun H2 a2 => ⟨rfl, q _ H2 a2 (.bl _)⟩
theorem en_isNF (ha : EvN K ta σ H (.str s)) : EvN K (tOp rIsNo ta (tC .non)) σ H (.bool false) := fun H1 a Q q => ha.vs H1 a _ fun H2 a2 => ⟨rfl, q _ H2 a2 (by rw [show decide (V.str s = V.non) = false by simp]; exact .bl _)⟩
/-- xs.extend(e), e a new list -/
theorem s_ext {l : Addr} {ws : List V} (hl : H l = some (.lst ws)) (ha : Ev ta σ H (.ref l)) (h : EvLs K te σ H ds) (hz : ws.length + ds.length ≤ 10000000) (k : ∀ vs H1, Ex H H1 → DnAll K H1 vs ds → D.nx σ (upd H1 l (.lst (ws ++ vs)))) :
    tDrop (tBM K "list" rExtend ta (tCons te tNil)) D σ H := ha H (Ex.refl H) _ fun H1 e1 =>
  ⟨.inl ⟨rfl, ws, sq_of (e1 l _ hl)⟩, h H1 e1 _ fun p vs H2 np e2 hp hv => ⟨l, p, ws, vs, rfl, rfl, e2 l _ (e1 l _ hl), hp, Nat.le_trans (by rw [hv.len]; exact hz) (show 10000000 ≤ sizeLine by decide), k vs H2 (e1.trans e2) hv⟩⟩
/-- len of a new list, of a tuple -/
theorem en_lenL {p : Addr} {vs : List V} (ha : Ev ta σ H (.ref p)) (hp : H p = some (.lst vs)) : EvN K (tCB (rLenS K) (tCons ta tNil)) σ H (.int vs.length) := ei (ev_len ha (sq_of hp))
/-- a conditional expression -/
theorem en_if {tt : TT} (h : EvT tt σ H b) (h1 : b = true → EvN K ta σ H d) (h2 : b = false → EvN K tb σ H d) : EvN K (tIf tt ta tb) σ H d := fun H1 a Q q => h H1 a _ fun H2 a2 => by
  cases b with
  | true => exact iteT (h1 rfl H2 (a.trans a2) _ fun v H3 a3 => q v H3 (a2.trans a3))
  | false => exact iteF (h2 rfl H2 (a.trans a2) _ fun v H3 a3 => q v H3 (a2.trans a3))
end
theorem ex_back {H H3 H' : Hp} {p : Addr} (e0 : Ex H H3) (n : H p = none) (e : ExB [p] H3 H') : Ex H H' := fun a o h => e a o (fun z => by simp at z; subst z; rw [n] at h; cases h) (e0 a o h)
theorem cut_to (c : Cd) (n : Nat) (h : n ≤ c.length) : cutS (cs c) none (some (n : Int)) = cs (c.take n) := by
  refine str_eq ?_
  unfold cutS
  rw [HT.sIx_none, HT.sIx_nat, cs_toList, cs_toList, cs_len, Nat.min_eq_left h, Nat.sub_zero, List.drop_zero, ← List.map_take]
theorem cut_from (c : Cd) (n : Nat) (h : n ≤ c.length) : cutS (cs c) (some (n : Int)) none = cs (c.drop n) := by
  refine str_eq ?_
  unfold cutS
  rw [HT.sIx_none, HT.sIx_nat, cs_toList, cs_toList, cs_len, Nat.min_eq_left h]
  show (List.take _ _) = _
  rw [← List.map_drop, List.take_of_length_le (by simp)]
theorem join_cs (c : Cd) : Txt.join "" (c.map fun q => cs [q]) = cs c := by
  refine str_eq ?_
  rw [TL.join_eq, cs_toList]
  show TL.tl _ = _
  rw [TL.tl_join]
  have : ∀ l : Cd, TL.joinL (TL.tl "") ((l.map fun q => cs [q]).map TL.tl) = l.map dg := by
    intro l
    induction l with
    | nil => rfl
    | cons q l ih =>
      cases l with
      | nil => rfl
      | cons r l =>
        show TL.tl (cs [q]) ++ (TL.tl "" ++ TL.joinL (TL.tl "") (((r :: l).map fun q => cs [q]).map TL.tl)) = _
        rw [ih]; rfl
  exact this c
theorem join_len (c : Cd) : ((c.map fun q => cs [q]).map (·.length)).sum = c.length := by
  induction c with
  | nil => rfl
  | cons q l ih => rw [List.map_cons, List.map_cons, List.sum_cons, ih]; show 1 + _ = _; rw [List.length_cons, Nat.add_comm]
theorem sides_in (s : Sd) : inV (.str (sn s)) ([("up" : Str), "right", "down", "left"].map V.str) = true := by cases s <;> decide +kernel
theorem signs_at (q : Qd) : ("0123" : Str).cps.toList[((q.num : Int)).toNat]? = some (dg q) := by cases q <;> decide +kernel
theorem dg_cs (q : Qd) : (⟨#[dg q]⟩ : Str) = cs [q] := rfl
section
variable {K : PySem.W.Frag} {w : World} {mg : Str → Option Value} {tM tS : Tok} {aS aF aW : Addr} {σ : L2.St} {H : Hp} {tb : TE} {s : Sd}
theorem Txt.enWays (T : Txt K w mg tM tS aS aF aW) (hb : EvN K tb σ H (dS s)) : EvN K (tOp (rIxD K w) (tC (.ref aW)) tb) σ H (.tuple [.int (wbit s), .bool (wmore s)]) := fun H1 a Q q =>
  hb.vs H1 a _ fun H2 a2 => by
    obtain ⟨p, h1, h2⟩ := T.ways s
    exact ⟨aW, _, _, rfl, rfl, h1, q _ H2 a2 (.tup (h2 H2) (.cons (.int _) (.cons (.bl _) .nil)))⟩
theorem Txt.enFacing (T : Txt K w mg tM tS aS aF aW) (hb : EvN K tb σ H (dS s)) : EvN K (tOp (rIxD K w) (tC (.ref aF)) tb) σ H (.tuple [.int (QS.fc s).1.num, .int (QS.fc s).2.num]) := fun H1 a Q q =>
  hb.vs H1 a _ fun H2 a2 => by
    obtain ⟨p, h1, h2⟩ := T.facing s
    exact ⟨aF, _, _, rfl, rfl, h1, q _ H2 a2 (.tup (h2 H2) (.cons (.int _) (.cons (.int _) .nil)))⟩
theorem Txt.enSides (T : Txt K w mg tM tS aS aF aW) : EvN K (tC (.ref aS)) σ H (.tuple (QS.sides.map dS)) := fun H1 a Q q =>
  q _ H1 (Ex.refl _) (.tup (.inr T.sides) (.cons (.str _) (.cons (.str _) (.cons (.str _) (.cons (.str _) .nil)))))
end
theorem Fd.never {P : Program} {w : World} {K : PySem.W.Frag} {mg : Str → Option Value} {base : Heap} {x : Str} {st : Stmt} {ps : List Str} {sp : Sp} (F : Fd K mg x st) (b : BindOk x st ps) (h : ∀ vs H Q E, ¬ sp vs H Q E) : Ca P w K mg base x ps 0 sp := by
  obtain ⟨f, fd, D, hm⟩ := F
  exact ⟨f, fd, ⟨fun vs H Q E z => (h _ _ _ _ z).elim, fun A outer s H args us vs Q E hr he hb hv z => (h _ _ _ _ z).elim⟩, hm, D.kp, D.bindsN b⟩
/-- a tree: is it a tuple -/
def isNd : Tr → Bool | .leaf _ => false | .node .. => true
theorem dT_ty (t : Tr) : kitB (dty (dT t)) "tuple" = some (isNd t) := by
  cases t
  · show kitB "int" "tuple" = some false; decide +kernel
  · show kitB "tuple" "tuple" = some true; decide +kernel
theorem en_isN {K : PySem.W.Frag} {te : TE} {σ : L2.St} {H : Hp} {t : Tr} (h : EvN K te σ H (dT t)) : EvN K (tCB (rIsi K) (tCons te (tCons (tC (.ty "tuple")) tNil))) σ H (.bool (isNd t)) := en_isi h (dT_ty t)
theorem en_pick {K : PySem.W.Frag} {ta tb : TE} {σ : L2.St} {H : Hp} {a b c d : Tr} {q : Qd} (ha : EvN K ta σ H (dT (.node a b c d))) (hb : EvN K tb σ H (.int q.num)) : EvN K (tOp (rIxT K) ta tb) σ H (dT (QS.pick a b c d q)) :=
  en_ixT (ds := [dT a, dT b, dT c, dT d]) ha hb (by omega) (by cases q <;> rfl)
theorem en_sign {K : PySem.W.Frag} {ta tb : TE} {σ : L2.St} {H : Hp} {c : Cd} {i : Nat} {q : Qd} {j : Int} (ha : EvN K ta σ H (dC c)) (hb : EvN K tb σ H (.int j)) (hj : j = (i : Int)) (hc : c.length ≤ 100000) (hi : c[i]? = some q) : EvN K (tOp rIxS ta tb) σ H (.str ⟨#[dg q]⟩) := by
  subst hj
  exact en_ixS ha hb (by omega) (by rw [cs_len]; exact hc) (by rw [cs_toList, Int.toNat_natCast, List.getElem?_map, hi]; rfl)
theorem en_fig {K : PySem.W.Frag} {ta tb : TE} {σ : L2.St} {H : Hp} {c : Cd} {i : Nat} {q : Qd} {j : Int} (ha : EvN K ta σ H (dC c)) (hb : EvN K tb σ H (.int j)) (hj : j = (i : Int)) (hc : c.length ≤ 100000) (hi : c[i]? = some q) : EvN K (tCB (fun xs H Q => ∃ a n, xs = [.str a] ∧ PySem.intText? a = some n ∧ a.length ≤ 640 ∧ Q (.int n) H) (tCons (tOp rIxS ta tb) tNil)) σ H (.int q.num) :=
  en_intS (en_sign ha hb hj hc hi) (dg_int q) (by show 1 ≤ 640; decide)
theorem walk_enumT {K : PySem.W.Frag} {a : Addr} {xs : List V} : Walk (Itet K a xs.length) xs.length (fun H => SqT K H a xs) (fun i H v H' => ∃ T x, v = .ref T ∧ H T = none ∧ H' = upd H T (.tup [.int (i : Nat), x]) ∧ xs[i]? = some x) :=
  ⟨fun i _ hi q => ⟨hi, xs, rfl, q⟩, fun _ q => ⟨Nat.le_refl _, xs, rfl, q⟩, fun i H v H' _ q y => by
    obtain ⟨T, x, h1, h2, h3, h4⟩ := y
    exact ⟨T, x, h1, h2, h3, h4 xs q⟩⟩
def numbered (ds : List PyData) : List PyData := ds.mapIdx fun i d => .tuple [.int (i : Nat), d]
theorem numbered_len (ds : List PyData) : (numbered ds).length = ds.length := by simp [numbered]
section
variable {K : PySem.W.Frag} {σ : L2.St} {H : Hp} {ta tl : TE} {tr : TA} {m : List Addr} {ds : List PyData} {d : PyData} {D : Ends}
theorem ei_enumT (h : EvN K ta σ H (.tuple ds)) : EvIt K (iEnumT K (tCons ta tNil)) σ H m (numbered ds) := fun H1 a mu R r =>
  h H1 a _ fun v H2 a2 hd => by
    obtain ⟨p, vs, rfl, ht, hs⟩ := hd.tup_eq
    refine ⟨p, vs, rfl, ht.sq, r _ (fun H' => SqT K H' p vs) H2 a2 ?_ fun H3 e => (ht.keep (e.tk (mu.ex a2))).sq⟩
    have w := walk_enumT (K := K) (a := p) (xs := vs)
    rw [show (numbered ds).length = vs.length by rw [numbered_len, hs.len]]
    refine w.mono (fun _ g => g) fun i H' x H'' hi g y e => ?_
    obtain ⟨T, z, rfl, hT, rfl, hz⟩ := y
    obtain ⟨d, h1, h2⟩ := hs.get' hz
    refine ⟨Ex.new hT, .tuple [.int (i : Nat), d], by simp [numbered, List.getElem?_mapIdx, h1], .tup (.inl upd_same) (.cons (.int _) (.cons ?_ .nil))⟩
    exact (h2.keep (e.tk (mu.ex a2))).ex (Ex.new hT)
theorem ei_enumL {p : Addr} {vs : List V} (h : Ev ta σ H (.ref p)) (hp : H p = some (.lst vs)) (hs : DnAll K H vs ds) (hn : p ∉ m) : EvIt K (iEnum K (tCons ta tNil)) σ H m (numbered ds) := fun H1 a mu R r =>
  h H1 a _ fun H2 a2 => by
    have e2 : H2 p = some (.lst vs) := a2 p _ (a p _ hp)
    refine ⟨p, vs, rfl, .inl (.inl e2), r _ (fun H' => SqL K H' p vs) H2 a2 ?_ fun H3 e => .inl (.inl (e p _ hn e2))⟩
    have w := walk_enum (K := K) (a := p) (xs := vs)
    rw [show (numbered ds).length = vs.length by rw [numbered_len, hs.len]]
    refine w.mono (fun _ g => g) fun i H' x H'' hi g y e => ?_
    obtain ⟨T, u, z, rfl, hT, rfl, hu, hz⟩ := y
    cases hu
    obtain ⟨d, h1, h2⟩ := hs.get' hz
    refine ⟨Ex.new hT, .tuple [.int (i : Nat), d], by simp [numbered, List.getElem?_mapIdx, h1], .tup (.inl upd_same) (.cons (.int _) (.cons ?_ .nil))⟩
    exact ((h2.keep (((TKp.ex a).trans (.ex a2)).trans (e.tk (mu.ex a2)))).ex (Ex.new hT))
/-- arguments that are not data -/
theorem eg_one {te : TE} {v : V} (h : Ev te σ H v) : EvG (tCons te tNil) σ H fun vs _ => vs = [v] := fun H1 a Q q => h H1 a _ fun H2 a2 => q _ H2 a2 rfl
theorem eg_nil' : EvG tNil σ H fun vs _ => vs = [] := fun H1 a Q q => q [] H1 (Ex.refl H1) rfl
theorem eg_conV {te : TE} {v : V} {Pr : List V → Hp → Prop} (h : Ev te σ H v) (hr : EvG tr σ H Pr) : EvG (tCons te tr) σ H fun vs H' => ∃ r, vs = v :: r ∧ Pr r H' := fun H1 a Q q =>
  h H1 a _ fun H2 a2 => hr H2 (a.trans a2) _ fun r H3 a3 hp => q _ H3 (a2.trans a3) ⟨r, rfl, hp⟩
theorem eg_conN {te : TE} {Pr : List V → Hp → Prop} (h : EvN K te σ H d) (hr : EvG tr σ H Pr) : EvG (tCons te tr) σ H fun vs H' => ∃ v r, vs = v :: r ∧ Dn K H' v d ∧ Pr r H' := fun H1 a Q q =>
  h H1 a _ fun v H2 a2 hd => hr H2 (a.trans a2) _ fun r H3 a3 hp => q _ H3 (a2.trans a3) ⟨v, r, rfl, hd.ex a3, hp⟩
theorem s_callG {sp : Sp} {Pr : List V → Hp → Prop} (h : EvG tr σ H Pr) (q : ∀ vs H1, Ex H H1 → Pr vs H1 → sp vs H1 (fun _ H' => D.nx σ H') E0) : tDrop (tCall sp [] E0 tr) D σ H := h H (Ex.refl H) _ fun vs H1 a hp => by
  rw [List.append_nil]
  exact q vs H1 a hp
theorem q_callG {sp : Sp} {tz : TS} {Pr : List V → Hp → Prop} (h : EvG tr σ H Pr) (q : ∀ vs H1, Ex H H1 → Pr vs H1 → sp vs H1 (fun _ H' => tz D σ H') E0) : tSeq (tDrop (tCall sp [] E0 tr)) tz D σ H := s_callG (D := { D with nx := tz D }) h q
end
/-! ### calls by own kinds -/
section
variable {X : Cx} {x : Str} {ps : List Str} {k n : Nat} {sp : Sp} {p pos : Pos} {e : Expr} {es : List Expr} {t : TA}
/-- a def that calls itself -/
theorem pe_caR (C : Ca X.prog X.w X.K X.mg X.base x ps k sp) (hr : Room k X.A) (ha : PA X (e :: es) t) (hg : Gl X x := by rfl) (hdb : (x == ("__debug__" : Str)) = false := by decide)
    (he : starEach (e :: es) X.env = (false, eval e X.env) :: starEach es X.env := by rfl) (hpl : (backTo pos (starEach es X.env)).any (·.1) = false := by rfl) : PE X (.Call (.Name x p) (e :: es) [] pos) (tCall sp [] E0 t) := by
  obtain ⟨f, fd, F, hm, kp, b⟩ := C
  exact pe_call F hr hg hm kp b .nil pass0 ha hdb he hpl
def keyAddr (mg : Str → Option Value) (x : Str) : Addr := match mg x with | some (.ref f) => f | _ => 0
theorem keyAddr_eq {mg : Str → Option Value} {x : Str} {f : Addr} (h : mg x = some (.ref f)) : keyAddr mg x = f := by unfold keyAddr; rw [h]
theorem pe_sortedF {q kpos : Pos} (C : Ca X.prog X.w X.K X.mg X.base x ps k sp) (hr : Room n X.A) (hm : X.mg "sorted" = none) (ha : PA X [e] t) (hk : k + 2 ≤ n := by decide) (hg : Gl X "sorted" := by rfl) (hgx : Gl X x := by rfl) (hdx : (x == ("__debug__" : Str)) = false := by decide)
    (he : backTo pos (starEach [e] X.env) = (false, eval e X.env) :: backTo pos (starEach [] X.env) := by rfl) (hpl : (backTo pos (starEach [e] X.env)).any (·.1) = false := by rfl)
    (hall : (backToKw pos (keywordEach [⟨some (Str.ofString "key"), .Name x q, kpos⟩] X.env)).all (·.1.isSome) = true := by rfl) (hnone : (backToKw pos (keywordEach [⟨some (Str.ofString "key"), .Name x q, kpos⟩] X.env)).any (·.1.isNone) = false := by rfl)
    (hks : (backToKw pos (keywordEach [⟨some (Str.ofString "key"), .Name x q, kpos⟩] X.env)).filterMap (·.1) = [Str.ofString "key"] := by rfl) :
    PE X (.Call (.Name "sorted" p) [e] [⟨some (Str.ofString "key"), .Name x q, kpos⟩] pos) (tCKw (rSortedF X.K (keyAddr X.mg x) sp) t (tCons (tC (.ref (keyAddr X.mg x))) tNil)) := by
  obtain ⟨f, fd, F, hf, kp, b⟩ := C
  rw [keyAddr_eq hf]
  exact pe_callBK (cr_sortedF F b (hr.mono hk)) hg hm b_sorted ha (pk_cons (pe_glob hgx hf (show RelV (.ref f) (.ref f) from rfl) hdx) pk_nil) (by decide) (by decide) he hpl hall hnone hks
theorem pe_minF {q kpos : Pos} (C : Ca X.prog X.w X.K X.mg X.base x ps k sp) (hr : Room n X.A) (hc : X.calm = true) (hm : X.mg "min" = none) (ha : PA X [e] t) (hk : k + 2 ≤ n := by decide) (hg : Gl X "min" := by rfl) (hgx : Gl X x := by rfl) (hdx : (x == ("__debug__" : Str)) = false := by decide)
    (he : backTo pos (starEach [e] X.env) = (false, eval e X.env) :: backTo pos (starEach [] X.env) := by rfl) (hpl : (backTo pos (starEach [e] X.env)).any (·.1) = false := by rfl)
    (hall : (backToKw pos (keywordEach [⟨some (Str.ofString "key"), .Name x q, kpos⟩] X.env)).all (·.1.isSome) = true := by rfl) (hnone : (backToKw pos (keywordEach [⟨some (Str.ofString "key"), .Name x q, kpos⟩] X.env)).any (·.1.isNone) = false := by rfl)
    (hks : (backToKw pos (keywordEach [⟨some (Str.ofString "key"), .Name x q, kpos⟩] X.env)).filterMap (·.1) = [Str.ofString "key"] := by rfl) :
    PE X (.Call (.Name "min" p) [e] [⟨some (Str.ofString "key"), .Name x q, kpos⟩] pos) (tCKw (rMinF X.K (keyAddr X.mg x) sp) t (tCons (tC (.ref (keyAddr X.mg x))) tNil)) := by
  obtain ⟨f, fd, F, hf, kp, b⟩ := C
  rw [keyAddr_eq hf]
  exact pe_callBK (cr_minF F b (hr.mono hk) hc) hg hm b_min ha (pk_cons (pe_glob hgx hf (show RelV (.ref f) (.ref f) from rfl) hdx) pk_nil) (by decide) (by decide) he hpl hall hnone hks
end
end QW
set_option autoImplicit true
set_option Elab.async false
set_option linter.all false
set_option maxRecDepth 100000
set_option maxHeartbeats 4000000
namespace QW
open PySem PySem.Spec PyProof.Rows L2 Evl QX
open QS (Qd Sd Tr Sq sqr)

/-! ### dicts by codes -/
abbrev KVs := List (L2.Key × V)
def kc (c : Cd) : L2.Key := .inr (cs c)
/-- codes, each with True -/
def marks (S : List Cd) : KVs := S.map fun c => (kc c, .bl true)
theorem kc_inj {a b : Cd} (h : kc a = kc b) : a = b := cs_inj (Sum.inr.inj h)
theorem marks_get (o : Cd) : ∀ S : List Cd, (valV (marks S) (kc o)).isSome = decide (o ∈ S)
  | [] => rfl
  | c :: S => by
    have ih := marks_get o S
    by_cases h : c = o
    · subst h
      rw [show marks (c :: S) = (kc c, .bl true) :: marks S from rfl, valV_pos (p := (kc c, V.bl true)) rfl]
      simp
    · rw [show marks (c :: S) = (kc c, .bl true) :: marks S from rfl, valV_neg (p := (kc c, V.bl true)) (fun z => h (kc_inj z)), ih]
      simp [Ne.symm h]
theorem marks_put {S : List Cd} {o : Cd} (h : o ∉ S) : putK (marks S) (kc o) (.bl true) = marks (S ++ [o]) := by
  have hn : valV (marks S) (kc o) = none := by
    have := marks_get o S
    rw [decide_eq_false h] at this
    simpa using this
  rw [putK_new _ hn]
  simp [marks]
def EvD (te : TE) (σ : L2.St) (H : Hp) (kvs : KVs) : Prop := ∀ H1, Ex H H1 → ∀ Q : VK, (∀ p H2, H1 p = none → Ex H1 H2 → H2 p = some (.dK kvs) → Q (.ref p) H2) → te σ H1 Q
section
variable {K : PySem.W.Frag} {σ : L2.St} {H : Hp} {ta tb te : TE} {tr : TA} {m : List Addr} {ds : List PyData} {d : PyData} {D : Ends} {tz t : TS} {a : Addr} {kvs : KVs} {s : Str}
theorem en_dIn (ha : EvN K ta σ H (.str s)) (hb : Ev tb σ H (.ref a)) (hd : Rd H a (.dK kvs)) : EvN K (tDIn ta tb) σ H (.bool (valV kvs (.inr s)).isSome) := fun H1 a1 Q q =>
  ha.vs H1 a1 _ fun H2 a2 => hb H2 (a1.trans a2) _ fun H3 a3 => ⟨a, _, rfl, .inl ⟨kvs, .inr s, ex_rd ((a1.trans a2).trans a3) hd, rfl, rfl⟩, q _ H3 (a2.trans a3) (.bl _)⟩
theorem en_dNi (ha : EvN K ta σ H (.str s)) (hb : Ev tb σ H (.ref a)) (hd : Rd H a (.dK kvs)) : EvN K (tDNotIn ta tb) σ H (.bool (!(valV kvs (.inr s)).isSome)) := fun H1 a1 Q q =>
  ha.vs H1 a1 _ fun H2 a2 => hb H2 (a1.trans a2) _ fun H3 a3 => ⟨a, _, rfl, .inl ⟨kvs, .inr s, ex_rd ((a1.trans a2).trans a3) hd, rfl, rfl⟩, q _ H3 (a2.trans a3) (.bl _)⟩
theorem en_dGet {v : V} (hb : Ev tb σ H (.ref a)) (ha : EvN K ta σ H (.str s)) (hd : Rd H a (.dK kvs)) (hv : valV kvs (.inr s) = some v) (hn : Dn K H v d) : EvN K (tDGet tb ta) σ H d := fun H1 a1 Q q =>
  hb H1 a1 _ fun H2 a2 => ha.vs H2 (a1.trans a2) _ fun H3 a3 => ⟨a, v, rfl, .inl ⟨kvs, .inr s, ex_rd ((a1.trans a2).trans a3) hd, rfl, hv.symm⟩, q v H3 (a2.trans a3) (hn.ex ((a1.trans a2).trans a3))⟩
theorem s_dPut {v : V} (hv : Ev te σ H v) (hb : Ev tb σ H (.ref a)) (ha : EvN K ta σ H (.str s)) (hd : H a = some (.dK kvs)) (hl : kvs.length < 100000) (k : ∀ H1, Ex H H1 → D.nx σ (upd H1 a (.dK (putK kvs (.inr s) v)))) : sDPut tb ta te D σ H :=
  hv H (Ex.refl H) _ fun H1 e1 => hb H1 e1 _ fun H2 e2 => ha.vs H2 (e1.trans e2) _ fun H3 e3 => ⟨a, _, rfl, .inl ⟨kvs, .inr s, e3 _ _ (e2 _ _ (e1 _ _ hd)), rfl, sz_lt hl, rfl⟩, k H3 ((e1.trans e2).trans e3)⟩
theorem q_dPut {v : V} (hv : Ev te σ H v) (hb : Ev tb σ H (.ref a)) (ha : EvN K ta σ H (.str s)) (hd : H a = some (.dK kvs)) (hl : kvs.length < 100000) (k : ∀ H1, Ex H H1 → tz D σ (upd H1 a (.dK (putK kvs (.inr s) v)))) : tSeq (sDPut tb ta te) tz D σ H := s_dPut (D := { D with nx := tz D }) hv hb ha hd hl k
theorem ed_new : EvD tDNewK σ H [] := fun H1 a1 Q q p hp => q p _ hp (Ex.new hp) upd_same
theorem q_setD {k : Nat} (h : EvD te σ H kvs) (q : ∀ p H1, H p = none → Ex H H1 → H1 p = some (.dK kvs) → tz D (σ.set k (some (.ref p))) H1) : tSeq (tAsg te (gName k)) tz D σ H := h H (Ex.refl H) _ fun p H1 np e hp => q p H1 np e hp
theorem ed_one {v : V} (ha : EvN K ta σ H (.str s)) (hb : Ev tb σ H v) : EvD (tDisp [(ta, tb)]) σ H [(.inr s, v)] := fun H1 a1 Q q p hp =>
  ha.vs _ (a1.trans (Ex.new hp)) _ fun H2 a2 => hb H2 ((a1.trans (Ex.new hp)).trans a2) _ fun H3 a3 => by
    have h3 : H3 p = some (.dK []) := a3 _ _ (a2 _ _ upd_same)
    refine ⟨h3, [(.inr s, v)], rfl, by simp, q p _ hp (fun b o hb => ?_) upd_same⟩
    rw [upd_ne (fun z => by rw [z, hp] at hb; cases hb)]
    exact a3 _ _ (a2 _ _ (Ex.new hp _ _ hb))
theorem eg_conD {Pr : List V → Hp → Prop} (h : EvD te σ H kvs) (hr : EvG tr σ H Pr) : EvG (tCons te tr) σ H fun vs H' => ∃ p r, vs = .ref p :: r ∧ H p = none ∧ H' p = some (.dK kvs) ∧ Pr r H' := fun H1 a1 Q q =>
  h H1 a1 _ fun p H2 np a2 hp => hr H2 (a1.trans a2) _ fun r H3 a3 hP => q _ H3 (a2.trans a3) ⟨p, r, rfl, fresh_back a1 np, a3 _ _ hp, hP⟩
/-- dict(pairs): pairs of a text and data -/
def rDictP (K : PySem.W.Frag) : List V → Hp → VK → Prop := fun xs H Q => ∃ (a : Addr) (ps : List Addr) (kvs : List (L2.Key × V)), xs = [.ref a] ∧ SqL K H a (ps.map V.ref) ∧ Paired (fun p kv => SqT K H p [kV kv.1, kv.2]) ps kvs ∧ ∀ p, H p = none → Q (.ref p) (upd H p (.dK (mergeK [] kvs)))
theorem mergeK_app : ∀ (kvs acc : KVs), ((acc ++ kvs).map (·.1)).Nodup → mergeK acc kvs = acc ++ kvs
  | [], acc, _ => by simp [mergeK]
  | kv :: kvs, acc, h => by
    have hn : valV acc kv.1 = none := by
      have h2 : kv.1 ∉ acc.map (·.1) := fun z => by
        rw [List.map_append, List.map_cons, List.nodup_append] at h
        exact h.2.2 _ z _ (by simp) rfl
      cases hv : valV acc kv.1 with
      | none => rfl
      | some x =>
        unfold valV at hv
        obtain ⟨y, hy, _⟩ := Option.map_eq_some_iff.mp hv
        exact (h2 (List.mem_map.mpr ⟨y, List.mem_of_find?_eq_some hy, by simpa using List.find?_some hy⟩)).elim
    show mergeK (putK acc kv.1 kv.2) kvs = _
    rw [putK_new _ hn, mergeK_app kvs _ (by rw [List.append_assoc]; exact h), List.append_assoc]
    rfl
theorem ed_dictP {xs : List (Str × Int)} (h : EvLs K te σ H (xs.map fun x => .tuple [.str x.1, .int x.2])) (hn : (xs.map (·.1)).Nodup) : EvD (tCB (rDictP K) (tCons te tNil)) σ H (xs.map fun x => (.inr x.1, .int x.2)) := fun H1 a1 Q q =>
  h H1 a1 _ fun p vs H2 np a2 hp hs => by
    obtain ⟨ps, h1, h2⟩ : ∃ ps : List Addr, vs = ps.map V.ref ∧ Paired (fun p kv => SqT K H2 p [kV kv.1, kv.2]) ps (xs.map fun x => ((.inr x.1 : L2.Key), V.int x.2)) := by
      clear hp hn h q
      induction xs generalizing vs with
      | nil => cases hs; exact ⟨[], rfl, .nil⟩
      | cons x xs ih =>
        cases hs with
        | cons hd hs =>
          obtain ⟨ps, rfl, h2⟩ := ih _ hs
          obtain ⟨p, ys, rfl, ht, hy⟩ := hd.tup_eq
          obtain ⟨u, v, rfl, hu, hv⟩ := hy.inv2
          rw [hu.str_eq, hv.int_eq] at ht
          exact ⟨p :: ps, rfl, .cons ht.sq h2⟩
    have e : mergeK [] (xs.map fun x => ((.inr x.1 : L2.Key), V.int x.2)) = xs.map fun x => ((.inr x.1 : L2.Key), V.int x.2) := mergeK_app _ [] (by
      rw [List.nil_append, List.map_map]
      exact (List.pairwise_map.mpr ((List.pairwise_map.mp hn).imp fun h z => h (Sum.inr.inj z))))
    exact ⟨p, ps, _, rfl, .inl (.inl (by rw [← h1]; exact hp)), h2, fun l hl => by rw [e]; exact q l _ (fresh_back a2 hl) (a2.trans (Ex.new hl)) upd_same⟩
/-- sorted(texts) -/
def rSortS (K : PySem.W.Frag) : List V → Hp → VK → Prop := fun vs H Q => ∃ (a : Addr) (zs : List Str), vs = [.ref a] ∧ SqL K H a (zs.map V.str) ∧ ∀ p, H p = none → Q (.ref p) (upd H p (.lst ((zs.mergeSort strLe).map V.str)))
theorem strs_dn {H : Hp} : ∀ zs : List Str, DnAll K H (zs.map V.str) (zs.map .str)
  | [] => .nil
  | z :: zs => .cons (.str z) (strs_dn zs)
theorem el_sorted {zs : List Str} (h : EvLs K te σ H (zs.map .str)) : EvLs K (tCB (rSortS K) (tCons te tNil)) σ H ((zs.mergeSort strLe).map .str) := fun H1 a1 Q q =>
  h H1 a1 _ fun p vs H2 np a2 hp hs => ⟨p, zs, rfl, .inl (.inl (by rw [← hs.strs]; exact hp)), fun l hl => q l _ _ (fresh_back a2 hl) (a2.trans (Ex.new hl)) upd_same (strs_dn _)⟩
end
/-! ### a thing that is locked -/
section
variable {K : PySem.W.Frag} {H H' : Hp} {d : Addr} {u : HO} {od : Obj}
theorem lk_tk (hd : H d = some u) (hn : ∀ xs, u ≠ .tup xs) : TKp H (upd H d (.frz od u)) := .upd fun xs z => by rw [hd] at z; cases z; exact hn xs rfl
theorem lk_tk' (hd : H' d = some (.frz od u)) : TKp H' (upd H' d u) := .upd fun xs z => by rw [hd] at z; cases z
theorem lk_ex {m : List Addr} (hd : H d = some u) (e : ExB m (upd H d (.frz od u)) H') (hm : d ∉ m) : ExB m H (upd H' d u) := fun a o n ha => by
  by_cases h : a = d
  · subst h
    rw [hd] at ha; cases ha
    exact upd_same
  · rw [upd_ne h]
    exact e a o n (by rw [upd_ne h]; exact ha)
end
end QW
set_option autoImplicit true
set_option Elab.async false
set_option linter.all false
set_option maxRecDepth 100000
set_option maxHeartbeats 4000000
namespace QW
open PySem PySem.Spec PyProof.Rows L2 Evl QX
open QS (Qd Sd Tr Sq sqr)
section
variable {P : Program} {w : World} {K : PySem.W.Frag} {mg : Str → Option Value} {base : Heap} {tM tS : Tok} {aS aF aW : Addr}
abbrev s_code_at : Stmt := top 19
abbrev N_code_at : List Str := ["x", "y", "level", "signs", "at"]
abbrev P_code_at : List Str := ["x", "y", "level"]
theorem sc_code_at : FnScope N_code_at P_code_at (defScope s_code_at) := ⟨rfl, rfl, rfl, by decide +kernel, rfl, by decide +kernel, by decide +kernel⟩
theorem nd_code_at : N_code_at.Nodup := sc_code_at.nd
def sp_code_at (K : PySem.W.Frag) : Sp := spF K (fun x : Int × Int × Nat => [.int x.1, .int x.2.1, .int x.2.2]) (fun x => x.2.2 ≤ 40 ∧ 0 ≤ x.1 ∧ x.1 < QS.pw x.2.2 ∧ 0 ≤ x.2.1 ∧ x.2.1 < QS.pw x.2.2) (fun x => dC (codeAt x.2.2 x.1 x.2.1))
theorem ok_code_at (T : Txt K w mg tM tS aS aF aW) (F : Fd K mg "code_at" s_code_at) (C_is_level : Ca P w K mg base "is_level" P_is_level 2 (sp_is_level K)) (C_check_place : Ca P w K mg base "check_place" P_check_place 2 (sp_check_place K)) : Ca P w K mg base "code_at" P_code_at 3 (sp_code_at K) := by
  refine F.mk sc_code_at (fun _ _ _ _ _ _ us hl => match us, hl with | [_, _, _], _ => rfl) (spF_len fun _ => rfl) (fun f cdv A outer s H vs Q E hr h => ?_)
  obtain ⟨⟨x, y, L⟩, hv, hpre, k⟩ := h
  obtain ⟨vx, vy, vl, rfl, h0, h1, h2⟩ := hv.inv3
  simp only at h0 h1 h2 hpre k
  obtain ⟨hL, hx0, hx1, hy0, hy1⟩ := id hpre
  refine ⟨_, (pss_cons (ps_if (pt_not (pt_val (pe_ca C_is_level hr (pa_cons (pv 2) pa_nil)))) (pss_one ps_never) pss_nil)
      (pss_cons (ps_expr (pe_ca C_check_place hr (pa_cons (pv 0) (pa_cons (pv 1) (pa_cons (pv 2) pa_nil)))))
      (pss_cons (ps_set (i := 3) nd_code_at rfl (Or.inl rfl) (pe_lst pa_nil))
      (pss_cons (ps_for PassesOwn.never rfl (pi_range3 (by rfl) T.range (pa_cons (pe_op op_sub (pv 2) pe_int) (pa_cons (pe_un un_neg pe_int) (pa_cons (pe_un un_neg pe_int) pa_nil)))) (pg_name (i := 4) nd_code_at rfl (Or.inl rfl)) (pss_one (ps_expr (pe_bm PySem.F.plainAttrs_list PySem.F.slot_list_append PySem.F.type_list_append mt_append (pv 3) (pa_cons (pe_ix ix_str (pe_glob rfl T.gSIGNS T.rSIGNS) (pe_op op_add (pe_op op_mul (pe_op op_and (pe_op op_shr (pv 1) (pv 4)) pe_int) pe_int) (pe_op op_and (pe_op op_shr (pv 0) (pv 4)) pe_int)) (fun _ _ => rfl)) pa_nil)))))
      (pss_one (ps_ret (pe_join pe_str (pv 3)))))))), ?_⟩
  refine q_no (et_is (et_not (et_v (en_call (L : Int) (eg_cons (en_var rfl h2) eg_nil) ⟨by omega, by omega⟩))) rfl) fun H1 e1 => ?_
  refine q_do (en_call (x, y, L) (eg_cons (en_var rfl (h0.ex e1)) (eg_cons (en_var rfl (h1.ex e1)) (eg_cons (en_var rfl (h2.ex e1)) eg_nil))) hpre) fun H2 e2 => ?_
  refine q_setL (K := K) (el_lst eg_nil) fun p vs H3 np e3 hp hs => ?_
  have e03 := (e1.trans e2).trans e3
  have hvs : vs = [] := by cases hs; rfl
  subst hvs
  refine q_for (m := [p]) (α := Nat) (enc := fun i => .int ((L : Int) - 1 + (i : Int) * -1)) (xs := List.range L) (ei_range3 (lo := (L : Int) - 1) (hi := -1) (c := -1) (n := L) (eg_cons (en_op0 (en_var rfl (h2.ex e03)) en_int) (eg_cons (en_neg en_int) (eg_cons (en_neg en_int) eg_nil))) ?_) (.one hp)
    (fun pre σ' H' => ∃ o ws, σ' = [some vx, some vy, some vl, some (.ref p), o] ∧ H' p = some (.lst ws) ∧ DnAll K H' ws (((codeAt L x y).take pre.length).map fun q => dC [q]))
    (fun H4 e4 => ⟨none, [], rfl, e4 _ _ hp, .nil⟩) (fun pre i post xv σ' H' H'' hxs e pv e' hd N hN => ?_) (fun σ' H' e pv => ?_)
  · have := RgC.neg (i := (L : Int) - 1) (j := -1) (by omega) (by omega) (by omega) (by omega)
    rw [show ((L : Int) - 1 - -1).toNat = L by omega] at this
    exact this
  · obtain ⟨o, ws, rfl, hw, hws⟩ := pv
    obtain ⟨hi, hiL, _⟩ := range_split hxs
    have tk : TKp H3 H' := e.tk (.one hp)
    have hx' : Dn K H'' vx (.int x) := ((h0.ex e03).keep tk).ex e'
    have hy' : Dn K H'' vy (.int y) := ((h1.ex e03).keep tk).ex e'
    have eI : ((L : Int) - 1 + (i : Int) * -1) = ((L - 1 - i : Nat) : Int) := by omega
    rw [eI] at hd
    have hq : ∀ z : Int, Builtin.bitAnd (z / 2 ^ ((L - 1 - i : Nat) : Int).toNat) 1 = z / 2 ^ (L - 1 - i) % 2 := fun z => by rw [bitAnd_m1]; rfl
    have hlen : ws.length ≤ 40 := by
      rw [hws.len, List.length_map, List.length_take, codeAt_len]; omega
    have ev3 : Ev (tVar 3) [some vx, some vy, some vl, some (.ref p), some xv] H'' (.ref p) := ev_var rfl
    refine s_push (K := K) (ws := ws) (d := dC [qb (x / 2 ^ (L - 1 - i) % 2) (y / 2 ^ (L - 1 - i) % 2)]) (e' _ _ hw) ev3 (en_ixS (s := "0123") (k := dg (qb (x / 2 ^ (L - 1 - i) % 2) (y / 2 ^ (L - 1 - i) % 2))) en_str ((en_op0 (en_opC (en_op0 (en_opC (en_var rfl hy') (en_var rfl hd) (by omega)) en_int) en_int ?_) (en_op0 (en_opC (en_var rfl hx') (en_var rfl hd) (by omega)) en_int)).cast (e := .int ((qb (x / 2 ^ (L - 1 - i) % 2) (y / 2 ^ (L - 1 - i) % 2)).num : Int)) ?_) (by omega) (by decide) (signs_at _)) (by omega) fun v H4 e4 hv => ?_
    · exact .inr ⟨by decide, by decide⟩
    · rw [hq, hq, qb_num (bit01 _) (bit01 _)]
    · refine hN _ _ ((ExB.of e4).upd (by simp)) ⟨_, ws ++ [v], rfl, upd_same, ?_⟩
      have tk2 := lst_tk (o := .lst (ws ++ [v])) (e4 _ _ (e' _ _ hw))
      rw [List.length_append, List.length_singleton, List.take_add_one, ← hi, show (codeAt L x y)[i]? = some (qb (x / 2 ^ (L - 1 - i) % 2) (y / 2 ^ (L - 1 - i) % 2)) by unfold codeAt; rw [List.getElem?_map, List.getElem?_range hiL]; rfl]
      rw [← hi] at hws
      rw [List.map_append]
      exact ((hws.ex (e'.trans e4)).keep tk2).snoc (hv.keep tk2)
  · obtain ⟨o, ws, rfl, hw, hws⟩ := pv
    rw [List.length_range, List.take_of_length_le (by rw [codeAt_len]; exact Nat.le_refl _)] at hws
    have hws' : DnAll K H' ws (((codeAt L x y).map fun q => cs [q]).map .str) := by rw [List.map_map]; exact hws
    refine s_retN ((en_joinL (s := "") (ys := (codeAt L x y).map fun q => cs [q]) en_str (ev_var rfl) hw hws' (by rw [join_len, codeAt_len, List.length_map, codeAt_len]; show L + L * 0 ≤ _; omega)).cast (by rw [join_cs]; rfl)) fun v H4 e4 hv => k v H4 ((ex_back e03 (fresh_back (e1.trans e2) np) e).trans e4) hv
end
end QW
set_option autoImplicit true
set_option Elab.async false
set_option linter.all false
set_option maxRecDepth 100000
set_option maxHeartbeats 4000000
namespace QW
open PySem PySem.Spec PyProof.Rows L2 Evl QX
open QS (Qd Sd Tr Sq sqr)
section
variable {P : Program} {w : World} {K : PySem.W.Frag} {mg : Str → Option Value} {base : Heap} {tM tS : Tok} {aS aF aW : Addr}
abbrev s_beside : Stmt := top 20
abbrev N_beside : List Str := ["code", "side", "bit", "more", "ends", "at", "figure"]
abbrev P_beside : List Str := ["code", "side"]
theorem sc_beside : FnScope N_beside P_beside (defScope s_beside) := ⟨rfl, rfl, rfl, by decide +kernel, rfl, by decide +kernel, by decide +kernel⟩
theorem nd_beside : N_beside.Nodup := sc_beside.nd
def dO : Option Cd → PyData | none => .none | some n => dC n
def sp_beside (K : PySem.W.Frag) : Sp := spF K (fun x : Cd × Sd => [dC x.1, dS x.2]) (fun x => x.1.length ≤ 40) (fun x => dO (QS.beside x.1 x.2))
theorem ok_beside (T : Txt K w mg tM tS aS aF aW) (F : Fd K mg "beside" s_beside) (C_check_code : Ca P w K mg base "check_code" P_check_code 2 (sp_check_code K)) : Ca P w K mg base "beside" P_beside 3 (sp_beside K) := by
  refine F.mk sc_beside (fun _ _ _ _ _ _ us hl => match us, hl with | [_, _], _ => rfl) (spF_len fun _ => rfl) (fun f cdv A outer s H vs Q E hr h => ?_)
  obtain ⟨⟨c, sd⟩, hv, hc, k⟩ := h
  obtain ⟨v, u, rfl, h0, h1⟩ := hv.inv2
  simp only at h0 h1 hc k
  refine ⟨_, (pss_cons (ps_expr (pe_ca C_check_code hr (pa_cons (pv 0) pa_nil)))
      (pss_cons (ps_if (pt_cmpR op_notIn_seq (pv 1) (pe_tup (pa_cons pe_str (pa_cons pe_str (pa_cons pe_str (pa_cons pe_str pa_nil))))) (by with_unfolding_all rfl)) (pss_one ps_never) pss_nil)
      (pss_cons (ps_asg (pe_ix ix_kdict (pe_glob rfl T.gWAYS T.rWAYS) (pv 1) (fun _ _ => rfl)) (pg_tup (by rfl) (pgs_cons (pg_name (i := 2) nd_beside rfl (Or.inl rfl)) (pgs_cons (pg_name (i := 3) nd_beside rfl (Or.inl rfl)) pgs_nil))))
      (pss_cons (ps_set (i := 4) nd_beside rfl (Or.inl rfl) (pe_lst pa_nil))
      (pss_cons (ps_for PassesOwn.never rfl (pi_range3 (by rfl) T.range (pa_cons (pe_op op_sub (pe_callB call_len_str (by rfl) T.len b_len (pa_cons (pv 0) pa_nil)) pe_int) (pa_cons (pe_un un_neg pe_int) (pa_cons (pe_un un_neg pe_int) pa_nil)))) (pg_name (i := 5) nd_beside rfl (Or.inl rfl)) (pss_cons (ps_set (i := 6) nd_beside rfl (Or.inl rfl) (pe_callTy call_int_str (by rfl) T.int b_int (pa_cons (pe_ix ix_str (pv 0) (pv 5) (fun _ _ => rfl)) pa_nil)))
      (pss_cons (ps_expr (pe_bm PySem.F.plainAttrs_list PySem.F.slot_list_append PySem.F.type_list_append mt_append (pv 4) (pa_cons (pe_ix ix_str (pe_glob rfl T.gSIGNS T.rSIGNS) (pe_op op_xor (pv 6) (pv 2)) (fun _ _ => rfl)) pa_nil)))
      (pss_one (ps_if (pt_cmpR op_eq (pe_cmpR op_eq (pe_op op_and (pv 6) (pv 2)) pe_int (nomark _)) (pv 3) (nomark _)) (pss_one (ps_ret (pe_op op_add_str (pe_slice sl_str (pv 0) po_none (po_some (pv 5))) (pe_join pe_str (pe_listRev rfl (by rfl) T.list (by rfl) T.reversed (pv 4)))))) pss_nil)))))
      (pss_one (ps_ret pe_non))))))), ?_⟩
  refine q_do (en_call c (eg_cons (en_var rfl h0) eg_nil) hc) fun H1 e1 => ?_
  refine q_no (et_is (et_n (en_niT (ys := ["up", "right", "down", "left"]) (en_var rfl (h1.ex e1)) (en_tup (eg_cons en_str (eg_cons en_str (eg_cons en_str (eg_cons en_str eg_nil))))))) (by rw [sides_in]; rfl)) fun H2 e2 => ?_
  refine q_unpack2 (T.enWays (en_var rfl (h1.ex (e1.trans e2)))) fun vb vm H3 e3 hb hm => ?_
  have e03 := (e1.trans e2).trans e3
  refine q_setL (K := K) (el_lst eg_nil) fun p ws0 H4 np e4 hp hs0 => ?_
  have hw0 : ws0 = [] := by cases hs0; rfl
  subst hw0
  have e04 := e03.trans e4
  have npH : H p = none := fresh_back e03 np
  refine q_for (m := [p]) (α := Nat) (enc := fun i => .int ((c.length : Int) - 1 + (i : Int) * -1)) (xs := List.range c.length) (ei_range3 (lo := (c.length : Int) - 1) (hi := -1) (c := -1) (n := c.length) (eg_cons ((en_op0 (en_lenS (en_var rfl (h0.ex e04)) (by rw [cs_len]; omega)) en_int).cast (by rw [cs_len])) (eg_cons (en_neg en_int) (eg_cons (en_neg en_int) eg_nil))) ?_) (.one hp)
    (fun pre σ' H' => ∃ o1 o2 ws, σ' = [some v, some u, some vb, some vm, some (.ref p), o1, o2] ∧ H' p = some (.lst ws) ∧ DnAll K H' ws ((((c.drop (c.length - pre.length)).map (QS.flip sd)).reverse).map fun q => dC [q]) ∧ QS.beside (c.drop (c.length - pre.length)) sd = none)
    (fun H5 e5 => ⟨none, none, [], rfl, e5 _ _ hp, by rw [show c.length - ([] : List Nat).length = c.length from Nat.sub_zero _, List.drop_length]; exact .nil, by rw [show c.length - ([] : List Nat).length = c.length from Nat.sub_zero _, List.drop_length]; rfl⟩) (fun pre i post xv σ' H' H'' hxs e pv e' hd N hN => ?_) (fun σ' H' e pv => ?_)
  · have := RgC.neg (i := (c.length : Int) - 1) (j := -1) (by omega) (by omega) (by omega) (by omega)
    rw [show ((c.length : Int) - 1 - -1).toNat = c.length by omega] at this
    exact this
  · obtain ⟨o1, o2, ws, rfl, hw, hws, hno⟩ := pv
    obtain ⟨hi, hiL, _⟩ := range_split hxs
    have tk : TKp H4 H' := e.tk (.one hp)
    have hc' : Dn K H'' v (dC c) := ((h0.ex e04).keep tk).ex e'
    have hb' : Dn K H'' vb (.int (wbit sd)) := ((hb.ex e4).keep tk).ex e'
    have hm' : Dn K H'' vm (.bool (wmore sd)) := ((hm.ex e4).keep tk).ex e'
    have eI : ((c.length : Int) - 1 + (i : Int) * -1) = ((c.length - 1 - i : Nat) : Int) := by omega
    rw [eI] at hd
    rw [← hi] at hws hno
    obtain ⟨q, hq⟩ : ∃ q, c[c.length - 1 - i]? = some q := ⟨_, List.getElem?_eq_getElem (by omega)⟩
    have hdrop : c.drop (c.length - (i + 1)) = q :: c.drop (c.length - i) := by
      have h1 : c.length - (i + 1) < c.length := by omega
      rw [List.drop_eq_getElem_cons h1]
      congr 1
      · have : c.length - (i + 1) = c.length - 1 - i := by omega
        have h2 := List.getElem?_eq_getElem h1
        rw [show c[c.length - (i + 1)]? = some q by rw [this]; exact hq] at h2
        exact (Option.some.inj h2).symm
      · congr 1; omega
    have hlen : ws.length ≤ 40 := by
      rw [hws.len, List.length_map, List.length_reverse, List.length_map, List.length_drop]; omega
    refine q_set (en_fig (en_var rfl hc') (en_var rfl hd) rfl (by omega) hq) fun vf H6 e6 hf => ?_
    refine q_push (K := K) (ws := ws) (d := dC [QS.flip sd q]) (e6 _ _ (e' _ _ hw)) (ev_var rfl) (en_ixS (s := "0123") (k := dg (QS.flip sd q)) en_str ((en_op0 (en_var rfl hf) (en_var rfl (hb'.ex e6))).cast (by rw [xor_flip])) (by omega) (by decide) (signs_at _)) (by omega) fun vp H7 e7 hvp => ?_
    have hw7 := e7 _ _ (e6 _ _ (e' _ _ hw))
    have tk2 := lst_tk (o := .lst (ws ++ [vp])) hw7
    have tk47 : TKp H'' (upd H7 p (.lst (ws ++ [vp]))) := (TKp.ex (e6.trans e7)).trans tk2
    have hws7 : DnAll K (upd H7 p (.lst (ws ++ [vp]))) (ws ++ [vp]) ((((c.drop (c.length - (i + 1))).map (QS.flip sd)).reverse).map fun q => dC [q]) := by
      rw [hdrop, List.map_cons, List.reverse_cons, List.map_append]
      exact ((hws.ex e').keep tk47).snoc (hvp.keep tk2)
    have hex : Ex H (upd H7 p (.lst (ws ++ [vp]))) := ex_back e04 npH (((e.trans (.of e')).trans (.of (e6.trans e7))).upd (by simp))
    have hgo := and_go sd q
    refine s_if (et_n ((en_eqB (en_eqI (en_op0 (en_var rfl ((hf.ex e7).keep tk2)) (en_var rfl (hb'.keep tk47))) en_int) (en_var rfl (hm'.keep tk47))).cast (by rw [hgo]))) (fun g H8 e8 => ?_) (fun g H8 e8 => ?_)
    · have hn : QS.beside c sd = some (c.take (c.length - 1 - i) ++ QS.flip sd q :: (c.drop (c.length - i)).map (QS.flip sd)) := by
        have := beside_back g hno (c.take (c.length - 1 - i))
        rw [← hdrop, show c.length - 1 - i = c.length - (i + 1) by omega, List.take_append_drop] at this
        rw [show c.length - 1 - i = c.length - (i + 1) by omega]
        exact this
      have hl8 : H8 p = some (.lst (ws ++ [vp])) := e8 _ _ upd_same
      have hws8 : DnAll K H8 (ws ++ [vp]) ((((c.drop (c.length - (i + 1))).map (QS.flip sd)).reverse).map fun q => dC [q]) := hws7.ex e8
      have er : EvLs K (tListRev K (tVar 4)) [some v, some u, some vb, some vm, some (.ref p), some xv, some vf] H8 ((((c.drop (c.length - (i + 1))).map (QS.flip sd)).map fun q => cs [q]).map .str) := by
        have z := el_rev (K := K) (ta := tVar 4) (σ := [some v, some u, some vb, some vm, some (.ref p), some xv, some vf]) (ev_var rfl) hl8 hws8
        rw [← List.map_reverse, List.reverse_reverse] at z
        rw [List.map_map (l := (c.drop (c.length - (i + 1))).map (QS.flip sd))]
        exact z
      have ej := en_joinN (K := K) (s := "") (ta := tC (.str "")) en_str er (by rw [join_len, show ("" : Str).length = 0 from rfl]; simp; omega)
      refine s_retN ((en_addS (en_cut (en_var rfl ((hc'.keep tk47).ex e8)) eo_none (eo_some (en_var rfl ((hd.keep tk47).ex e8)).vi) (by rw [cs_len]; omega)) ej ?_).cast (e := dO (QS.beside c sd)) ?_) fun v' H9 e9 hd9 => k v' H9 ((hex.trans e8).trans e9) hd9
      · have := cutS_length (cs c) none (some ((c.length - 1 - i : Nat) : Int))
        rw [cs_len] at this
        rw [join_cs, cs_len, List.length_map, List.length_drop]
        omega
      · rw [join_cs, cut_to c _ (by omega), ← cs_app, hn, hdrop]
        rfl
    · refine hN _ _ ((ExB.of (e6.trans e7)).upd (by simp) |>.trans (.of e8)) ⟨_, _, ws ++ [vp], rfl, e8 _ _ upd_same, ?_, ?_⟩
      · rw [List.length_append, List.length_singleton, ← hi]
        exact hws7.ex e8
      · rw [List.length_append, List.length_singleton, ← hi, hdrop]
        exact beside_no g hno
  · obtain ⟨o1, o2, ws, rfl, hw, hws, hno⟩ := pv
    rw [List.length_range, Nat.sub_self, List.drop_zero] at hno
    refine s_retN (K := K) en_non fun v' H5 e5 hd => k v' H5 ((ex_back e04 npH e).trans e5) ?_
    rw [hno]
    exact hd
end
end QW
set_option autoImplicit true
set_option Elab.async false
set_option linter.all false
set_option maxRecDepth 100000
set_option maxHeartbeats 4000000
namespace QW
open PySem PySem.Spec PyProof.Rows L2 Evl QX
open QS (Qd Sd Tr Sq sqr)
section
variable {P : Program} {w : World} {K : PySem.W.Frag} {mg : Str → Option Value} {base : Heap} {tM tS : Tok} {aS aF aW : Addr}
abbrev s_overlap : Stmt := top 21
abbrev N_overlap : List Str := ["start", "wide", "other_start", "other_wide"]
abbrev P_overlap : List Str := ["start", "wide", "other_start", "other_wide"]
theorem sc_overlap : FnScope N_overlap P_overlap (defScope s_overlap) := ⟨rfl, rfl, rfl, by decide +kernel, rfl, by decide +kernel, by decide +kernel⟩
theorem nd_overlap : N_overlap.Nodup := sc_overlap.nd
def sp_overlap (K : PySem.W.Frag) : Sp := spF K (fun x : Int × Int × Int × Int => [.int x.1, .int x.2.1, .int x.2.2.1, .int x.2.2.2]) (fun _ => True) (fun x => .int (min (x.1 + x.2.1) (x.2.2.1 + x.2.2.2) - max x.1 x.2.2.1))
theorem ok_overlap (T : Txt K w mg tM tS aS aF aW) (F : Fd K mg "overlap" s_overlap) : Ca P w K mg base "overlap" P_overlap 1 (sp_overlap K) := by
  refine F.mk sc_overlap (fun _ _ _ _ _ _ us hl => match us, hl with | [_, _, _, _], _ => rfl) (spF_len fun _ => rfl) (fun f cdv A outer s H vs Q E hr h => ?_)
  obtain ⟨⟨a, b, c, d⟩, hv, _, k⟩ := h
  obtain ⟨va, vb, vc, vd, rfl, h0, h1, h2, h3⟩ := hv.inv4
  simp only at h0 h1 h2 h3 k
  refine ⟨_, (pss_one (ps_ret (pe_op op_sub (pe_callB (call_min2 rfl) (by rfl) T.min b_min (pa_cons (pe_op op_add (pv 0) (pv 1)) (pa_cons (pe_op op_add (pv 2) (pv 3)) pa_nil))) (pe_callB (call_max2 rfl) (by rfl) T.max b_max (pa_cons (pv 0) (pa_cons (pv 2) pa_nil)))))), ?_⟩
  exact s_retN (en_op0 (en_min (en_op0 (en_var rfl h0) (en_var rfl h1)) (en_op0 (en_var rfl h2) (en_var rfl h3))) (en_max (en_var rfl h0) (en_var rfl h2))) fun v H1 e hd => k v H1 e hd
abbrev s_common : Stmt := top 22
abbrev N_common : List Str := ["code", "other", "level", "one", "two", "across", "down"]
abbrev P_common : List Str := ["code", "other", "level"]
theorem sc_common : FnScope N_common P_common (defScope s_common) := ⟨rfl, rfl, rfl, by decide +kernel, rfl, by decide +kernel, by decide +kernel⟩
theorem nd_common : N_common.Nodup := sc_common.nd
def sp_common (K : PySem.W.Frag) : Sp := spF K (fun x : Cd × Cd × Nat => [dC x.1, dC x.2.1, .int x.2.2]) (fun x => x.1.length ≤ x.2.2 ∧ x.2.1.length ≤ x.2.2 ∧ x.2.2 ≤ 40) (fun x => .int (QS.cmn (sqr x.2.2 0 0 x.1) (sqr x.2.2 0 0 x.2.1)))
theorem ok_common (T : Txt K w mg tM tS aS aF aW) (F : Fd K mg "common" s_common) (C_check_code : Ca P w K mg base "check_code" P_check_code 2 (sp_check_code K)) (C_check_level : Ca P w K mg base "check_level" P_check_level 3 (sp_check_level K))
    (C_corner : Ca P w K mg base "corner" P_corner 4 (sp_corner K)) (C_overlap : Ca P w K mg base "overlap" P_overlap 1 (sp_overlap K)) : Ca P w K mg base "common" P_common 5 (sp_common K) := by
  refine F.mk sc_common (fun _ _ _ _ _ _ us hl => match us, hl with | [_, _, _], _ => rfl) (spF_len fun _ => rfl) (fun f cdv A outer s H vs Q E hr h => ?_)
  obtain ⟨⟨a, b, L⟩, hv, ⟨ha, hb, hL⟩, k⟩ := h
  obtain ⟨va, vb, vl, rfl, h0, h1, h2⟩ := hv.inv3
  simp only at h0 h1 h2 ha hb hL k
  refine ⟨_, (pss_cons (ps_expr (pe_ca C_check_code hr (pa_cons (pv 0) pa_nil)))
      (pss_cons (ps_expr (pe_ca C_check_code hr (pa_cons (pv 1) pa_nil)))
      (pss_cons (ps_expr (pe_ca C_check_level hr (pa_cons (pv 0) (pa_cons (pv 2) pa_nil))))
      (pss_cons (ps_expr (pe_ca C_check_level hr (pa_cons (pv 1) (pa_cons (pv 2) pa_nil))))
      (pss_cons (ps_set (i := 3) nd_common rfl (Or.inl rfl) (pe_ca C_corner hr (pa_cons (pv 0) (pa_cons (pv 2) pa_nil))))
      (pss_cons (ps_set (i := 4) nd_common rfl (Or.inl rfl) (pe_ca C_corner hr (pa_cons (pv 1) (pa_cons (pv 2) pa_nil))))
      (pss_cons (ps_set (i := 5) nd_common rfl (Or.inl rfl) (pe_ca C_overlap hr (pa_cons (pe_ix ix_tup (pv 3) pe_int (fun _ _ => rfl)) (pa_cons (pe_ix ix_tup (pv 3) pe_int (fun _ _ => rfl)) (pa_cons (pe_ix ix_tup (pv 4) pe_int (fun _ _ => rfl)) (pa_cons (pe_ix ix_tup (pv 4) pe_int (fun _ _ => rfl)) pa_nil))))))
      (pss_cons (ps_set (i := 6) nd_common rfl (Or.inl rfl) (pe_ca C_overlap hr (pa_cons (pe_ix ix_tup (pv 3) pe_int (fun _ _ => rfl)) (pa_cons (pe_ix ix_tup (pv 3) pe_int (fun _ _ => rfl)) (pa_cons (pe_ix ix_tup (pv 4) pe_int (fun _ _ => rfl)) (pa_cons (pe_ix ix_tup (pv 4) pe_int (fun _ _ => rfl)) pa_nil))))))
      (pss_cons (ps_if (PW.pt (pw_and (pt_cmpR op_eq (pv 5) pe_int (nomark _)) (pw_and1 (pt_cmpR op_gt (pv 6) pe_int (nomark _))))) (pss_one (ps_ret (pv 6))) pss_nil)
      (pss_cons (ps_if (PW.pt (pw_and (pt_cmpR op_eq (pv 6) pe_int (nomark _)) (pw_and1 (pt_cmpR op_gt (pv 5) pe_int (nomark _))))) (pss_one (ps_ret (pv 5))) pss_nil)
      (pss_one (ps_ret pe_int)))))))))))), ?_⟩
  refine q_do (en_call a (eg_cons (en_var rfl h0) eg_nil) (by omega)) fun H1 e1 => ?_
  refine q_do (en_call b (eg_cons (en_var rfl (h1.ex e1)) eg_nil) (by omega)) fun H2 e2 => ?_
  have e02 := e1.trans e2
  refine q_do (en_call (a, L) (eg_cons (en_var rfl (h0.ex e02)) (eg_cons (en_var rfl (h2.ex e02)) eg_nil)) ⟨ha, hL⟩) fun H3 e3 => ?_
  have e03 := e02.trans e3
  refine q_do (en_call (b, L) (eg_cons (en_var rfl (h1.ex e03)) (eg_cons (en_var rfl (h2.ex e03)) eg_nil)) ⟨hb, hL⟩) fun H4 e4 => ?_
  have e04 := e03.trans e4
  refine q_set (en_call (a, L) (eg_cons (en_var rfl (h0.ex e04)) (eg_cons (en_var rfl (h2.ex e04)) eg_nil)) ⟨ha, hL⟩) fun v3 H5 e5 d3 => ?_
  have e05 := e04.trans e5
  refine q_set (en_call (b, L) (eg_cons (en_var rfl (h1.ex e05)) (eg_cons (en_var rfl (h2.ex e05)) eg_nil)) ⟨hb, hL⟩) fun v4 H6 e6 d4 => ?_
  have e06 := e05.trans e6
  generalize hA : sqr L 0 0 a = SA at d3 k
  generalize hB : sqr L 0 0 b = SB at d4 k
  have ixA : ∀ {te tb : TE} {σ H'} (i : Int) (z : Int) (n : Nat), EvN K te σ H' (dSq SA) → EvN K tb σ H' (.int i) → i = (n : Int) → [PyData.int SA.x, .int SA.y, .int SA.w][n]? = some (.int z) → EvN K (tOp (rIxT K) te tb) σ H' (.int z) := fun i z n h1 h2 hi hz => en_ixT h1 h2 (by omega) (by rw [hi, Int.toNat_natCast]; exact hz)
  have ixB : ∀ {te tb : TE} {σ H'} (i : Int) (z : Int) (n : Nat), EvN K te σ H' (dSq SB) → EvN K tb σ H' (.int i) → i = (n : Int) → [PyData.int SB.x, .int SB.y, .int SB.w][n]? = some (.int z) → EvN K (tOp (rIxT K) te tb) σ H' (.int z) := fun i z n h1 h2 hi hz => en_ixT h1 h2 (by omega) (by rw [hi, Int.toNat_natCast]; exact hz)
  have d3' := d3.ex e6
  refine q_set (en_call (SA.x, SA.w, SB.x, SB.w) (eg_cons (ixA 0 _ 0 (en_var rfl d3') en_int rfl rfl) (eg_cons (ixA 2 _ 2 (en_var rfl d3') en_int rfl rfl) (eg_cons (ixB 0 _ 0 (en_var rfl d4) en_int rfl rfl) (eg_cons (ixB 2 _ 2 (en_var rfl d4) en_int rfl rfl) eg_nil)))) trivial) fun v5 H7 e7 d5 => ?_
  refine q_set (en_call (SA.y, SA.w, SB.y, SB.w) (eg_cons (ixA 1 _ 1 (en_var rfl (d3'.ex e7)) en_int rfl rfl) (eg_cons (ixA 2 _ 2 (en_var rfl (d3'.ex e7)) en_int rfl rfl) (eg_cons (ixB 1 _ 1 (en_var rfl (d4.ex e7)) en_int rfl rfl) (eg_cons (ixB 2 _ 2 (en_var rfl (d4.ex e7)) en_int rfl rfl) eg_nil)))) trivial) fun v6 H8 e8 d6 => ?_
  have d5' : Dn K H8 v5 (.int (QS.across SA SB)) := d5.ex e8
  have d6' : Dn K H8 v6 (.int (QS.downw SA SB)) := d6
  have e08 := (e06.trans e7).trans e8
  refine q_when (et_and (et_n (en_eqI (en_var rfl d5') en_int)) fun _ => et_n (en_cmp (en_var rfl d6') en_int)) (fun g H9 e9 => ?_) fun g H9 e9 => ?_
  · refine s_retN (en_var rfl (d6'.ex e9)) fun v H10 e10 hd => k v H10 ((e08.trans e9).trans e10) ?_
    have : QS.cmn SA SB = QS.downw SA SB := by unfold QS.cmn; rw [if_pos]; simpa using g
    rw [this]; exact hd
  · refine q_when (et_and (et_n (en_eqI (en_var rfl (d6'.ex e9)) en_int)) fun _ => et_n (en_cmp (en_var rfl (d5'.ex e9)) en_int)) (fun g2 H10 e10 => ?_) fun g2 H10 e10 => ?_
    · refine s_retN (en_var rfl ((d5'.ex e9).ex e10)) fun v H11 e11 hd => k v H11 (((e08.trans e9).trans e10).trans e11) ?_
      have : QS.cmn SA SB = QS.across SA SB := by unfold QS.cmn; rw [if_neg (by simpa using g), if_pos (by simpa using g2)]
      rw [this]; exact hd
    · refine s_retN (K := K) en_int fun v H11 e11 hd => k v H11 (((e08.trans e9).trans e10).trans e11) ?_
      have : QS.cmn SA SB = 0 := by unfold QS.cmn; rw [if_neg (by simpa using g), if_neg (by simpa using g2)]
      rw [this]; exact hd
abbrev s_square_at : Stmt := top 30
abbrev N_square_at : List Str := ["tree", "code", "k"]
abbrev P_square_at : List Str := ["tree", "code"]
theorem sc_square_at : FnScope N_square_at P_square_at (defScope s_square_at) := ⟨rfl, rfl, rfl, by decide +kernel, rfl, by decide +kernel, by decide +kernel⟩
theorem nd_square_at : N_square_at.Nodup := sc_square_at.nd
def sp_square_at (K : PySem.W.Frag) : Sp := spF K (fun x : Tr × Cd => [dT x.1, dC x.2]) (fun x => x.2.length ≤ 40) (fun x => .tuple [.int (sqat x.1 x.2).1, dT (sqat x.1 x.2).2])
theorem ok_square_at (T : Txt K w mg tM tS aS aF aW) (F : Fd K mg "square_at" s_square_at) : Ca P w K mg base "square_at" P_square_at 1 (sp_square_at K) := by
  refine F.mk sc_square_at (fun _ _ _ _ _ _ us hl => match us, hl with | [_, _], _ => rfl) (spF_len fun _ => rfl) (fun f cdv A outer s H vs Q E hr h => ?_)
  obtain ⟨⟨t, c⟩, hv, hc, k⟩ := h
  obtain ⟨va, vb, rfl, h0, h1⟩ := hv.inv2
  simp only at h0 h1 hc k
  refine ⟨_, (pss_cons (ps_for PassesOwn.never rfl (pi_range1 (by rfl) T.range (pa_cons (pe_callB call_len_str (by rfl) T.len b_len (pa_cons (pv 1) pa_nil)) pa_nil)) (pg_name (i := 2) nd_square_at rfl (Or.inl rfl)) (pss_cons (ps_if (pt_not (pt_val (pe_callB call_isi (by rfl) T.isinstance b_isinstance (pa_cons (pv 0) (pa_cons (pe_bltn (v := .ty "tuple") (by rfl) T.tuple b_tuple rfl) pa_nil))))) (pss_one (ps_ret (pe_tup (pa_cons (pv 2) (pa_cons (pv 0) pa_nil))))) pss_nil)
      (pss_one (ps_set (i := 0) nd_square_at rfl (Or.inl rfl) (pe_ix ix_tup (pv 0) (pe_callTy call_int_str (by rfl) T.int b_int (pa_cons (pe_ix ix_str (pv 1) (pv 2) (fun _ _ => rfl)) pa_nil)) (fun _ _ => rfl))))))
      (pss_one (ps_ret (pe_tup (pa_cons (pe_callB call_len_str (by rfl) T.len b_len (pa_cons (pv 1) pa_nil)) (pa_cons (pv 0) pa_nil)))))), ?_⟩
  refine q_for (m := []) (α := Nat) (enc := fun i => .int (0 + (i : Int))) (xs := List.range c.length) ((ei_range1 (n := (c.length : Int)) (eg_cons ((en_lenS (en_var rfl h1) (by rw [cs_len]; omega)).cast (by rw [cs_len])) eg_nil) (by omega) (by omega))) .nil
    (fun pre σ' H' => ∃ o v t', σ' = [some v, some vb, o] ∧ Dn K H' v (dT t') ∧ sqat t c = ((sqat t' (c.drop pre.length)).1 + pre.length, (sqat t' (c.drop pre.length)).2))
    (fun H1 e1 => ⟨none, va, t, rfl, h0.ex e1, by simp⟩) (fun pre i post xv σ' H' H'' hxs e pv e' hd N hN => ?_) (fun σ' H' e pv => ?_)
  · obtain ⟨o, v, t', rfl, ht, hq⟩ := pv
    obtain ⟨hi, hiL, _⟩ := range_split hxs
    rw [Int.zero_add] at hd
    have ht' := ht.ex e'
    have hb' := h1.ex (e.ex.trans e')
    obtain ⟨q, hqd⟩ : ∃ q, c[i]? = some q := ⟨_, List.getElem?_eq_getElem hiL⟩
    have hdrop : c.drop pre.length = q :: c.drop (pre.length + 1) := by
      rw [← hi, List.drop_eq_getElem_cons hiL]
      congr 1
      have h2 := List.getElem?_eq_getElem hiL
      rw [hqd] at h2; exact (Option.some.inj h2).symm
    rw [hdrop] at hq
    cases t' with
    | leaf z =>
      refine q_when (et_is (et_not (et_v (en_isN (t := .leaf z) (en_var rfl ht')))) rfl) (fun _ H3 e3 => ?_) fun g => nomatch g
      refine s_retN (en_tup (eg_cons (en_var rfl (hd.ex e3)) (eg_cons (en_var rfl (ht'.ex e3)) eg_nil))) fun v2 H4 e4 hd4 => k v2 H4 (((e.ex.trans e').trans e3).trans e4) ?_
      rw [hq, ← hi]
      simpa [sqat] using hd4
    | node a1 b1 c1 d1 =>
      refine q_when (et_is (et_not (et_v (en_isN (t := .node a1 b1 c1 d1) (en_var rfl ht')))) rfl) (fun g => nomatch g) fun _ H3 e3 => ?_
      refine s_setN (en_pick (q := q) (en_var rfl (ht'.ex e3)) (en_fig (en_var rfl (hb'.ex e3)) (en_var rfl (hd.ex e3)) rfl (by omega) hqd)) fun v2 H4 e4 hd4 => hN _ _ (.of (e3.trans e4)) ⟨_, v2, QS.pick a1 b1 c1 d1 q, rfl, hd4, ?_⟩
      rw [hq, List.length_append, List.length_singleton]
      rw [sqat]
      congr 1
      omega
  · obtain ⟨o, v, t', rfl, ht, hq⟩ := pv
    rw [List.length_range, List.drop_length, sqat_nil] at hq
    refine s_retN (en_tup (eg_cons (en_lenS (en_var rfl (h1.ex e.ex)) (by rw [cs_len]; omega)) (eg_cons (en_var rfl ht) eg_nil))) fun v2 H4 e4 hd4 => k v2 H4 (e.ex.trans e4) ?_
    rw [hq]
    rw [cs_len] at hd4
    simpa using hd4
abbrev s_leaf_at : Stmt := top 26
abbrev N_leaf_at : List Str := ["sheet", "x", "y", "level", "tree", "code", "at"]
abbrev P_leaf_at : List Str := ["sheet", "x", "y"]
theorem sc_leaf_at : FnScope N_leaf_at P_leaf_at (defScope s_leaf_at) := ⟨rfl, rfl, rfl, by decide +kernel, rfl, by decide +kernel, by decide +kernel⟩
theorem nd_leaf_at : N_leaf_at.Nodup := sc_leaf_at.nd
def LeafPre (x : Nat × Tr × Int × Int × Cd) : Prop := x.1 ≤ 40 ∧ QS.Fits x.2.1 x.1 ∧ QS.isLf x.2.1 x.2.2.2.2 = true ∧ (sqr x.1 0 0 x.2.2.2.2).has x.2.2.1 x.2.2.2.1
def sp_leaf_at (K : PySem.W.Frag) : Sp := spF K (fun x : Nat × Tr × Int × Int × Cd => [dSh x.1 x.2.1, .int x.2.2.1, .int x.2.2.2.1]) LeafPre (fun x => dC x.2.2.2.2)
theorem ok_leaf_at (T : Txt K w mg tM tS aS aF aW) (F : Fd K mg "leaf_at" s_leaf_at) (C_check_place : Ca P w K mg base "check_place" P_check_place 2 (sp_check_place K)) (C_code_at : Ca P w K mg base "code_at" P_code_at 3 (sp_code_at K)) : Ca P w K mg base "leaf_at" P_leaf_at 4 (sp_leaf_at K) := by
  refine F.mk sc_leaf_at (fun _ _ _ _ _ _ us hl => match us, hl with | [_, _, _], _ => rfl) (spF_len fun _ => rfl) (fun f cdv A outer s H vs Q E hr h => ?_)
  obtain ⟨⟨L, t, x, y, c⟩, hv, ⟨hL, hf, hlf, hhas⟩, k⟩ := h
  obtain ⟨va, vx, vy, rfl, h0, h1, h2⟩ := hv.inv3
  simp only at h0 h1 h2 hL hf hlf hhas k
  have hcl := QS.sqr_len hf hlf
  have hbnd := QS.sqr_in c L 0 0 hcl
  obtain ⟨q1, q2, q3, q4⟩ := id hhas
  have hpre : L ≤ 40 ∧ 0 ≤ x ∧ x < QS.pw L ∧ 0 ≤ y ∧ y < QS.pw L := ⟨hL, by omega, by omega, by omega, by omega⟩
  refine ⟨_, (pss_cons (ps_asg (pv 0) (pg_tup (by rfl) (pgs_cons (pg_name (i := 3) nd_leaf_at rfl (Or.inl rfl)) (pgs_cons (pg_name (i := 4) nd_leaf_at rfl (Or.inl rfl)) pgs_nil))))
      (pss_cons (ps_expr (pe_ca C_check_place hr (pa_cons (pv 1) (pa_cons (pv 2) (pa_cons (pv 3) pa_nil)))))
      (pss_cons (ps_set (i := 5) nd_leaf_at rfl (Or.inl rfl) (pe_ca C_code_at hr (pa_cons (pv 1) (pa_cons (pv 2) (pa_cons (pv 3) pa_nil)))))
      (pss_cons (ps_set (i := 6) nd_leaf_at rfl (Or.inl rfl) pe_int)
      (pss_cons (ps_while PassesOwn.never (pt_val (pe_callB call_isi (by rfl) T.isinstance b_isinstance (pa_cons (pv 4) (pa_cons (pe_bltn (v := .ty "tuple") (by rfl) T.tuple b_tuple rfl) pa_nil)))) (pss_cons (ps_set (i := 4) nd_leaf_at rfl (Or.inl rfl) (pe_ix ix_tup (pv 4) (pe_callTy call_int_str (by rfl) T.int b_int (pa_cons (pe_ix ix_str (pv 5) (pv 6) (fun _ _ => rfl)) pa_nil)) (fun _ _ => rfl)))
      (pss_one (ps_set (i := 6) nd_leaf_at rfl (Or.inl rfl) (pe_op op_add (pv 6) pe_int)))))
      (pss_one (ps_ret (pe_slice sl_str (pv 5) po_none (po_some (pv 6)))))))))), ?_⟩
  refine q_unpack2 (en_var rfl h0) fun v3 v4 H1 e1 d3 d4 => ?_
  refine q_do (en_call (x, y, L) (eg_cons (en_var rfl (h1.ex e1)) (eg_cons (en_var rfl (h2.ex e1)) (eg_cons (en_var rfl d3) eg_nil))) hpre) fun H2 e2 => ?_
  refine q_set (en_call (x, y, L) (eg_cons (en_var rfl (h1.ex (e1.trans e2))) (eg_cons (en_var rfl (h2.ex (e1.trans e2))) (eg_cons (en_var rfl (d3.ex e2)) eg_nil))) hpre) fun v5 H3 e3 d5 => ?_
  have d5 : Dn K H3 v5 (dC (codeAt L x y)) := d5
  refine q_set (K := K) en_int fun v6 H4 e4 d6 => ?_
  have e04 := ((e1.trans e2).trans e3).trans e4
  have hck := codeAt_leaf hcl hhas
  refine q_while (fun m σ' H' => ∃ vt c1 c2 t', σ' = [some va, some vx, some vy, some v3, some vt, some v5, some (.int (c1 : Cd).length)] ∧ Ex H4 H' ∧ Dn K H' vt (dT t') ∧ QS.isLf t' c2 = true ∧ c = c1 ++ c2 ∧ m = c2.length) c.length ⟨v4, [], c, t, by rw [d6.int_eq]; rfl, Ex.refl _, d4.ex ((e2.trans e3).trans e4), hlf, rfl, rfl⟩ fun m σ' H' pv => ?_
  obtain ⟨vt, c1, c2, t', rfl, e5, dt, hl, hc12, rfl⟩ := pv
  refine ⟨isNd t', et_is (et_v (en_isN (en_var rfl dt))) rfl, fun g H5 e6 => ?_, fun g H5 e6 => ?_⟩
  · cases t' with
    | leaf z => cases g
    | node a1 b1 c1' d1 =>
      cases c2 with
      | nil => simp [QS.isLf] at hl
      | cons q c2 =>
        have hqd : (codeAt L x y)[c1.length]? = some q := by
          have : ((codeAt L x y).take c.length)[c1.length]? = some q := by rw [hck, hc12]; simp
          rw [List.getElem?_take] at this
          split at this
          · exact this
          · cases this
        refine ⟨fun σ2 H2 => ∃ m', m' < (q :: c2).length ∧ ∃ vt c1 c2 t', σ2 = [some va, some vx, some vy, some v3, some vt, some v5, some (.int (c1 : Cd).length)] ∧ Ex H4 H2 ∧ Dn K H2 vt (dT t') ∧ QS.isLf t' c2 = true ∧ c = c1 ++ c2 ∧ m' = c2.length, fun _ _ z => z, ?_⟩
        refine q_set (en_pick (q := q) (en_var rfl (dt.ex e6)) (en_fig (en_var rfl (d5.ex (e4.trans (e5.trans e6)))) (en_var rfl (.int _)) rfl (by rw [codeAt_len]; omega) hqd)) fun v7 H6 e7 d7 => ?_
        refine s_setN (K := K) (en_op0 (en_var rfl (.int _)) en_int) fun v8 H7 e8 d8 => ⟨c2.length, by simp, v7, c1 ++ [q], c2, QS.pick a1 b1 c1' d1 q, ?_, ((e5.trans e6).trans e7).trans e8, d7.ex e8, hl, by rw [hc12]; simp, rfl⟩
        rw [d8.int_eq, List.length_append, List.length_singleton]
        simp
  · cases t' with
    | node a1 b1 c1' d1 => cases g
    | leaf z =>
      cases c2 with
      | cons q c2 => simp [QS.isLf] at hl
      | nil =>
        rw [List.append_nil] at hc12
        subst hc12
        refine s_retN ((en_cut (en_var rfl (d5.ex (e4.trans (e5.trans e6)))) eo_none (eo_some (en_var rfl (.int _) : EvN K _ _ _ _).vi) (by rw [cs_len, codeAt_len]; omega)).cast (by rw [cut_to _ _ (by rw [codeAt_len]; omega), hck]; rfl)) fun v H7 e8 hd => k v H7 (((e04.trans e5).trans e6).trans e8) hd
abbrev s_refuse_leaf : Stmt := top 31
abbrev N_refuse_leaf : List Str := ["sheet", "code", "signs", "tree"]
abbrev P_refuse_leaf : List Str := ["sheet", "code"]
theorem sc_refuse_leaf : FnScope N_refuse_leaf P_refuse_leaf (defScope s_refuse_leaf) := ⟨rfl, rfl, rfl, by decide +kernel, rfl, by decide +kernel, by decide +kernel⟩
theorem nd_refuse_leaf : N_refuse_leaf.Nodup := sc_refuse_leaf.nd
def sp_refuse_leaf (K : PySem.W.Frag) : Sp := spF K (fun x : Nat × Tr × Cd => [dSh x.1 x.2.1, dC x.2.2]) (fun x => QS.isLf x.2.1 x.2.2 = true ∧ x.2.2.length ≤ 40) (fun _ => .none)
theorem ok_refuse_leaf (T : Txt K w mg tM tS aS aF aW) (F : Fd K mg "refuse_leaf" s_refuse_leaf) (C_is_code : Ca P w K mg base "is_code" P_is_code 1 (sp_is_code K)) (C_square_at : Ca P w K mg base "square_at" P_square_at 1 (sp_square_at K)) : Ca P w K mg base "refuse_leaf" P_refuse_leaf 2 (sp_refuse_leaf K) := by
  refine F.mk sc_refuse_leaf (fun _ _ _ _ _ _ us hl => match us, hl with | [_, _], _ => rfl) (spF_len fun _ => rfl) (fun f cdv A outer s H vs Q E hr h => ?_)
  obtain ⟨⟨L, t, c⟩, hv, ⟨hl, hc⟩, k⟩ := h
  obtain ⟨va, vb, rfl, h0, h1⟩ := hv.inv2
  simp only at h0 h1 hl hc k
  refine ⟨_, (pss_cons (ps_if (pt_not (pt_val (pe_ca C_is_code hr (pa_cons (pv 1) pa_nil)))) (pss_one ps_never) pss_nil)
      (pss_cons (ps_asg (pe_ca C_square_at hr (pa_cons (pe_ix ix_tup (pv 0) pe_int (fun _ _ => rfl)) (pa_cons (pv 1) pa_nil))) (pg_tup (by rfl) (pgs_cons (pg_name (i := 2) nd_refuse_leaf rfl (Or.inl rfl)) (pgs_cons (pg_name (i := 3) nd_refuse_leaf rfl (Or.inl rfl)) pgs_nil))))
      (pss_one (ps_if (PW.pt (pw_or (pt_cmpR op_lt (pv 2) (pe_callB call_len_str (by rfl) T.len b_len (pa_cons (pv 1) pa_nil)) (nomark _)) (pw_or1 (pt_val (pe_callB call_isi (by rfl) T.isinstance b_isinstance (pa_cons (pv 3) (pa_cons (pe_bltn (v := .ty "tuple") (by rfl) T.tuple b_tuple rfl) pa_nil))))))) (pss_one ps_never) pss_nil)))), ?_⟩
  refine q_no (et_is (et_not (et_v (en_call c (eg_cons (en_var rfl h1) eg_nil) hc))) rfl) fun H1 e1 => ?_
  refine q_unpack2 ((en_call (t, c) (eg_cons (en_ixT (ds := [.int L, dT t]) (en_var rfl (h0.ex e1)) en_int (by decide) rfl) (eg_cons (en_var rfl (h1.ex e1)) eg_nil)) hc).cast (e := .tuple [.int c.length, dT (.leaf (QS.col t c))]) (by rw [sqat_leaf hl])) fun v2 v3 H2 e2 d2 d3 => ?_
  refine s_no (et_is (et_or (et_n (en_cmp (en_var rfl d2) (en_lenS (en_var rfl (h1.ex (e1.trans e2))) (by rw [cs_len]; omega)))) fun _ => et_v (en_isN (t := .leaf (QS.col t c)) (en_var rfl d3))) ?_) fun H3 e3 => k _ H3 ((e1.trans e2).trans e3) .non
  rw [cs_len]
  simp [isNd]
end
end QW
set_option autoImplicit true
set_option Elab.async false
set_option linter.all false
set_option maxRecDepth 100000
set_option maxHeartbeats 4000000
namespace QW
open PySem PySem.Spec PyProof.Rows L2 Evl QX
open QS (Qd Sd Tr Sq sqr)
section
variable {P : Program} {w : World} {K : PySem.W.Frag} {mg : Str → Option Value} {base : Heap} {tM tS : Tok} {aS aF aW : Addr}
def dLf (c : Cd) (x : Cd × Int) : PyData := .tuple [dC (c ++ x.1), .int x.2]
def kids : Tr → List Tr
  | .leaf _ => []
  | .node a b c d => [a, b, c, d]
def qs4 : List Qd := [.q0, .q1, .q2, .q3]
theorem leaves_pick (a b c d : Tr) : QS.leaves (.node a b c d) = qs4.flatMap fun q => (QS.leaves (QS.pick a b c d q)).map fun x => (q :: x.1, x.2) := by simp [QS.leaves, qs4, QS.pick]
theorem count_pick (a b c d : Tr) : (Tr.node a b c d).count = (qs4.map fun q => (QS.pick a b c d q).count).sum := by simp [QS.Tr.count, qs4, QS.pick]; omega
abbrev s_gather : Stmt := top 24
abbrev N_gather : List Str := ["tree", "code", "found", "at", "part"]
abbrev P_gather : List Str := ["tree", "code", "found"]
theorem sc_gather : FnScope N_gather P_gather (defScope s_gather) := ⟨rfl, rfl, rfl, by decide +kernel, rfl, by decide +kernel, by decide +kernel⟩
theorem nd_gather : N_gather.Nodup := sc_gather.nd
/-- the list at l grows by the leaves -/
def sp_gather (K : PySem.W.Frag) (n : Nat) : Sp := fun vs H Q _ => ∃ (t : Tr) (c : Cd) (l : Addr) (ws : List V) (vt vc : V) (m : Nat), vs = [vt, vc, .ref l] ∧ m < n ∧ QS.Fits t m ∧ c.length + m ≤ 40 ∧ Dn K H vt (dT t) ∧ Dn K H vc (dC c) ∧ H l = some (.lst ws) ∧ ws.length + t.count ≤ 100000 ∧
  ∀ us H', ExB [l] H H' → H' l = some (.lst (ws ++ us)) → DnAll K H' us ((QS.leaves t).map (dLf c)) → Q .non H'
theorem ok_gather (T : Txt K w mg tM tS aS aF aW) (F : Fd K mg "gather" s_gather) : ∀ n, Ca P w K mg base "gather" P_gather n (sp_gather K n)
  | 0 => F.never (fun _ _ _ _ _ _ us hl => match us, hl with | [_, _, _], _ => rfl) fun vs H Q E ⟨_, _, _, _, _, _, _, _, h, _⟩ => by omega
  | n + 1 => by
    have C_gather := ok_gather T F n
    refine F.mk sc_gather (fun _ _ _ _ _ _ us hl => match us, hl with | [_, _, _], _ => rfl) (fun vs H Q E ⟨_, _, _, _, _, _, _, e, _⟩ => by rw [e]; rfl) (fun f cdv A outer s H vs Q E hr h => ?_)
    obtain ⟨t, c, l, ws, vt, vc, m, rfl, hm, hf, hcm, h0, h1, hl, hlen, k⟩ := h
    refine ⟨_, (pss_one (ps_if (pt_not (pt_val (pe_callB call_isi (by rfl) T.isinstance b_isinstance (pa_cons (pv 0) (pa_cons (pe_bltn (v := .ty "tuple") (by rfl) T.tuple b_tuple rfl) pa_nil))))) (pss_one (ps_expr (pe_bm PySem.F.plainAttrs_list PySem.F.slot_list_append PySem.F.type_list_append mt_append (pv 2) (pa_cons (pe_tup (pa_cons (pv 1) (pa_cons (pv 0) pa_nil))) pa_nil)))) (pss_one (ps_for PassesOwn.never rfl (pi_enumT (by rfl) T.enumerate (pa_cons (pv 0) pa_nil)) (pg_tup (by rfl) (pgs_cons (pg_name (i := 3) nd_gather rfl (Or.inl rfl)) (pgs_cons (pg_name (i := 4) nd_gather rfl (Or.inl rfl)) pgs_nil))) (pss_one (ps_expr (pe_caR C_gather hr (pa_cons (pv 4) (pa_cons (pe_op op_add_str (pv 1) (pe_callTy call_str_int (by rfl) T.str b_str (pa_cons (pv 3) pa_nil))) (pa_cons (pv 2) pa_nil)))))))))), ?_⟩
    refine s_if (et_not (et_v (en_isN (en_var rfl h0)))) (fun g H1 e1 => ?_) fun g H1 e1 => ?_
    · cases t with
      | node a1 b1 c1 d1 => cases g
      | leaf z =>
        refine s_push (K := K) (ws := ws) (d := dLf c ([], z)) (e1 _ _ hl) (ev_var rfl) ((en_tup (eg_cons (en_var rfl (h1.ex e1)) (eg_cons (en_var rfl (h0.ex e1)) eg_nil))).cast (by unfold dLf; rw [List.append_nil]; rfl)) (by omega) fun v H2 e2 hv => k [v] _ ((ExB.of (e1.trans e2)).upd (by simp)) upd_same ?_
        exact .cons (hv.keep (lst_tk (e2 _ _ (e1 _ _ hl)))) .nil
    · cases t with
      | leaf z => cases g
      | node a1 b1 c1 d1 =>
        have hm' : ∃ m', m = m' + 1 := by cases hf; exact ⟨_, rfl⟩
        obtain ⟨m', rfl⟩ := hm'
        refine s_for (m := [l]) (α := Qd) (enc := fun q => .tuple [.int (q.num : Nat), dT (QS.pick a1 b1 c1 d1 q)]) (xs := qs4) (ei_enumT (ds := [dT a1, dT b1, dT c1, dT d1]) (en_var rfl (h0.ex e1))) (.one (e1 _ _ hl))
          (fun pre σ' H' => ∃ o3 o4 us, σ' = [some vt, some vc, some (.ref l), o3, o4] ∧ H' l = some (.lst (ws ++ us)) ∧ DnAll K H' us ((pre.flatMap fun q => (QS.leaves (QS.pick a1 b1 c1 d1 q)).map fun x => (q :: x.1, x.2)).map (dLf c)))
          (fun H2 e2 => ⟨none, none, [], rfl, by rw [List.append_nil]; exact e2 _ _ (e1 _ _ hl), .nil⟩) (fun pre q post xv σ' H' H'' hxs e pv e' hd N hN => ?_) (fun σ' H' e pv => ?_)
        · obtain ⟨o3, o4, us, rfl, hl', hus⟩ := pv
          have tk : TKp H1 H' := e.tk (.one (e1 _ _ hl))
          have hc' : Dn K H'' vc (dC c) := ((h1.ex e1).keep tk).ex e'
          refine g_two hd fun v1 v2 d1' d2' => ?_
          have hcnt := count_pick a1 b1 c1 d1
          have hq4 : (qs4.map fun q => (QS.pick a1 b1 c1 d1 q).count).sum = (pre.map fun q => (QS.pick a1 b1 c1 d1 q).count).sum + (QS.pick a1 b1 c1 d1 q).count + (post.map fun q => (QS.pick a1 b1 c1 d1 q).count).sum := by
            rw [hxs]; simp; omega
          have hul : us.length = (pre.map fun q => (QS.pick a1 b1 c1 d1 q).count).sum := by
            rw [hus.len, List.length_map, List.length_flatMap]
            congr 1
            exact List.map_congr_left fun q _ => by rw [List.length_map, QS.leaves_len]
          refine s_callG (eg_conN (en_var rfl d2') (eg_conN ((en_addS (en_var rfl hc') (en_strQ (en_var rfl d1')) (by rw [cs_len, cs_len]; simp; omega)).cast (e := dC (c ++ [q])) (by rw [← cs_app]; rfl)) (eg_one (ev_var rfl)))) fun vs2 H3 e3 hp => ?_
          obtain ⟨w1, r1, rfl, hw1, w2, r2, rfl, hw2, rfl⟩ := hp
          refine ⟨QS.pick a1 b1 c1 d1 q, c ++ [q], l, ws ++ us, w1, w2, m', rfl, by omega, hf.pick q, by simp; omega, hw1, hw2, e3 _ _ (e' _ _ hl'), by rw [List.length_append]; omega, fun us2 H4 e4 hl4 hus2 => ?_⟩
          have tk4 : TKp H3 H4 := e4.tk (.one (e3 _ _ (e' _ _ hl')))
          refine hN _ _ ((ExB.of e3).trans e4) ⟨_, _, us ++ us2, rfl, by rw [hl4, List.append_assoc], ?_⟩
          rw [List.flatMap_append, List.map_append]
          refine ((hus.ex (e'.trans e3)).keep tk4).app ?_
          have ee : (QS.leaves (QS.pick a1 b1 c1 d1 q)).map (dLf (c ++ [q])) = (([q] : List Qd).flatMap fun q => (QS.leaves (QS.pick a1 b1 c1 d1 q)).map fun x => (q :: x.1, x.2)).map (dLf c) := by
            simp [dLf, List.map_map, Function.comp_def]
          rw [← ee]
          exact hus2
        · obtain ⟨o3, o4, us, rfl, hl', hus⟩ := pv
          refine k us H' ((ExB.of e1).trans e) hl' ?_
          rw [leaves_pick]
          exact hus
abbrev s_leaves : Stmt := top 25
abbrev N_leaves : List Str := ["sheet", "found"]
abbrev P_leaves : List Str := ["sheet"]
theorem sc_leaves : FnScope N_leaves P_leaves (defScope s_leaves) := ⟨rfl, rfl, rfl, by decide +kernel, rfl, by decide +kernel, by decide +kernel⟩
theorem nd_leaves : N_leaves.Nodup := sc_leaves.nd
def sp_leaves (K : PySem.W.Frag) : Sp := spL K (fun x : Nat × Tr => [dSh x.1 x.2]) (fun x => x.1 ≤ 40 ∧ QS.Fits x.2 x.1 ∧ x.2.count ≤ 2000) (fun x => (QS.leaves x.2).map fun y => .tuple [dC y.1, .int y.2])
theorem ok_leaves (T : Txt K w mg tM tS aS aF aW) (F : Fd K mg "leaves" s_leaves) (C_gather : Ca P w K mg base "gather" P_gather 41 (sp_gather K 41)) : Ca P w K mg base "leaves" P_leaves 42 (sp_leaves K) := by
  refine F.mk sc_leaves (fun _ _ _ _ _ _ us hl => match us, hl with | [_], _ => rfl) (spL_len fun _ => rfl) (fun f cdv A outer s H vs Q E hr h => ?_)
  obtain ⟨⟨L, t⟩, hv, ⟨hL, hf, hcn⟩, k⟩ := h
  obtain ⟨va, rfl, h0⟩ := hv.inv1
  simp only at h0 hL hf hcn k
  refine ⟨_, (pss_cons (ps_set (i := 1) nd_leaves rfl (Or.inl rfl) (pe_lst pa_nil))
      (pss_cons (ps_expr (pe_ca C_gather hr (pa_cons (pe_ix ix_tup (pv 0) pe_int (fun _ _ => rfl)) (pa_cons pe_str (pa_cons (pv 1) pa_nil)))))
      (pss_one (ps_ret (pv 1))))), ?_⟩
  refine q_setL (K := K) (el_lst eg_nil) fun p vs H1 np e1 hp hs => ?_
  have hvs : vs = [] := by cases hs; rfl
  subst hvs
  refine q_callG (eg_conN (en_ixT (ds := [.int L, dT t]) (en_var rfl (h0.ex e1)) en_int (by decide) rfl) (eg_conN (K := K) (d := dC []) (en_str (s := "")) (eg_one (ev_var rfl)))) fun vs2 H2 e2 hp2 => ?_
  obtain ⟨w1, r1, rfl, hw1, w2, r2, rfl, hw2, rfl⟩ := hp2
  refine ⟨t, [], p, [], w1, w2, L, rfl, by omega, hf, by simpa using hL, hw1, hw2, e2 _ _ hp, by simp; omega, fun us H3 e3 hl hus => ?_⟩
  refine s_ret (ev_var rfl) fun H4 e4 => k p us H4 np (((ex_back (e1.trans e2) np e3)).trans e4) (e4 _ _ hl) (hus.ex e4)
end
end QW
set_option autoImplicit true
set_option Elab.async false
set_option linter.all false
set_option maxRecDepth 100000
set_option maxHeartbeats 4000000
namespace QW
open PySem PySem.Spec PyProof.Rows L2 Evl QX
open QS (Qd Sd Tr Sq sqr)
section
variable {P : Program} {w : World} {K : PySem.W.Frag} {mg : Str → Option Value} {base : Heap} {tM tS : Tok} {aS aF aW : Addr}
def fcs (s : Sd) : List Qd := [(QS.fc s).1, (QS.fc s).2]
theorem aln_fcs (s : Sd) (a b c d : Tr) : aln s (.node a b c d) = (fcs s).flatMap fun q => (aln s (QS.pick a b c d q)).map (q :: ·) := by rw [aln_node]; simp [fcs]
theorem aln_count (s : Sd) : ∀ t : Tr, (aln s t).length ≤ t.count
  | .leaf _ => Nat.le_refl _
  | .node a b c d => by
    have := aln_count s a; have := aln_count s b; have := aln_count s c; have := aln_count s d
    cases s <;> simp [aln, QS.Tr.count] <;> omega
theorem pick_count (a b c d : Tr) (q : Qd) : (QS.pick a b c d q).count ≤ (Tr.node a b c d).count := by cases q <;> simp [QS.pick, QS.Tr.count] <;> omega
theorem sqat_count : ∀ (t : Tr) (c : Cd), (sqat t c).2.count ≤ t.count
  | .leaf v, c => by rw [sqat]; exact Nat.le_refl _
  | .node a b c d, [] => by rw [sqat]; exact Nat.le_refl _
  | .node a b c d, q :: k => by rw [sqat]; exact Nat.le_trans (sqat_count _ k) (pick_count a b c d q)
theorem sqat_fits : ∀ {t : Tr} {n : Nat} (c : Cd), QS.Fits t n → ∃ m, QS.Fits (sqat t c).2 m ∧ (sqat t c).1 + m ≤ n
  | .leaf v, n, c, h => by rw [sqat]; exact ⟨n, h, by simp⟩
  | .node a b c d, n, [], h => by rw [sqat]; exact ⟨n, h, by simp⟩
  | .node a b c d, n, q :: k, h => by
    rw [sqat]
    obtain ⟨n', rfl⟩ : ∃ n', n = n' + 1 := by cases h; exact ⟨_, rfl⟩
    obtain ⟨m, h1, h2⟩ := sqat_fits k (h.pick q)
    exact ⟨m, h1, by simp only; omega⟩
abbrev s_along : Stmt := top 32
abbrev N_along : List Str := ["tree", "code", "ends", "found", "end"]
abbrev P_along : List Str := ["tree", "code", "ends"]
theorem sc_along : FnScope N_along P_along (defScope s_along) := ⟨rfl, rfl, rfl, by decide +kernel, rfl, by decide +kernel, by decide +kernel⟩
theorem nd_along : N_along.Nodup := sc_along.nd
def sp_along (K : PySem.W.Frag) (n : Nat) : Sp := spL K (fun x : Tr × Cd × Sd × Nat => [dT x.1, dC x.2.1, .tuple ((fcs x.2.2.1).map fun q => .int q.num)]) (fun x => x.2.2.2 < n ∧ QS.Fits x.1 x.2.2.2 ∧ x.2.1.length + x.2.2.2 ≤ 40 ∧ x.1.count ≤ 2000) (fun x => (aln x.2.2.1 x.1).map fun r => dC (x.2.1 ++ r))
theorem ok_along (T : Txt K w mg tM tS aS aF aW) (F : Fd K mg "along" s_along) : ∀ n, Ca P w K mg base "along" P_along n (sp_along K n)
  | 0 => F.never (fun _ _ _ _ _ _ us hl => match us, hl with | [_, _, _], _ => rfl) fun vs H Q E ⟨_, _, h, _⟩ => by omega
  | n + 1 => by
    have C_along := ok_along T F n
    refine F.mk sc_along (fun _ _ _ _ _ _ us hl => match us, hl with | [_, _, _], _ => rfl) (spL_len fun _ => rfl) (fun f cdv A outer s H vs Q E hr h => ?_)
    obtain ⟨⟨t, c, sd, m⟩, hv, ⟨hm, hf, hcm, hcn⟩, k⟩ := h
    obtain ⟨va, vb, vc, rfl, h0, h1, h2⟩ := hv.inv3
    simp only at h0 h1 h2 hm hf hcm hcn k
    refine ⟨_, (pss_cons (ps_if (pt_not (pt_val (pe_callB call_isi (by rfl) T.isinstance b_isinstance (pa_cons (pv 0) (pa_cons (pe_bltn (v := .ty "tuple") (by rfl) T.tuple b_tuple rfl) pa_nil))))) (pss_one (ps_ret (pe_lst (pa_cons (pv 1) pa_nil)))) pss_nil)
      (pss_cons (ps_set (i := 3) nd_along rfl (Or.inl rfl) (pe_lst pa_nil))
      (pss_cons (ps_for PassesOwn.never rfl (pi_tup (pv 2)) (pg_name (i := 4) nd_along rfl (Or.inl rfl)) (pss_one (ps_expr (pe_bm PySem.F.plainAttrs_list PySem.F.slot_list_extend PySem.F.type_list_extend mt_extend (pv 3) (pa_cons (pe_caR C_along hr (pa_cons (pe_ix ix_tup (pv 0) (pv 4) (fun _ _ => rfl)) (pa_cons (pe_op op_add_str (pv 1) (pe_callTy call_str_int (by rfl) T.str b_str (pa_cons (pv 4) pa_nil))) (pa_cons (pv 2) pa_nil)))) pa_nil)))))
      (pss_one (ps_ret (pv 3)))))), ?_⟩
    cases t with
    | leaf z =>
      refine q_when (et_is (et_not (et_v (en_isN (t := .leaf z) (en_var rfl h0)))) rfl) (fun _ H1 e1 => ?_) fun g => nomatch g
      refine s_retLs (el_lst (eg_cons (en_var rfl (h1.ex e1)) eg_nil)) fun p vs H2 np e2 hp hs => k p vs H2 (fresh_back e1 np) (e1.trans e2) hp ?_
      simpa [aln] using hs
    | node a1 b1 c1 d1 =>
      obtain ⟨m', rfl⟩ : ∃ m', m = m' + 1 := by cases hf; exact ⟨_, rfl⟩
      refine q_when (et_is (et_not (et_v (en_isN (t := .node a1 b1 c1 d1) (en_var rfl h0)))) rfl) (fun g => nomatch g) fun _ H1 e1 => ?_
      refine q_setL (K := K) (el_lst eg_nil) fun p ws0 H2 np e2 hp hs0 => ?_
      have hw0 : ws0 = [] := by cases hs0; rfl
      subst hw0
      have e02 := e1.trans e2
      have npH := fresh_back e1 np
      refine q_for (m := [p]) (α := Qd) (enc := fun q => .int q.num) (xs := fcs sd) (ei_tup (en_var rfl (h2.ex e02))) (.one hp)
        (fun pre σ' H' => ∃ o4 us, σ' = [some va, some vb, some vc, some (.ref p), o4] ∧ H' p = some (.lst us) ∧ DnAll K H' us ((pre.flatMap fun q => (aln sd (QS.pick a1 b1 c1 d1 q)).map (q :: ·)).map fun r => dC (c ++ r)))
        (fun H3 e3 => ⟨none, [], rfl, e3 _ _ hp, .nil⟩) (fun pre q post xv σ' H' H'' hxs e pv e' hd N hN => ?_) (fun σ' H' e pv => ?_)
      · obtain ⟨o4, us, rfl, hl', hus⟩ := pv
        have tk : TKp H2 H' := e.tk (.one hp)
        have h0' := ((h0.ex e02).keep tk).ex e'
        have h1' := ((h1.ex e02).keep tk).ex e'
        have h2' := ((h2.ex e02).keep tk).ex e'
        have hlen : us.length ≤ 2 * 2000 := by
          rw [hus.len, List.length_map, List.length_flatMap]
          have : ∀ q, ((aln sd (QS.pick a1 b1 c1 d1 q)).map (q :: ·)).length ≤ 2000 := fun q => by
            rw [List.length_map]
            exact Nat.le_trans (aln_count sd _) (Nat.le_trans (pick_count a1 b1 c1 d1 q) hcn)
          have h2l : pre.length ≤ 2 := by have := congrArg List.length hxs; simp [fcs] at this; omega
          match pre, h2l with
          | [], _ => simp
          | [x], _ => have := this x; simp at this ⊢; omega
          | [x, y], _ => have a1 := this x; have a2 := this y; simp at a1 a2 ⊢; omega
        have hk := Nat.le_trans (aln_count sd (QS.pick a1 b1 c1 d1 q)) (Nat.le_trans (pick_count a1 b1 c1 d1 q) hcn)
        refine s_ext (K := K) (e' _ _ hl') (ev_var rfl) (el_call (QS.pick a1 b1 c1 d1 q, c ++ [q], sd, m') (eg_cons (en_pick (en_var rfl h0') (en_var rfl hd)) (eg_cons ((en_addS (en_var rfl h1') (en_strQ (en_var rfl hd)) (by rw [cs_len, cs_len]; simp; omega)).cast (e := dC (c ++ [q])) (by rw [← cs_app]; rfl)) (eg_cons (en_var rfl h2') eg_nil))) ⟨by show m' < n; omega, hf.pick q, by simp; omega, Nat.le_trans (pick_count a1 b1 c1 d1 q) hcn⟩)
          (by rw [List.length_map]; simp only; omega) fun vs3 H3 e3 hs3 => hN _ _ ((ExB.of e3).upd (by simp)) ⟨_, us ++ vs3, rfl, upd_same, ?_⟩
        have tk3 := lst_tk (o := .lst (us ++ vs3)) (e3 _ _ (e' _ _ hl'))
        rw [List.flatMap_append, List.map_append]
        refine ((hus.ex (e'.trans e3)).keep tk3).app ?_
        have ee : (aln sd (QS.pick a1 b1 c1 d1 q)).map (fun r => dC ((c ++ [q]) ++ r)) = (([q] : List Qd).flatMap fun q => (aln sd (QS.pick a1 b1 c1 d1 q)).map (q :: ·)).map fun r => dC (c ++ r) := by
          simp [List.map_map, Function.comp_def]
        rw [← ee]
        exact hs3.keep tk3
      · obtain ⟨o4, us, rfl, hl', hus⟩ := pv
        refine s_ret (ev_var rfl) fun H4 e4 => k p us H4 npH ((ex_back e02 npH e).trans e4) (e4 _ _ hl') ?_
        rw [aln_fcs]
        exact hus.ex e4
abbrev s_beyond : Stmt := top 33
abbrev N_beyond : List Str := ["sheet", "code", "side", "near", "signs", "tree"]
abbrev P_beyond : List Str := ["sheet", "code", "side"]
theorem sc_beyond : FnScope N_beyond P_beyond (defScope s_beyond) := ⟨rfl, rfl, rfl, by decide +kernel, rfl, by decide +kernel, by decide +kernel⟩
theorem nd_beyond : N_beyond.Nodup := sc_beyond.nd
def BdPre (L : Nat) (t : Tr) (c : Cd) : Prop := L ≤ 40 ∧ QS.Fits t L ∧ QS.isLf t c = true ∧ t.count ≤ 2000
def sp_beyond (K : PySem.W.Frag) : Sp := spL K (fun x : Nat × Tr × Cd × Sd => [dSh x.1 x.2.1, dC x.2.2.1, dS x.2.2.2]) (fun x => BdPre x.1 x.2.1 x.2.2.1) (fun x => (QS.beyond x.2.1 x.2.2.1 x.2.2.2).map dC)
theorem beside_len {s : Sd} : ∀ {c n : Cd}, QS.beside c s = some n → n.length = c.length
  | [], n, h => by simp [QS.beside] at h
  | q :: c, n, h => by
    rw [QS.beside] at h
    cases hb : QS.beside c s with
    | some m => rw [hb] at h; simp at h; rw [← h, List.length_cons, beside_len hb, List.length_cons]
    | none =>
      rw [hb] at h
      by_cases hg : QS.canGo s q = true
      · simp [hg] at h; rw [← h]; simp
      · simp [hg] at h
theorem ok_beyond (T : Txt K w mg tM tS aS aF aW) (F : Fd K mg "beyond" s_beyond) (C_refuse_leaf : Ca P w K mg base "refuse_leaf" P_refuse_leaf 2 (sp_refuse_leaf K)) (C_beside : Ca P w K mg base "beside" P_beside 3 (sp_beside K)) (C_square_at : Ca P w K mg base "square_at" P_square_at 1 (sp_square_at K))
    (C_along : Ca P w K mg base "along" P_along 41 (sp_along K 41)) : Ca P w K mg base "beyond" P_beyond 42 (sp_beyond K) := by
  refine F.mk sc_beyond (fun _ _ _ _ _ _ us hl => match us, hl with | [_, _, _], _ => rfl) (spL_len fun _ => rfl) (fun f cdv A outer s H vs Q E hr h => ?_)
  obtain ⟨⟨L, t, c, sd⟩, hv, ⟨hL, hf, hlf, hcn⟩, k⟩ := h
  obtain ⟨va, vb, vc, rfl, h0, h1, h2⟩ := hv.inv3
  simp only at h0 h1 h2 hL hf hlf hcn k
  have hcl := QS.sqr_len hf hlf
  refine ⟨_, (pss_cons (ps_expr (pe_ca C_refuse_leaf hr (pa_cons (pv 0) (pa_cons (pv 1) pa_nil))))
      (pss_cons (ps_set (i := 3) nd_beyond rfl (Or.inl rfl) (pe_ca C_beside hr (pa_cons (pv 1) (pa_cons (pv 2) pa_nil))))
      (pss_cons (ps_if (pt_cmpR op_isN (pv 3) pe_non (nomark _)) (pss_one (ps_ret (pe_lst pa_nil))) pss_nil)
      (pss_cons (ps_asg (pe_ca C_square_at hr (pa_cons (pe_ix ix_tup (pv 0) pe_int (fun _ _ => rfl)) (pa_cons (pv 3) pa_nil))) (pg_tup (by rfl) (pgs_cons (pg_name (i := 4) nd_beyond rfl (Or.inl rfl)) (pgs_cons (pg_name (i := 5) nd_beyond rfl (Or.inl rfl)) pgs_nil))))
      (pss_one (ps_ret (pe_ca C_along hr (pa_cons (pv 5) (pa_cons (pe_slice sl_str (pv 3) po_none (po_some (pv 4))) (pa_cons (pe_ix ix_kdict (pe_glob rfl T.gFACING T.rFACING) (pv 2) (fun _ _ => rfl)) pa_nil)))))))))), ?_⟩
  refine q_do (en_call (L, t, c) (eg_cons (en_var rfl h0) (eg_cons (en_var rfl h1) eg_nil)) ⟨hlf, by show c.length ≤ 40; omega⟩) fun H1 e1 => ?_
  refine q_set (en_call (c, sd) (eg_cons (en_var rfl (h1.ex e1)) (eg_cons (en_var rfl (h2.ex e1)) eg_nil)) (by show c.length ≤ 40; omega)) fun v3 H2 e2 d3 => ?_
  have e02 := e1.trans e2
  cases hb : QS.beside c sd with
  | none =>
    simp only [hb, dO] at d3
    refine q_when (et_n (en_isNT (en_var rfl d3))) (fun _ H3 e3 => ?_) fun g => nomatch g
    refine s_retLs (K := K) (el_lst eg_nil) fun p vs H4 np e4 hp hs => k p vs H4 (fresh_back (e02.trans e3) np) ((e02.trans e3).trans e4) hp ?_
    unfold QS.beyond
    rw [hb]
    exact hs
  | some n =>
    simp only [hb, dO] at d3
    have hnl : n.length = c.length := beside_len hb
    refine q_when (et_n (en_isNF (en_var rfl d3))) (fun g => nomatch g) fun _ H3 e3 => ?_
    have e03 := e02.trans e3
    refine q_unpack2 (en_call (t, n) (eg_cons (en_ixT (ds := [.int L, dT t]) (en_var rfl (h0.ex e03)) en_int (by decide) rfl) (eg_cons (en_var rfl (d3.ex e3)) eg_nil)) (by show n.length ≤ 40; omega)) fun v4 v5 H4 e4 d4 d5 => ?_
    have e04 := e03.trans e4
    simp only at d4 d5
    have hk := sqat_le t n
    obtain ⟨m, hfm, hkm⟩ := sqat_fits n hf
    refine s_retLs (el_call ((sqat t n).2, n.take (sqat t n).1, sd, m) (eg_cons (en_var rfl d5) (eg_cons ((en_cut (en_var rfl ((d3.ex e3).ex e4)) eo_none (eo_some (en_var rfl d4).vi) (by rw [cs_len]; omega)).cast (by rw [cut_to _ _ hk]; rfl)) (eg_cons (T.enFacing (en_var rfl (h2.ex e04))) eg_nil))) ⟨by show m < 41; omega, hfm, by simp only [List.length_take]; omega, Nat.le_trans (sqat_count t n) hcn⟩) fun p vs H5 np e5 hp hs => k p vs H5 (fresh_back e04 np) (e04.trans e5) hp ?_
    unfold QS.beyond
    rw [hb]
    simp only
    rw [look_sqat, List.map_map]
    exact hs
abbrev s_about : Stmt := top 35
abbrev N_about : List Str := ["sheet", "code", "found", "side"]
abbrev P_about : List Str := ["sheet", "code"]
theorem sc_about : FnScope N_about P_about (defScope s_about) := ⟨rfl, rfl, rfl, by decide +kernel, rfl, by decide +kernel, by decide +kernel⟩
theorem nd_about : N_about.Nodup := sc_about.nd
def sp_about (K : PySem.W.Frag) : Sp := spL K (fun x : Nat × Tr × Cd => [dSh x.1 x.2.1, dC x.2.2]) (fun x => BdPre x.1 x.2.1 x.2.2) (fun x => (QS.about x.2.1 x.2.2).map dC)
theorem beyond_len (t : Tr) (c : Cd) (s : Sd) : (QS.beyond t c s).length ≤ t.count := by
  unfold QS.beyond
  cases hb : QS.beside c s with
  | none => exact Nat.zero_le _
  | some n =>
    simp only
    rw [look_sqat, List.length_map]
    exact Nat.le_trans (aln_count s _) (sqat_count t n)
theorem about_len (t : Tr) (c : Cd) : (QS.about t c).length ≤ 4 * t.count := by
  have := beyond_len t c .up; have := beyond_len t c .right; have := beyond_len t c .down; have := beyond_len t c .left
  unfold QS.about QS.sides
  simp; omega
theorem ok_about (T : Txt K w mg tM tS aS aF aW) (F : Fd K mg "about" s_about) (C_beyond : Ca P w K mg base "beyond" P_beyond 42 (sp_beyond K)) : Ca P w K mg base "about" P_about 43 (sp_about K) := by
  refine F.mk sc_about (fun _ _ _ _ _ _ us hl => match us, hl with | [_, _], _ => rfl) (spL_len fun _ => rfl) (fun f cdv A outer s H vs Q E hr h => ?_)
  obtain ⟨⟨L, t, c⟩, hv, hpre, k⟩ := h
  obtain ⟨va, vb, rfl, h0, h1⟩ := hv.inv2
  simp only at h0 h1 hpre k
  refine ⟨_, (pss_cons (ps_set (i := 2) nd_about rfl (Or.inl rfl) (pe_lst pa_nil))
      (pss_cons (ps_for PassesOwn.never rfl (pi_tup (pe_glob rfl T.gSIDES T.rSIDES)) (pg_name (i := 3) nd_about rfl (Or.inl rfl)) (pss_one (ps_expr (pe_bm PySem.F.plainAttrs_list PySem.F.slot_list_extend PySem.F.type_list_extend mt_extend (pv 2) (pa_cons (pe_ca C_beyond hr (pa_cons (pv 0) (pa_cons (pv 1) (pa_cons (pv 3) pa_nil)))) pa_nil)))))
      (pss_one (ps_ret (pv 2))))), ?_⟩
  refine q_setL (K := K) (el_lst eg_nil) fun p ws0 H1 np e1 hp hs0 => ?_
  have hw0 : ws0 = [] := by cases hs0; rfl
  subst hw0
  refine q_for (m := [p]) (α := Sd) (enc := dS) (xs := QS.sides) (ei_tup T.enSides) (.one hp)
    (fun pre σ' H' => ∃ o3 us, σ' = [some va, some vb, some (.ref p), o3] ∧ H' p = some (.lst us) ∧ DnAll K H' us ((pre.flatMap (QS.beyond t c)).map dC))
    (fun H3 e3 => ⟨none, [], rfl, e3 _ _ hp, .nil⟩) (fun pre sd post xv σ' H' H'' hxs e pv e' hd N hN => ?_) (fun σ' H' e pv => ?_)
  · obtain ⟨o3, us, rfl, hl', hus⟩ := pv
    have tk : TKp H1 H' := e.tk (.one hp)
    have hbl := beyond_len t c sd
    have hcn := hpre.2.2.2
    have hul : us.length ≤ 8000 := by
      rw [hus.len, List.length_map]
      have : (pre.flatMap (QS.beyond t c)).length ≤ (QS.about t c).length := by
        unfold QS.about; rw [hxs]; simp
      have := about_len t c
      omega
    refine s_ext (K := K) (e' _ _ hl') (ev_var rfl) (el_call (L, t, c, sd) (eg_cons (en_var rfl (((h0.ex e1).keep tk).ex e')) (eg_cons (en_var rfl (((h1.ex e1).keep tk).ex e')) (eg_cons (en_var rfl hd) eg_nil))) hpre) (by rw [List.length_map]; simp only; omega) fun vs3 H3 e3 hs3 => hN _ _ ((ExB.of e3).upd (by simp)) ⟨_, us ++ vs3, rfl, upd_same, ?_⟩
    have tk3 := lst_tk (o := .lst (us ++ vs3)) (e3 _ _ (e' _ _ hl'))
    rw [List.flatMap_append, List.map_append]
    refine ((hus.ex (e'.trans e3)).keep tk3).app ?_
    rw [List.flatMap_singleton]
    exact hs3.keep tk3
  · obtain ⟨o3, us, rfl, hl', hus⟩ := pv
    exact s_ret (ev_var rfl) fun H4 e4 => k p us H4 np ((ex_back e1 np e).trans e4) (e4 _ _ hl') (hus.ex e4)
end
end QW
set_option autoImplicit true
set_option Elab.async false
set_option linter.all false
set_option maxRecDepth 100000
set_option maxHeartbeats 4000000
namespace QW
open PySem PySem.Spec PyProof.Rows L2 Evl QX
open QS (Qd Sd Tr Sq sqr)
section
variable {P : Program} {w : World} {K : PySem.W.Frag} {mg : Str → Option Value} {base : Heap} {tM tS : Tok} {aS aF aW : Addr}
def dMem (m : QS.Mem) : PyData := .tuple [dC m.1, dO m.2]
abbrev s_members_from : Stmt := top 36
abbrev N_members_from : List Str := ["sheet", "code", "colours", "members", "seen", "at", "here", "other"]
abbrev P_members_from : List Str := ["sheet", "code", "colours"]
theorem sc_members_from : FnScope N_members_from P_members_from (defScope s_members_from) := ⟨rfl, rfl, rfl, by decide +kernel, rfl, by decide +kernel, by decide +kernel⟩
theorem nd_members_from : N_members_from.Nodup := sc_members_from.nd
def sp_members_from (K : PySem.W.Frag) : Sp := fun vs H Q _ => ∃ (L : Nat) (t : Tr) (c : Cd) (va vb : V) (a : Addr) (kvs : KVs), vs = [va, vb, .ref a] ∧ Dn K H va (dSh L t) ∧ Dn K H vb (dC c) ∧ BdPre L t c ∧ H a = some (.dK kvs) ∧ (∀ o, QS.isLf t o = true → valV kvs (kc o) = some (.int (QS.col t o))) ∧
  ∀ p ws H', H p = none → Ex H H' → H' p = some (.lst ws) → DnAll K H' ws ((QS.members t c).map dMem) → Q (.ref p) H'
def mks (ms : List QS.Mem) : KVs := marks (ms.map (·.1))
theorem bstep_yes {t : Tr} {h o : Cd} {ms : List QS.Mem} (g : o ∉ ms.map (·.1) ∧ QS.col t o = QS.col t h) : QS.bstep t h ms o = ms ++ [(o, some h)] := by unfold QS.bstep; rw [if_pos g]
theorem bstep_no {t : Tr} {h o : Cd} {ms : List QS.Mem} (g : ¬ (o ∉ ms.map (·.1) ∧ QS.col t o = QS.col t h)) : QS.bstep t h ms o = ms := by unfold QS.bstep; rw [if_neg g]
theorem ok_members_from (T : Txt K w mg tM tS aS aF aW) (F : Fd K mg "members_from" s_members_from) (C_about : Ca P w K mg base "about" P_about 43 (sp_about K)) : Ca P w K mg base "members_from" P_members_from 44 (sp_members_from K) := by
  refine F.mk sc_members_from (fun _ _ _ _ _ _ us hl => match us, hl with | [_, _, _], _ => rfl) (fun vs H Q E ⟨_, _, _, _, _, _, _, e, _⟩ => by rw [e]; rfl) (fun f cdv A outer s H vs Q E hr h => ?_)
  obtain ⟨L, t, c, va, vb, a, kvs, rfl, h0, h1, hpre, ha, hcol, k⟩ := h
  obtain ⟨hL, hf, hlf, hcn⟩ := id hpre
  have hu := hu_of hr
  refine ⟨_, (pss_cons (ps_set (i := 3) nd_members_from rfl (Or.inl rfl) (pe_lst (pa_cons (pe_tup (pa_cons (pv 1) (pa_cons pe_non pa_nil))) pa_nil)))
      (pss_cons (ps_set (i := 4) nd_members_from rfl (Or.inl rfl) (pe_disp (pps_cons (pv 1) pe_bl pps_nil) (by rfl) (by rfl) (fun z => by cases z) (by decide)))
      (pss_cons (ps_set (i := 5) nd_members_from rfl (Or.inl rfl) pe_int)
      (pss_cons (ps_while PassesOwn.never (pt_cmpR op_lt (pv 5) (pe_callB call_len_seq (by rfl) T.len b_len (pa_cons (pv 3) pa_nil)) (nomark _)) (pss_cons (ps_set (i := 6) nd_members_from rfl (Or.inl rfl) (pe_ix ix_tup (pe_ix ix_list (pv 3) (pv 5) (fun _ _ => rfl)) pe_int (fun _ _ => rfl)))
      (pss_cons (ps_for PassesOwn.never rfl (pi_list (pe_ca C_about hr (pa_cons (pv 0) (pa_cons (pv 6) pa_nil)))) (pg_name (i := 7) nd_members_from rfl (Or.inl rfl)) (pss_one (ps_if (PW.pt (pw_and (pt_cmp (pc_dnotin hu (pv 7) (pv 4))) (pw_and1 (pt_cmpR op_eq (pe_dget hu (pv 2) (pv 7) (fun _ _ => rfl)) (pe_dget hu (pv 2) (pv 6) (fun _ _ => rfl)) (nomark _))))) (pss_cons (ps_dput hu (pv 4) (pv 7) pe_bl  rfl)
      (pss_one (ps_expr (pe_bm PySem.F.plainAttrs_list PySem.F.slot_list_append PySem.F.type_list_append mt_append (pv 3) (pa_cons (pe_tup (pa_cons (pv 7) (pa_cons (pv 6) pa_nil))) pa_nil))))) pss_nil)))
      (pss_one (ps_set (i := 5) nd_members_from rfl (Or.inl rfl) (pe_op op_add (pv 5) pe_int))))))
      (pss_one (ps_ret (pv 3))))))), ?_⟩
  refine q_setL (el_lst (eg_cons (en_tup (eg_cons (en_var rfl h1) (eg_cons (d := .none) en_non eg_nil))) eg_nil)) fun p ws0 H1 np e1 hp hs0 => ?_
  refine q_setD (ed_one (en_var rfl (h1.ex e1)) ev_c) fun q H2 nq e2 hq => ?_
  refine q_set (K := K) en_int fun v5 H3 e3 d5 => ?_
  have e03 := (e1.trans e2).trans e3
  have nqH : H q = none := fresh_back e1 nq
  have hqp : q ≠ p := fun z => by rw [z, hp] at nq; cases nq
  have hp3 : H3 p = some (.lst ws0) := e3 _ _ (e2 _ _ hp)
  have hq3 : H3 q = some (.dK (mks [(c, none)])) := e3 _ _ hq
  have hmem := QS.members_ok hlf
  have hcnl : (QS.leaves t).length ≤ 2000 := by rw [QS.leaves_len]; exact hcn
  have mu : Mu [p, q] H3 := .cons hp3 (fun _ z => nomatch z) (.cons hq3 (fun _ z => nomatch z) .nil)
  refine q_while (fun m σ' H' => ∃ (ms : List QS.Mem) (i : Nat) (ws : List V) (o6 o7 : Option V), σ' = [some va, some vb, some (.ref a), some (.ref p), some (.ref q), some (.int i), o6, o7] ∧ ExB [p, q] H3 H' ∧ H' p = some (.lst ws) ∧ DnAll K H' ws (ms.map dMem) ∧ H' q = some (.dK (mks ms)) ∧
    QS.bgo t m i ms = QS.members t c ∧ QS.BInv t c ms ∧ i ≤ ms.length ∧ (QS.leaves t).length < m + i) ((QS.leaves t).length + 1)
    ⟨[(c, none)], 0, ws0, none, none, by rw [d5.int_eq]; rfl, ExB.refl _ _, hp3, hs0.ex (e2.trans e3), hq3, rfl, ⟨by simp, fun m hm => by simp at hm; subst hm; exact .refl, by simp⟩, Nat.zero_le _, by omega⟩ fun m σ' H' pv => ?_
  obtain ⟨ms, i, ws, o6, o7, rfl, e, hpw, hws, hqw, hgo, hI, hi, hm⟩ := pv
  have hle := hI.le hlf
  have hwl : ws.length = ms.length := by rw [hws.len, List.length_map]
  refine ⟨decide ((i : Int) < (ws.length : Int)), et_n (en_cmp (en_var rfl (.int _)) (en_lenL (ev_var rfl) hpw)), fun g H4 e4 => ?_, fun g H4 e4 => ?_⟩
  · have g' : i < ms.length := by rw [← hwl]; have := of_decide_eq_true g; omega
    obtain ⟨m, rfl⟩ : ∃ m', m = m' + 1 := ⟨m - 1, by omega⟩
    obtain ⟨here, hh⟩ : ∃ x, ms[i]? = some x := ⟨_, List.getElem?_eq_getElem g'⟩
    have hgo2 : QS.bgo t (m + 1) i ms = QS.bgo t m (i + 1) ((QS.about t here.1).foldl (QS.bstep t here.1) ms) := by rw [QS.bgo, hh]
    have hre := hI.re here (List.mem_of_getElem? hh)
    have hlh := hre.lf hlf
    refine ⟨fun σ2 H2 => ∃ m', m' < m + 1 ∧ ∃ (ms : List QS.Mem) (i : Nat) (ws : List V) (o6 o7 : Option V), σ2 = [some va, some vb, some (.ref a), some (.ref p), some (.ref q), some (.int i), o6, o7] ∧ ExB [p, q] H3 H2 ∧ H2 p = some (.lst ws) ∧ DnAll K H2 ws (ms.map dMem) ∧ H2 q = some (.dK (mks ms)) ∧
      QS.bgo t m' i ms = QS.members t c ∧ QS.BInv t c ms ∧ i ≤ ms.length ∧ (QS.leaves t).length < m' + i, fun _ _ z => z, ?_⟩
    refine q_set (en_ixT (ds := [dC here.1, dO here.2]) (en_ixL (d := dMem here) (ev_var rfl) (.inl (.inl (e4 _ _ hpw))) (en_var rfl (.int _)) (hws.ex e4) (by omega) (by rw [Int.toNat_natCast, List.getElem?_map, hh]; rfl)) en_int (by decide) rfl) fun v6 H5 e5 d6 => ?_
    have d6 : Dn K H5 v6 (dC here.1) := d6
    have tk : TKp H3 H' := e.tk mu
    have e35 : ExB [p, q] H3 H5 := (e.trans (.of e4)).trans (.of e5)
    have tk5 : TKp H3 H5 := e35.tk mu
    have hp5 := e5 _ _ (e4 _ _ hpw)
    have hq5 := e5 _ _ (e4 _ _ hqw)
    have mu5 : Mu [p, q] H5 := .cons hp5 (fun _ z => nomatch z) (.cons hq5 (fun _ z => nomatch z) .nil)
    refine q_for (m := [p, q]) (α := Cd) (enc := dC) (xs := QS.about t here.1) (ei_new (el_call (L, t, here.1) (eg_cons (en_var rfl ((h0.ex e03).keep tk5)) (eg_cons (en_var rfl d6) eg_nil)) ⟨hL, hf, hlh.1, hcn⟩)) mu5
      (fun pre σ' H' => ∃ o7 ws', σ' = [some va, some vb, some (.ref a), some (.ref p), some (.ref q), some (.int i), some v6, o7] ∧ H' p = some (.lst ws') ∧ DnAll K H' ws' ((pre.foldl (QS.bstep t here.1) ms).map dMem) ∧ H' q = some (.dK (mks (pre.foldl (QS.bstep t here.1) ms))))
      (fun H6 e6 => ⟨o7, ws, rfl, e6 _ _ hp5, hws.ex (e4.trans (e5.trans e6)), e6 _ _ hq5⟩) (fun pre o post xv σ' H6 H7 hxs e6 pv e7 hd N hN => ?_) (fun σ' H6 e6 pv => ?_)
    · obtain ⟨o7, ws', rfl, hpw', hws', hqw'⟩ := pv
      obtain ⟨hI', _, _⟩ := QS.bfold_inv hre pre hI (fun z hz => by rw [hxs]; simp [hz])
      have hle' := hI'.le hlf
      have ho : o ∈ QS.about t here.1 := by rw [hxs]; simp
      have hlo : QS.isLf t o = true := by
        obtain ⟨s1, hs1⟩ := QS.mem_about.mp ho
        exact QS.beyond_lf hs1
      have apq : a ∉ [p, q] := by
        simp only [List.mem_cons, List.not_mem_nil, or_false, not_or]
        exact ⟨fun z => (by rw [z, np] at ha; cases ha), fun z => (by rw [z, nqH] at ha; cases ha)⟩
      have ha7 : H7 a = some (.dK kvs) := e7 _ _ (e6 a _ apq (e35 a _ apq (e03 _ _ ha)))
      have tk67 : TKp H5 H7 := (e6.tk mu5).trans (.ex e7)
      have d6' : Dn K H7 v6 (dC here.1) := d6.keep tk67
      have hwl' : ws'.length ≤ 2000 := by rw [hws'.len, List.length_map]; omega
      refine s_if (et_and (et_v (en_dNi (en_var rfl hd) (ev_var rfl) (.inl (e7 _ _ hqw')))) fun _ => et_n (en_eqI (en_dGet (ev_var rfl) (en_var rfl hd) (.inl ha7) (hcol o hlo) (.int _)) (en_dGet (ev_var rfl) (en_var rfl d6') (.inl ha7) (hcol here.1 hlh.1) (.int _)))) (fun g H8 e8 => ?_) (fun g H8 e8 => ?_)
      · rw [show valV (mks (pre.foldl (QS.bstep t here.1) ms)) (.inr (cs o)) = valV (marks ((pre.foldl (QS.bstep t here.1) ms).map (·.1))) (kc o) from rfl, marks_get] at g
        have g2 : o ∉ (pre.foldl (QS.bstep t here.1) ms).map (·.1) ∧ QS.col t o = QS.col t here.1 := by simpa using g
        have hst : QS.bstep t here.1 (pre.foldl (QS.bstep t here.1) ms) o = pre.foldl (QS.bstep t here.1) ms ++ [(o, some here.1)] := bstep_yes g2
        refine q_dPut (K := K) (v := .bl true) (s := cs o) ev_c (ev_var rfl) (en_var rfl (hd.ex e8)) (e8 _ _ (e7 _ _ hqw')) (by simp [mks, marks]; omega) fun H9 e9 => ?_
        have hq9 : H9 q = some (.dK (mks (pre.foldl (QS.bstep t here.1) ms))) := e9 _ _ (e8 _ _ (e7 _ _ hqw'))
        have tk9 : TKp H9 (upd H9 q (.dK (putK (mks (pre.foldl (QS.bstep t here.1) ms)) (.inr (cs o)) (.bl true)))) := .upd fun xs z => by rw [hq9] at z; cases z
        have hp9 : upd H9 q (.dK (putK (mks (pre.foldl (QS.bstep t here.1) ms)) (.inr (cs o)) (.bl true))) p = some (.lst ws') := by
          rw [upd_ne (Ne.symm hqp)]
          exact e9 _ _ (e8 _ _ (e7 _ _ hpw'))
        have tk79 : TKp H7 _ := (TKp.ex (e8.trans e9)).trans tk9
        refine s_push (K := K) (ws := ws') (d := dMem (o, some here.1)) hp9 (ev_var rfl) (en_tup (eg_cons (en_var rfl (hd.keep tk79)) (eg_cons (d := dO (some here.1)) (en_var rfl (d6'.keep tk79)) eg_nil))) (by omega) fun v10 H10 e10 d10 => ?_
        have hp10 := e10 _ _ hp9
        have tk10 := lst_tk (o := .lst (ws' ++ [v10])) hp10
        refine hN _ _ ?_ ⟨_, ws' ++ [v10], rfl, upd_same, ?_, ?_⟩
        · exact ((((ExB.of (e8.trans e9)).upd (by simp)).trans (.of e10)).upd (by simp))
        · rw [List.foldl_append, List.foldl_cons, List.foldl_nil, hst, List.map_append]
          exact ((hws'.keep (((TKp.ex e7).trans tk79).trans ((TKp.ex e10).trans tk10)))).snoc (d10.keep tk10)
        · rw [List.foldl_append, List.foldl_cons, List.foldl_nil, hst, upd_ne hqp, e10 _ _ upd_same]
          rw [show putK (mks (pre.foldl (QS.bstep t here.1) ms)) (.inr (cs o)) (.bl true) = marks ((pre.foldl (QS.bstep t here.1) ms).map (·.1) ++ [o]) from marks_put g2.1]
          simp [mks]
      · rw [show valV (mks (pre.foldl (QS.bstep t here.1) ms)) (.inr (cs o)) = valV (marks ((pre.foldl (QS.bstep t here.1) ms).map (·.1))) (kc o) from rfl, marks_get] at g
        have g2 : ¬ (o ∉ (pre.foldl (QS.bstep t here.1) ms).map (·.1) ∧ QS.col t o = QS.col t here.1) := by simpa using g
        have hst : QS.bstep t here.1 (pre.foldl (QS.bstep t here.1) ms) o = pre.foldl (QS.bstep t here.1) ms := bstep_no g2
        refine hN _ _ (.of e8) ⟨_, ws', rfl, e8 _ _ (e7 _ _ hpw'), ?_, ?_⟩
        · rw [List.foldl_append, List.foldl_cons, List.foldl_nil, hst]; exact hws'.ex (e7.trans e8)
        · rw [List.foldl_append, List.foldl_cons, List.foldl_nil, hst]; exact e8 _ _ (e7 _ _ hqw')
    · obtain ⟨o7, ws', rfl, hpw', hws', hqw'⟩ := pv
      obtain ⟨hI', ⟨ext, hext⟩, _⟩ := QS.bfold_inv hre (QS.about t here.1) hI (fun z hz => hz)
      refine s_setN (K := K) (en_op0 (en_var rfl (.int _)) en_int) fun v8 H7 e7 d8 => ⟨m, by omega, _, i + 1, ws', some v6, o7, by rw [d8.int_eq]; rfl, (e35.trans e6).trans (.of e7), e7 _ _ hpw', hws'.ex e7, e7 _ _ hqw', by rw [← hgo2]; exact hgo, hI', ?_, by omega⟩
      rw [hext, List.length_append]; omega
  · have g' : ¬ i < ms.length := by rw [← hwl]; have := of_decide_eq_false g; omega
    have hms : QS.bgo t m i ms = ms := by
      cases m with
      | zero => rfl
      | succ m => rw [QS.bgo, List.getElem?_eq_none (by omega)]
    rw [hms] at hgo
    refine s_ret (ev_var rfl) fun H5 e5 => k p ws H5 np ?_ (e5 _ _ (e4 _ _ hpw)) ?_
    · have e0 : Ex H H' := fun b o hb => by
        refine e b o (fun z => ?_) (e03 _ _ hb)
        simp only [List.mem_cons, List.not_mem_nil, or_false] at z
        rcases z with rfl | rfl
        · rw [np] at hb; cases hb
        · rw [nqH] at hb; cases hb
      exact (e0.trans e4).trans e5
    · rw [← hgo]; exact hws.ex (e4.trans e5)
def landS (t : Tr) (c : Cd) : List Cd := ((QS.members t c).map (·.1)).mergeSort fun a b => strLe (cs a) (cs b)
theorem landS_perm (t : Tr) (c : Cd) : (landS t c).Perm ((QS.members t c).map (·.1)) := List.mergeSort_perm _ _
theorem landS_cs (t : Tr) (c : Cd) : (landS t c).map cs = (((QS.members t c).map (·.1)).map cs).mergeSort strLe := by
  unfold landS
  rw [List.map_mergeSort (s := strLe) fun a _ b _ => rfl]
theorem cols_get {o : Cd} {v : Int} : ∀ l : List (Cd × Int), (l.map (·.1)).Nodup → (o, v) ∈ l → valV (l.map fun x => ((.inr (cs x.1) : L2.Key), V.int x.2)) (kc o) = some (.int v)
  | [], _, h => nomatch h
  | x :: l, hn, h => by
    rw [List.map_cons, List.nodup_cons] at hn
    by_cases e : x.1 = o
    · rw [List.map_cons, valV_pos (p := ((.inr (cs x.1) : L2.Key), V.int x.2)) (by rw [e]; rfl)]
      rcases List.mem_cons.mp h with h | h
      · rw [← h]
      · exact (hn.1 (List.mem_map.mpr ⟨(o, v), h, e.symm⟩)).elim
    · rw [List.map_cons, valV_neg (p := ((.inr (cs x.1) : L2.Key), V.int x.2)) (fun z => e (kc_inj z))]
      rcases List.mem_cons.mp h with h | h
      · exact (e (by rw [← h])).elim
      · exact cols_get l hn.2 h
abbrev s_land_at : Stmt := top 37
abbrev N_land_at : List Str := ["sheet", "x", "y", "code", "one", "other"]
abbrev P_land_at : List Str := ["sheet", "x", "y"]
theorem sc_land_at : FnScope N_land_at P_land_at (defScope s_land_at) := ⟨rfl, rfl, rfl, by decide +kernel, rfl, by decide +kernel, by decide +kernel⟩
theorem nd_land_at : N_land_at.Nodup := sc_land_at.nd
def LeafPreN (x : Nat × Tr × Int × Int × Cd) : Prop := LeafPre x ∧ x.2.1.count ≤ 2000
def sp_land_at (K : PySem.W.Frag) : Sp := spL K (fun x : Nat × Tr × Int × Int × Cd => [dSh x.1 x.2.1, .int x.2.2.1, .int x.2.2.2.1]) LeafPreN (fun x => (landS x.2.1 x.2.2.2.2).map dC)
theorem ok_land_at (T : Txt K w mg tM tS aS aF aW) (F : Fd K mg "land_at" s_land_at) (C_leaf_at : Ca P w K mg base "leaf_at" P_leaf_at 4 (sp_leaf_at K)) (C_leaves : Ca P w K mg base "leaves" P_leaves 42 (sp_leaves K)) (C_members_from : Ca P w K mg base "members_from" P_members_from 44 (sp_members_from K)) :
    Ca P w K mg base "land_at" P_land_at 45 (sp_land_at K) := by
  refine F.mk sc_land_at (fun _ _ _ _ _ _ us hl => match us, hl with | [_, _, _], _ => rfl) (spL_len fun _ => rfl) (fun f cdv A outer s H vs Q E hr h => ?_)
  obtain ⟨⟨L, t, x, y, c⟩, hv, ⟨hpre, hcn⟩, k⟩ := h
  obtain ⟨va, vx, vy, rfl, h0, h1, h2⟩ := hv.inv3
  obtain ⟨hL, hf, hlf, hhas⟩ := id hpre
  simp only at h0 h1 h2 hL hf hlf hhas k hcn
  have hu64 := hr.units
  refine ⟨_, (pss_cons (ps_set (i := 3) nd_land_at rfl (Or.inl rfl) (pe_ca C_leaf_at hr (pa_cons (pv 0) (pa_cons (pv 1) (pa_cons (pv 2) pa_nil)))))
      (pss_one (ps_ret (pe_callB (cr_sortedStr hu64) (by rfl) T.sorted b_sorted (pa_cons (pe_lc (own := [("one", 4), ("other", 5)]) (g := gTup K 2 (gCons (gName 4) (gCons (gName 5) gNil))) rfl nd_land_at (pi_list (pe_ca C_members_from hr (pa_cons (pv 0) (pa_cons (pv 3) (pa_cons (pe_callTy (call_dictP rfl) (by rfl) T.dict b_dict (pa_cons (pe_ca C_leaves hr (pa_cons (pv 0) pa_nil)) pa_nil)) pa_nil))))) (blkOk_by (own := [("one", 4), ("other", 5)]) (N := N_land_at) (sc := defScope s_land_at) (by decide +kernel)) (fun _ _ _ _ _ => (pg_tup (by rfl) (pgs_cons (pg_name (i := 4) (nd_land_at) rfl (Or.inl rfl)) (pgs_cons (pg_name (i := 5) (nd_land_at) rfl (Or.inl rfl)) pgs_nil)))) (fun _ _ _ _ _ => pts_nil) (fun _ _ _ _ _ => (pv 4))) pa_nil))))), ?_⟩
  refine q_set (en_call (L, t, x, y, c) (eg_cons (en_var rfl h0) (eg_cons (en_var rfl h1) (eg_cons (en_var rfl h2) eg_nil))) hpre) fun v3 H1 e1 d3 => ?_
  have d3 : Dn K H1 v3 (dC c) := d3
  have hcn' : (QS.leaves t).length ≤ 2000 := by rw [QS.leaves_len]; exact hcn
  have hmem := QS.members_ok hlf
  have hle := hmem.1.le hlf
  have hlv : EvLs K (tCall (sp_leaves K) [] E0 (tCons (tVar 0) tNil)) [some va, some vx, some vy, some v3, none, none] H1 (((QS.leaves t).map fun y => (cs y.1, y.2)).map fun x => .tuple [.str x.1, .int x.2]) := by
    rw [List.map_map]
    exact el_call (L, t) (eg_cons (en_var rfl (h0.ex e1)) eg_nil) ⟨hL, hf, hcn⟩
  have hnd : (((QS.leaves t).map fun y => (cs y.1, y.2)).map (·.1)).Nodup := by
    rw [List.map_map]
    exact List.pairwise_map.mpr ((List.pairwise_map.mp (QS.leaves_nodup t)).imp fun h z => h (cs_inj z))
  have hdic := ed_dictP hlv hnd
  have hmb : EvLs K (tCall (sp_members_from K) [] E0 (tCons (tVar 0) (tCons (tVar 3) (tCons (tCB (rDictP K) (tCons (tCall (sp_leaves K) [] E0 (tCons (tVar 0) tNil)) tNil)) tNil)))) [some va, some vx, some vy, some v3, none, none] H1 ((QS.members t c).map dMem) := fun H2 a2 Q q => by
    refine (eg_conN (EvN.mono a2 (en_var (K := K) rfl (h0.ex e1))) (eg_conN (EvN.mono a2 (en_var (K := K) (k := 3) rfl d3)) (eg_conD (te := tCB (rDictP K) (tCons (tCall (sp_leaves K) [] E0 (tCons (tVar 0) tNil)) tNil)) (fun H3 a3 => hdic H3 (a2.trans a3)) eg_nil'))) H2 (Ex.refl H2) _ fun vs H3 e3 hp => ?_
    obtain ⟨w1, r1, rfl, hw1, w2, r2, rfl, hw2, p, r3, rfl, np, hp, rfl⟩ := hp
    refine ⟨L, t, c, w1, w2, p, _, rfl, hw1, hw2, ⟨hL, hf, hlf, hcn⟩, hp, fun o ho => ?_, fun p2 ws H4 np2 e4 hp2 hws => q p2 ws H4 (fresh_back e3 np2) (e3.trans e4) hp2 hws⟩
    rw [List.map_map]
    exact cols_get (QS.leaves t) (QS.leaves_nodup t) (QS.mem_leaves.mpr ⟨ho, rfl⟩ : (o, QS.col t o) ∈ QS.leaves t)
  have hlc := el_lc (K := K) (σ := [some va, some vx, some vy, some v3, none, none]) (H := H1) (wi := iList K (tCall (sp_members_from K) [] E0 (tCons (tVar 0) (tCons (tVar 3) (tCons (tCB (rDictP K) (tCons (tCall (sp_leaves K) [] E0 (tCons (tVar 0) tNil)) tNil)) tNil))))) (g := gTup K 2 (gCons (gName 4) (gCons (gName 5) gNil))) (tt := tYes) (te := tVar 4) (vs := [4, 5]) (xs := QS.members t c) (enc := dMem)
    (fun _ => true) (fun m => dC m.1) (ei_new hmb) (by omega) (fun m x H'' _ _ hx M hM => g_two hx fun v1 v2 d1 d2 => hM _ rfl (fun H1 a Q q => q H1 (Ex.refl _)) fun _ => en_var rfl d1)
  rw [List.filter_eq_self.mpr (fun _ _ => rfl)] at hlc
  have hso := el_sorted (zs := ((QS.members t c).map (·.1)).map cs) (by rw [List.map_map, List.map_map]; exact hlc)
  rw [← landS_cs, List.map_map] at hso
  exact s_retLs hso fun p ws H2 np e2 hp hws => k p ws H2 (fresh_back e1 np) (e1.trans e2) hp hws
abbrev s_rim : Stmt := top 38
abbrev N_rim : List Str := ["sheet", "x", "y", "land", "code", "sides", "other"]
abbrev P_rim : List Str := ["sheet", "x", "y"]
theorem sc_rim : FnScope N_rim P_rim (defScope s_rim) := ⟨rfl, rfl, rfl, by decide +kernel, rfl, by decide +kernel, by decide +kernel⟩
theorem nd_rim : N_rim.Nodup := sc_rim.nd
def sp_rim (K : PySem.W.Frag) : Sp := spF K (fun x : Nat × Tr × Int × Int × Cd => [dSh x.1 x.2.1, .int x.2.2.1, .int x.2.2.2.1]) LeafPreN (fun x => .int (QS.rimP x.2.1 x.1 (landS x.2.1 x.2.2.2.2)))
theorem landS_facts {t : Tr} {c : Cd} (h : QS.isLf t c = true) : (landS t c).Nodup ∧ (∀ o ∈ landS t c, QS.isLf t o = true) ∧ (landS t c).length ≤ t.count := by
  have hm := QS.members_ok h
  have hp := landS_perm t c
  refine ⟨hp.nodup_iff.mpr hm.1.nd, fun o ho => ?_, ?_⟩
  · obtain ⟨m, hm1, rfl⟩ := List.mem_map.mp (hp.mem_iff.mp ho)
    exact ((hm.1.re m hm1).lf h).1
  · rw [hp.length_eq, List.length_map, ← QS.leaves_len]
    exact hm.1.le h
theorem marks_keys (S : List Cd) : (marks S).map (fun kv => dKey kv.1) = S.map dC := by unfold marks; rw [List.map_map]; rfl
theorem sqr_w {c : Cd} {L : Nat} (h : c.length ≤ L) : (sqr L 0 0 c).w = QS.pw (L - c.length) := by rw [sqr_px h]
def rimQ (t : Tr) (L : Nat) (S pre : List Cd) : Int := (pre.map fun c => 4 * (sqr L 0 0 c).w - (((QS.about t c).filter fun o => decide (o ∈ S)).map fun o => QS.cmn (sqr L 0 0 c) (sqr L 0 0 o)).sum).sum
theorem rimQ_snoc (t : Tr) (L : Nat) (S pre : List Cd) (c : Cd) : rimQ t L S (pre ++ [c]) = rimQ t L S pre + (4 * (sqr L 0 0 c).w - (((QS.about t c).filter fun o => decide (o ∈ S)).map fun o => QS.cmn (sqr L 0 0 c) (sqr L 0 0 o)).sum) := by unfold rimQ; simp
theorem ok_rim (T : Txt K w mg tM tS aS aF aW) (F : Fd K mg "rim" s_rim) (C_land_at : Ca P w K mg base "land_at" P_land_at 45 (sp_land_at K)) (C_about : Ca P w K mg base "about" P_about 43 (sp_about K)) (C_common : Ca P w K mg base "common" P_common 5 (sp_common K)) :
    Ca P w K mg base "rim" P_rim 46 (sp_rim K) := by
  refine F.mk sc_rim (fun _ _ _ _ _ _ us hl => match us, hl with | [_, _, _], _ => rfl) (spF_len fun _ => rfl) (fun f cdv A outer s H vs Q E hr h => ?_)
  obtain ⟨⟨L, t, x, y, c⟩, hv, hpre, k⟩ := h
  obtain ⟨va, vx, vy, rfl, h0, h1, h2⟩ := hv.inv3
  obtain ⟨⟨hL, hf, hlf, hhas⟩, hcn⟩ := id hpre
  simp only at h0 h1 h2 hL hf hlf hhas k hcn
  have hu := hu_of hr
  obtain ⟨hnd, hls, hlen⟩ := landS_facts hlf
  generalize hS : landS t c = S at hnd hls hlen k
  refine ⟨_, (pss_cons (ps_set (i := 3) nd_rim rfl (Or.inl rfl) pe_dnewK)
      (pss_cons (ps_for PassesOwn.never rfl (pi_list (pe_ca C_land_at hr (pa_cons (pv 0) (pa_cons (pv 1) (pa_cons (pv 2) pa_nil))))) (pg_name (i := 4) nd_rim rfl (Or.inl rfl)) (pss_one (ps_dput hu (pv 3) (pv 4) pe_bl  rfl)))
      (pss_cons (ps_set (i := 5) nd_rim rfl (Or.inl rfl) pe_int)
      (pss_cons (ps_lock (ps_for PassesOwn.never rfl (pi_keys (pv 3)) (pg_name (i := 4) nd_rim rfl (Or.inl rfl)) (pss_cons (ps_set (i := 5) nd_rim rfl (Or.inl rfl) (pe_op op_add (pv 5) (pe_op op_shl pe_int (pe_op op_sub (pe_ix ix_tup (pv 0) pe_int (fun _ _ => rfl)) (pe_callB call_len_str (by rfl) T.len b_len (pa_cons (pv 4) pa_nil))))))
      (pss_one (ps_for PassesOwn.never rfl (pi_list (pe_ca C_about hr (pa_cons (pv 0) (pa_cons (pv 4) pa_nil)))) (pg_name (i := 6) nd_rim rfl (Or.inl rfl)) (pss_one (ps_if (pt_cmp (pc_din hu (pv 6) (pv 3))) (pss_one (ps_set (i := 5) nd_rim rfl (Or.inl rfl) (pe_op op_sub (pv 5) (pe_ca C_common hr (pa_cons (pv 4) (pa_cons (pv 6) (pa_cons (pe_ix ix_tup (pv 0) pe_int (fun _ _ => rfl)) pa_nil))))))) pss_nil)))))))
      (pss_one (ps_ret (pv 5))))))), ?_⟩
  refine q_setD (ed_new) fun d H1 nd e1 hd => ?_
  refine q_for (m := [d]) (α := Cd) (enc := dC) (xs := S) (ei_new (by rw [← hS]; exact el_call (L, t, x, y, c) (eg_cons (en_var rfl (h0.ex e1)) (eg_cons (en_var rfl (h1.ex e1)) (eg_cons (en_var rfl (h2.ex e1)) eg_nil))) hpre)) (.cons hd (fun _ z => nomatch z) .nil)
    (fun pre σ' H' => ∃ o4, σ' = [some va, some vx, some vy, some (.ref d), o4, none, none] ∧ H' d = some (.dK (marks pre)))
    (fun H2 e2 => ⟨none, rfl, e2 _ _ hd⟩) (fun pre o post xv σ' H' H'' hxs e pv e' hdx N hN => ?_) (fun σ' H' e pv => ?_)
  · obtain ⟨o4, rfl, hd'⟩ := pv
    have hnm : o ∉ pre := by
      rw [hxs, List.nodup_append] at hnd
      exact fun z => hnd.2.2 o z o (by simp) rfl
    have hpl : pre.length ≤ t.count := by have := congrArg List.length hxs; simp at this; omega
    refine s_dPut (K := K) (v := .bl true) (s := cs o) ev_c (ev_var rfl) (en_var rfl hdx) (e' _ _ hd') (by simp [marks]; omega) fun H2 e2 => hN _ _ ((ExB.of e2).upd (by simp)) ⟨_, rfl, ?_⟩
    rw [upd_same]
    exact congrArg (some ∘ HO.dK) (marks_put hnm)
  · obtain ⟨o4, rfl, hd'⟩ := pv
    have eH : Ex H H' := ex_back e1 nd e
    refine q_set (K := K) en_int fun v5 H2 e2 d5 => ?_
    have hd2 := e2 _ _ hd'
    refine ⟨d, _, hd2, trivial, fun od => ?_⟩
    have tkL : TKp H2 (upd H2 d (.frz od (.dK (marks S)))) := lk_tk hd2 (fun _ z => nomatch z)
    have h0L : Dn K (upd H2 d (.frz od (.dK (marks S)))) va (dSh L t) := (h0.ex (eH.trans e2)).keep tkL
    have hk := ei_keys (K := K) (tl := tVar 3) (σ := [some va, some vx, some vy, some (.ref d), o4, some v5, none]) (m := []) (ev_var rfl) (H := upd H2 d (.frz od (.dK (marks S)))) upd_same (by simp)
    rw [marks_keys] at hk
    refine s_for (m := []) (α := Cd) (enc := dC) (xs := S) hk .nil
      (fun pre σ' H' => ∃ o4 o6, σ' = [some va, some vx, some vy, some (.ref d), o4, some (.int (rimQ t L S pre)), o6]) (fun H3 e3 => ⟨o4, none, by rw [d5.int_eq]; rfl⟩) (fun pre o post xv σ' H3 H4 hxs e3 pv e4 hdx N hN => ?_) (fun σ' H3 e3 pv => ?_)
    · obtain ⟨o4, o6, rfl⟩ := pv
      have e34 : Ex _ H4 := e3.ex.trans e4
      have hoS : o ∈ S := by rw [hxs]; simp
      have hlo := hls o hoS
      have hcl := QS.sqr_len hf hlo
      have h04 : Dn K H4 va (dSh L t) := h0L.ex e34
      refine q_set ((en_op0 (en_var rfl (.int _)) (en_opC en_int (en_op0 (en_ixT (ds := [.int L, dT t]) (en_var rfl h04) en_int (by decide) rfl) (en_lenS (en_var rfl hdx) (by rw [cs_len]; omega))) (by rw [cs_len]; exact ⟨by omega, by omega, by decide⟩))).cast (e := .int (rimQ t L S pre + 4 * (sqr L 0 0 o).w)) (by rw [cs_len, sqr_w hcl, pw_eq (L - o.length) _ (by omega)])) fun v5 H5 e5 d5 => ?_
      have hd5 : H5 d = some (.frz od (.dK (marks S))) := e5 _ _ (e34 _ _ upd_same)
      refine s_for (m := []) (α := Cd) (enc := dC) (xs := QS.about t o) (ei_new (el_call (L, t, o) (eg_cons (en_var rfl (h04.ex e5)) (eg_cons (en_var rfl (hdx.ex e5)) eg_nil)) ⟨hL, hf, hlo, hcn⟩)) .nil
        (fun pre2 σ' H' => ∃ o6, σ' = [some va, some vx, some vy, some (.ref d), some xv, some (.int (rimQ t L S pre + 4 * (sqr L 0 0 o).w - ((pre2.filter fun o2 => decide (o2 ∈ S)).map fun o2 => QS.cmn (sqr L 0 0 o) (sqr L 0 0 o2)).sum)), o6])
        (fun H6 e6 => ⟨o6, by rw [d5.int_eq]; simp⟩) (fun pre2 o2 post2 xv2 σ' H6 H7 hxs2 e6 pv e7 hdx2 N2 hN2 => ?_) (fun σ' H6 e6 pv => ?_)
      · obtain ⟨o6, rfl⟩ := pv
        have e57 : Ex H5 H7 := e6.ex.trans e7
        have ho2 : QS.isLf t o2 = true := by
          obtain ⟨s1, hs1⟩ := QS.mem_about.mp (show o2 ∈ QS.about t o by rw [hxs2]; simp)
          exact QS.beyond_lf hs1
        refine s_if (et_is (et_v (en_dIn (K := K) (s := cs o2) (en_var rfl hdx2) (ev_var rfl) (.inr ⟨od, e57 _ _ hd5⟩))) (marks_get o2 S)) (fun g H8 e8 => ?_) (fun g H8 e8 => ?_)
        · refine s_setN (en_op0 (en_var rfl (.int _)) (en_call (o, o2, L) (eg_cons (en_var rfl ((hdx.ex e5).ex (e57.trans e8))) (eg_cons (en_var rfl (hdx2.ex e8)) (eg_cons (en_ixT (ds := [.int L, dT t]) (en_var rfl ((h04.ex e5).ex (e57.trans e8))) en_int (by decide) rfl) eg_nil))) ⟨hcl, QS.sqr_len hf ho2, hL⟩)) fun v8 H9 e9 d9 => hN2 _ _ (.of (e8.trans e9)) ⟨some xv2, ?_⟩
          rw [d9.int_eq, List.filter_append, List.filter_cons_of_pos (by simpa using g), List.filter_nil, List.map_append, List.sum_append]
          simp
          omega
        · refine hN2 _ _ (.of e8) ⟨some xv2, ?_⟩
          rw [List.filter_append, List.filter_cons_of_neg (by simpa using g), List.filter_nil, List.append_nil]
          rfl
      · obtain ⟨o6, rfl⟩ := pv
        refine hN _ _ (.of (e5.trans e6.ex)) ⟨some xv, o6, ?_⟩
        rw [rimQ_snoc, Int.add_sub_assoc]
    · obtain ⟨o4, o6, rfl⟩ := pv
      refine ⟨e3.ex _ _ upd_same, ?_⟩
      refine s_retN (K := K) (en_var rfl (.int _)) fun v H4 e4 hd4 => k v H4 ?_ hd4
      have := lk_ex hd2 e3 (by simp)
      exact (eH.trans e2).trans (this.ex.trans e4)
end
end QW
set_option autoImplicit true
set_option Elab.async false
set_option linter.all false
set_option maxRecDepth 100000
set_option maxHeartbeats 4000000
namespace QW
open PySem PySem.Spec PyProof.Rows L2 Evl QX
open QS (Qd Sd Tr Sq sqr Pt Way)
def dPt (p : Pt) : PyData := .tuple [.int p.1, .int p.2]
def sdn : Sd → Nat | .up => 0 | .right => 1 | .down => 2 | .left => 3
theorem sdn_inj {a b : Sd} (h : sdn a = sdn b) : a = b := by cases a <;> cases b <;> first | rfl | (simp [sdn] at h)
def pk (k : QS.Key) : PK := (k.1.1, k.1.2, (sdn k.2 : Int))
def dKy (k : QS.Key) : PyData := kd (pk k)
def dWay (x : Way) : PyData := .tuple [dPt x.1.1, .int (sdn x.1.2), dPt x.2]
theorem pk_inj {a b : QS.Key} (h : pk a = pk b) : a = b := by
  obtain ⟨⟨x, y⟩, d⟩ := a; obtain ⟨⟨x', y'⟩, d'⟩ := b
  simp only [pk, Prod.mk.injEq] at h
  obtain ⟨rfl, rfl, h⟩ := h
  rw [sdn_inj (a := d) (b := d') (by omega)]
section
variable {K : PySem.W.Frag} {σ : L2.St} {H : Hp} {ta tb te : TE} {tr : TA} {ds : List PyData}
theorem eg_conL {Pr : List V → Hp → Prop} (h : EvLs K te σ H ds) (hr : EvG tr σ H Pr) : EvG (tCons te tr) σ H fun vs H' => ∃ p ws r, vs = .ref p :: r ∧ H p = none ∧ H' p = some (.lst ws) ∧ DnAll K H' ws ds ∧ Pr r H' := fun H1 a1 Q q =>
  h H1 a1 _ fun p ws H2 np a2 hp hs => hr H2 (a1.trans a2) _ fun r H3 a3 hP => q _ H3 (a2.trans a3) ⟨p, ws, r, rfl, fresh_back a1 np, a3 _ _ hp, hs.ex a3, hP⟩
/-- a call that gives a new list, by a promise of its own -/
theorem el_callG {sp : Sp} {Pr : List V → Hp → Prop} (h : EvG tr σ H Pr) (q : ∀ vs H1, Ex H H1 → Pr vs H1 → ∀ Q : VK, (∀ p ws H2, H1 p = none → Ex H1 H2 → H2 p = some (.lst ws) → DnAll K H2 ws ds → Q (.ref p) H2) → sp vs H1 Q E0) : EvLs K (tCall sp [] E0 tr) σ H ds := fun H1 a1 Q k =>
  h H1 a1 _ fun vs H2 a2 hP => by
    rw [List.append_nil]
    exact q vs H2 (a1.trans a2) hP _ fun p ws H3 np a3 hp hs => k p ws H3 (fresh_back a2 np) (a2.trans a3) hp hs
theorem en_callG {sp : Sp} {d : PyData} {Pr : List V → Hp → Prop} (h : EvG tr σ H Pr) (q : ∀ vs H1, Ex H H1 → Pr vs H1 → ∀ Q : VK, (∀ v H2, Ex H1 H2 → Dn K H2 v d → Q v H2) → sp vs H1 Q E0) : EvN K (tCall sp [] E0 tr) σ H d := fun H1 a1 Q k =>
  h H1 a1 _ fun vs H2 a2 hP => by
    rw [List.append_nil]
    exact q vs H2 (a1.trans a2) hP _ fun v H3 a3 hd => k v H3 (a2.trans a3) hd
end
section
variable {P : Program} {w : World} {K : PySem.W.Frag} {mg : Str → Option Value} {base : Heap} {tM tS : Tok} {aS aF aW : Addr}
abbrev s_by_rows : Stmt := top 45
abbrev N_by_rows : List Str := ["point"]
abbrev P_by_rows : List Str := ["point"]
theorem sc_by_rows : FnScope N_by_rows P_by_rows (defScope s_by_rows) := ⟨rfl, rfl, rfl, by decide +kernel, rfl, by decide +kernel, by decide +kernel⟩
theorem nd_by_rows : N_by_rows.Nodup := sc_by_rows.nd
def dRow (p : Pt) : PyData := .tuple [.int p.2, .int p.1]
def sp_by_rows (K : PySem.W.Frag) : Sp := spF K (fun p : Pt => [dPt p]) (fun _ => True) dRow
theorem ok_by_rows (T : Txt K w mg tM tS aS aF aW) (F : Fd K mg "by_rows" s_by_rows) : Ca P w K mg base "by_rows" P_by_rows 1 (sp_by_rows K) := by
  refine F.mk sc_by_rows (fun _ _ _ _ _ _ us hl => match us, hl with | [_], _ => rfl) (spF_len fun _ => rfl) (fun f cdv A outer s H vs Q E hr h => ?_)
  obtain ⟨p, hv, _, k⟩ := h
  obtain ⟨va, rfl, h0⟩ := hv.inv1
  refine ⟨_, (pss_one (ps_ret (pe_tup (pa_cons (pe_ix ix_tup (pv 0) pe_int (fun _ _ => rfl)) (pa_cons (pe_ix ix_tup (pv 0) pe_int (fun _ _ => rfl)) pa_nil))))), ?_⟩
  exact s_retN (en_tup (eg_cons (en_ixT (ds := [.int p.1, .int p.2]) (en_var rfl h0) en_int (by decide) rfl) (eg_cons (en_ixT (ds := [.int p.1, .int p.2]) (en_var rfl h0) en_int (by decide) rfl) eg_nil))) fun v H1 e hd => k v H1 e hd
abbrev s_first_of : Stmt := top 47
abbrev N_first_of : List Str := ["ring"]
abbrev P_first_of : List Str := ["ring"]
theorem sc_first_of : FnScope N_first_of P_first_of (defScope s_first_of) := ⟨rfl, rfl, rfl, by decide +kernel, rfl, by decide +kernel, by decide +kernel⟩
theorem nd_first_of : N_first_of.Nodup := sc_first_of.nd
def sp_first_of (K : PySem.W.Frag) : Sp := fun vs H Q _ => ∃ (r : Addr) (ws : List V) (ps : List Pt), vs = [.ref r] ∧ H r = some (.lst ws) ∧ DnAll K H ws (ps.map dPt) ∧ ps ≠ [] ∧ ∀ v H', Ex H H' → Dn K H' v (dRow (QS.hd0 ps)) → Q v H'
theorem ok_first_of (T : Txt K w mg tM tS aS aF aW) (F : Fd K mg "first_of" s_first_of) (C_by_rows : Ca P w K mg base "by_rows" P_by_rows 1 (sp_by_rows K)) : Ca P w K mg base "first_of" P_first_of 2 (sp_first_of K) := by
  refine F.mk sc_first_of (fun _ _ _ _ _ _ us hl => match us, hl with | [_], _ => rfl) (fun vs H Q E ⟨_, _, _, e, _⟩ => by rw [e]; rfl) (fun f cdv A outer s H vs Q E hr h => ?_)
  obtain ⟨r, ws, ps, rfl, hl, hs, hne, k⟩ := h
  refine ⟨_, (pss_one (ps_ret (pe_ca C_by_rows hr (pa_cons (pe_ix ix_list (pv 0) pe_int (fun _ _ => rfl)) pa_nil)))), ?_⟩
  cases ps with
  | nil => exact absurd rfl hne
  | cons p ps => exact s_retN (en_call p (eg_cons (en_ixL (ev_var rfl) (.inl (.inl hl)) en_int hs (by decide) rfl) eg_nil) trivial) fun v H1 e hd => k v H1 e hd
abbrev s_free_parts : Stmt := top 40
abbrev N_free_parts : List Str := ["start", "wide", "taken", "found", "begin", "low", "high"]
abbrev P_free_parts : List Str := ["start", "wide", "taken"]
theorem sc_free_parts : FnScope N_free_parts P_free_parts (defScope s_free_parts) := ⟨rfl, rfl, rfl, by decide +kernel, rfl, by decide +kernel, by decide +kernel⟩
theorem nd_free_parts : N_free_parts.Nodup := sc_free_parts.nd
def sp_free_parts (K : PySem.W.Frag) : Sp := fun vs H Q _ => ∃ (b wd : Int) (v1 v2 : V) (p : Addr) (ws : List V) (tk : List (Int × Int)), vs = [v1, v2, .ref p] ∧ Dn K H v1 (.int b) ∧ Dn K H v2 (.int wd) ∧ H p = some (.lst ws) ∧ DnAll K H ws (tk.map dPt) ∧ tk.length ≤ 100000 ∧
  ∀ q us H', H q = none → Ex H H' → H' q = some (.lst us) → DnAll K H' us ((QS.free b (b + wd) tk).map dPt) → Q (.ref q) H'
theorem ok_free_parts (T : Txt K w mg tM tS aS aF aW) (F : Fd K mg "free_parts" s_free_parts) : Ca P w K mg base "free_parts" P_free_parts 1 (sp_free_parts K) := by
  refine F.mk sc_free_parts (fun _ _ _ _ _ _ us hl => match us, hl with | [_, _, _], _ => rfl) (fun vs H Q E ⟨_, _, _, _, _, _, _, e, _⟩ => by rw [e]; rfl) (fun f cdv A outer s H vs Q E hr h => ?_)
  obtain ⟨b, wd, v1, v2, p, ws, tk, rfl, h1, h2, hp, hs, hlen, k⟩ := h
  refine ⟨_, (pss_cons (ps_set (i := 3) nd_free_parts rfl (Or.inl rfl) (pe_lst pa_nil))
      (pss_cons (ps_set (i := 4) nd_free_parts rfl (Or.inl rfl) (pv 0))
      (pss_cons (ps_for PassesOwn.never rfl (pi_list (pv 2)) (pg_tup (by rfl) (pgs_cons (pg_name (i := 5) nd_free_parts rfl (Or.inl rfl)) (pgs_cons (pg_name (i := 6) nd_free_parts rfl (Or.inl rfl)) pgs_nil))) (pss_cons (ps_if (pt_cmpR op_gt (pv 5) (pv 4) (nomark _)) (pss_one (ps_expr (pe_bm PySem.F.plainAttrs_list PySem.F.slot_list_append PySem.F.type_list_append mt_append (pv 3) (pa_cons (pe_tup (pa_cons (pv 4) (pa_cons (pv 5) pa_nil))) pa_nil)))) pss_nil)
      (pss_one (ps_set (i := 4) nd_free_parts rfl (Or.inl rfl) (pe_callB (call_max2 rfl) (by rfl) T.max b_max (pa_cons (pv 4) (pa_cons (pv 6) pa_nil)))))))
      (pss_cons (ps_if (pt_cmpR op_gt (pe_op op_add (pv 0) (pv 1)) (pv 4) (nomark _)) (pss_one (ps_expr (pe_bm PySem.F.plainAttrs_list PySem.F.slot_list_append PySem.F.type_list_append mt_append (pv 3) (pa_cons (pe_tup (pa_cons (pv 4) (pa_cons (pe_op op_add (pv 0) (pv 1)) pa_nil))) pa_nil)))) pss_nil)
      (pss_one (ps_ret (pv 3))))))), ?_⟩
  refine q_setL (K := K) (el_lst eg_nil) fun q ws0 H1 nq e1 hq hs0 => ?_
  have hw0 : ws0 = [] := by cases hs0; rfl
  subst hw0
  refine q_set (en_var rfl (h1.ex e1)) fun v4 H2 e2 d4 => ?_
  have e02 := e1.trans e2
  have hpq : p ≠ q := fun z => by rw [z, nq] at hp; cases hp
  have hq2 := e2 _ _ hq
  refine q_for (m := [q]) (α := Int × Int) (enc := dPt) (xs := tk) (ei_list (ev_var rfl) (e02 _ _ hp) (hs.ex e02) (by simpa using hpq)) (.one hq2)
    (fun pre σ' H' => ∃ o5 o6 b' us A, σ' = [some v1, some v2, some (.ref p), some (.ref q), some (.int b'), o5, o6] ∧ H' q = some (.lst us) ∧ DnAll K H' us ((A : List (Int × Int)).map dPt) ∧ A.length ≤ pre.length ∧ ∀ post, tk = pre ++ post → QS.free b (b + wd) tk = A ++ QS.free b' (b + wd) post)
    (fun H3 e3 => ⟨none, none, b, [], [], by rw [d4.int_eq]; rfl, e3 _ _ hq2, .nil, Nat.le_refl _, fun post h => by rw [h]; rfl⟩) (fun pre x post xv σ' H' H'' hxs e pv e' hd N hN => ?_) (fun σ' H' e pv => ?_)
  · obtain ⟨o5, o6, b', us, A, rfl, hq', hus, hA, hfree⟩ := pv
    have hpl : pre.length < tk.length := by rw [hxs]; simp
    refine g_two hd fun w5 w6 d5 d6 => ?_
    have hus'' := hus.ex e'
    have hf2 : QS.free b (b + wd) tk = A ++ ((if b' < x.1 then [(b', x.1)] else []) ++ QS.free (max b' x.2) (b + wd) post) := hfree _ hxs
    refine q_when (et_n (en_cmp (en_var rfl d5) (en_var rfl (.int b')))) (fun g H3 e3 => ?_) (fun g H3 e3 => ?_)
    · refine s_push (K := K) (ws := us) (d := dPt (b', x.1)) (e3 _ _ (e' _ _ hq')) (ev_var rfl) (en_tup (eg_cons (en_var rfl (.int b')) (eg_cons (en_var rfl (d5.ex e3)) eg_nil))) (by rw [hus.len, List.length_map]; omega) fun v H4 e4 hv => ?_
      have tk4 := lst_tk (o := .lst (us ++ [v])) (e4 _ _ (e3 _ _ (e' _ _ hq')))
      refine s_setN (K := K) (en_max (en_var rfl (.int b')) (en_var rfl ((d6.ex (e3.trans e4)).keep tk4))) fun v5 H5 e5 d5' => hN _ _ ((((ExB.of (e3.trans e4)).upd (by simp))).trans (.of e5)) ⟨some w5, some w6, max b' x.2, us ++ [v], A ++ [(b', x.1)], by rw [d5'.int_eq]; rfl, e5 _ _ upd_same, ?_, by simp; omega, fun post' hp' => ?_⟩
      · rw [List.map_append]
        exact ((((hus''.ex (e3.trans e4)).keep tk4).snoc (hv.keep tk4))).ex e5
      · have : post' = post := by
          rw [hxs, List.append_assoc] at hp'
          have := List.append_cancel_left hp'
          simpa using this.symm
        have g' : b' < x.1 := by simpa using g
        rw [this, hf2, if_pos g', List.append_assoc]
    · refine s_setN (K := K) (en_max (en_var rfl (.int b')) (en_var rfl (d6.ex e3))) fun v5 H5 e5 d5' => hN _ _ (.of (e3.trans e5)) ⟨some w5, some w6, max b' x.2, us, A, by rw [d5'.int_eq]; rfl, e5 _ _ (e3 _ _ (e' _ _ hq')), hus''.ex (e3.trans e5), by simp; omega, fun post' hp' => ?_⟩
      have : post' = post := by
        rw [hxs, List.append_assoc] at hp'
        have := List.append_cancel_left hp'
        simpa using this.symm
      have g' : ¬ b' < x.1 := by simpa using g
      rw [this, hf2, if_neg g', List.nil_append]
  · obtain ⟨o5, o6, b', us, A, rfl, hq', hus, hA, hfree⟩ := pv
    have hf2 := hfree [] (by simp)
    have eH : Ex H H' := ex_back e02 nq e
    have htk : TKp H H' := .ex eH
    refine q_when (et_n (en_cmp (en_op0 (en_var rfl (h1.ex eH)) (en_var rfl (h2.ex eH))) (en_var rfl (.int b')))) (fun g H3 e3 => ?_) (fun g H3 e3 => ?_)
    · refine s_push (K := K) (ws := us) (d := dPt (b', b + wd)) (e3 _ _ hq') (ev_var rfl) (en_tup (eg_cons (en_var rfl (.int b')) (eg_cons (en_op0 (en_var rfl (h1.ex (eH.trans e3))) (en_var rfl (h2.ex (eH.trans e3)))) eg_nil))) (by rw [hus.len, List.length_map]; omega) fun v H4 e4 hv => ?_
      have tk4 := lst_tk (o := .lst (us ++ [v])) (e4 _ _ (e3 _ _ hq'))
      refine s_ret (ev_var rfl) fun H5 e5 => k q (us ++ [v]) H5 nq ((ex_back eH nq (((ExB.of (e3.trans e4)).upd (by simp)))).trans e5) (e5 _ _ upd_same) ?_
      have g' : b' < b + wd := by simpa using g
      rw [hf2, QS.free, if_pos g', List.map_append]
      exact (((hus.ex (e3.trans e4)).keep tk4).snoc (hv.keep tk4)).ex e5
    · refine s_ret (ev_var rfl) fun H5 e5 => k q us H5 nq ((eH.trans e3).trans e5) (e5 _ _ (e3 _ _ hq')) ?_
      have g' : ¬ b' < b + wd := by simpa using g
      rw [hf2, QS.free, if_neg g', List.append_nil]
      exact hus.ex (e3.trans e5)
abbrev s_taken_by : Stmt := top 41
abbrev N_taken_by : List Str := ["sheet", "land", "code", "side", "x", "y", "wide", "found", "other", "other_x", "other_y", "other_wide", "low"]
abbrev P_taken_by : List Str := ["sheet", "land", "code", "side"]
theorem sc_taken_by : FnScope N_taken_by P_taken_by (defScope s_taken_by) := ⟨rfl, rfl, rfl, by decide +kernel, rfl, by decide +kernel, by decide +kernel⟩
theorem nd_taken_by : N_taken_by.Nodup := sc_taken_by.nd
def sp_taken_by (K : PySem.W.Frag) : Sp := fun vs H Q _ => ∃ (L : Nat) (t : Tr) (c : Cd) (sd : Sd) (S : List Cd) (va vc vs' : V) (d : Addr), vs = [va, .ref d, vc, vs'] ∧ Dn K H va (dSh L t) ∧ Dn K H vc (dC c) ∧ Dn K H vs' (dS sd) ∧ Rd H d (.dK (marks S)) ∧ BdPre L t c ∧
  ∀ q us H', H q = none → Ex H H' → H' q = some (.lst us) → DnAll K H' us ((QS.taken t L S c sd).map dPt) → Q (.ref q) H'
def ud : Sd → Bool | .up => true | .down => true | _ => false
theorem ud_in (s : Sd) : inV (.str (sn s)) ([("up" : Str), "down"].map V.str) = ud s := by cases s <;> decide +kernel
theorem lo_ud (s : Sd) (A : Sq) : QS.lo s A = if ud s then A.x else A.y := by cases s <;> rfl
theorem ok_taken_by (T : Txt K w mg tM tS aS aF aW) (F : Fd K mg "taken_by" s_taken_by) (C_corner : Ca P w K mg base "corner" P_corner 4 (sp_corner K)) (C_beyond : Ca P w K mg base "beyond" P_beyond 42 (sp_beyond K)) : Ca P w K mg base "taken_by" P_taken_by 43 (sp_taken_by K) := by
  refine F.mk sc_taken_by (fun _ _ _ _ _ _ us hl => match us, hl with | [_, _, _, _], _ => rfl) (fun vs H Q E ⟨_, _, _, _, _, _, _, _, _, e, _⟩ => by rw [e]; rfl) (fun f cdv A outer s H vs Q E hr h => ?_)
  obtain ⟨L, t, c, sd, S, va, vc, vsd, d, rfl, h0, h1, h2, hd, hpre, k⟩ := h
  obtain ⟨hL, hf, hlf, hcn⟩ := id hpre
  have hcl := QS.sqr_len hf hlf
  have hu := hu_of hr
  refine ⟨_, (pss_cons (ps_asg (pe_ca C_corner hr (pa_cons (pv 2) (pa_cons (pe_ix ix_tup (pv 0) pe_int (fun _ _ => rfl)) pa_nil))) (pg_tup (by rfl) (pgs_cons (pg_name (i := 4) nd_taken_by rfl (Or.inl rfl)) (pgs_cons (pg_name (i := 5) nd_taken_by rfl (Or.inl rfl)) (pgs_cons (pg_name (i := 6) nd_taken_by rfl (Or.inl rfl)) pgs_nil)))))
      (pss_cons (ps_set (i := 7) nd_taken_by rfl (Or.inl rfl) (pe_lst pa_nil))
      (pss_cons (ps_for PassesOwn.never rfl (pi_list (pe_ca C_beyond hr (pa_cons (pv 0) (pa_cons (pv 2) (pa_cons (pv 3) pa_nil))))) (pg_name (i := 8) nd_taken_by rfl (Or.inl rfl)) (pss_one (ps_if (pt_cmp (pc_din hu (pv 8) (pv 1))) (pss_cons (ps_asg (pe_ca C_corner hr (pa_cons (pv 8) (pa_cons (pe_ix ix_tup (pv 0) pe_int (fun _ _ => rfl)) pa_nil))) (pg_tup (by rfl) (pgs_cons (pg_name (i := 9) nd_taken_by rfl (Or.inl rfl)) (pgs_cons (pg_name (i := 10) nd_taken_by rfl (Or.inl rfl)) (pgs_cons (pg_name (i := 11) nd_taken_by rfl (Or.inl rfl)) pgs_nil)))))
      (pss_cons (ps_set (i := 12) nd_taken_by rfl (Or.inl rfl) (pe_ifExp (pt_cmpR op_in_seq (pv 3) (pe_tup (pa_cons pe_str (pa_cons pe_str pa_nil))) (by with_unfolding_all rfl)) (pv 9) (pv 10)))
      (pss_one (ps_expr (pe_bm PySem.F.plainAttrs_list PySem.F.slot_list_append PySem.F.type_list_append mt_append (pv 7) (pa_cons (pe_tup (pa_cons (pv 12) (pa_cons (pe_op op_add (pv 12) (pv 11)) pa_nil))) pa_nil)))))) pss_nil)))
      (pss_one (ps_ret (pv 7)))))), ?_⟩
  refine q_unpack3 (en_call (c, L) (eg_cons (en_var rfl h1) (eg_cons (en_ixT (ds := [.int L, dT t]) (en_var rfl h0) en_int (by decide) rfl) eg_nil)) ⟨hcl, hL⟩) fun v4 v5 v6 H1 e1 d4 d5 d6 => ?_
  refine q_setL (K := K) (el_lst eg_nil) fun q ws0 H2 nq e2 hq hs0 => ?_
  have hw0 : ws0 = [] := by cases hs0; rfl
  subst hw0
  have e02 := e1.trans e2
  refine q_for (m := [q]) (α := Cd) (enc := dC) (xs := QS.beyond t c sd) (ei_new (el_call (L, t, c, sd) (eg_cons (en_var rfl (h0.ex e02)) (eg_cons (en_var rfl (h1.ex e02)) (eg_cons (en_var rfl (h2.ex e02)) eg_nil))) hpre)) (.one hq)
    (fun pre σ' H' => ∃ o8 o9 o10 o11 o12 us, σ' = [some va, some (.ref d), some vc, some vsd, some v4, some v5, some v6, some (.ref q), o8, o9, o10, o11, o12] ∧ H' q = some (.lst us) ∧ DnAll K H' us (((pre.filter fun o => decide (o ∈ S)).map fun o => QS.stretch sd (sqr L 0 0 o)).map dPt))
    (fun H3 e3 => ⟨none, none, none, none, none, [], rfl, e3 _ _ hq, .nil⟩) (fun pre o post xv σ' H' H'' hxs e pv e' hdx N hN => ?_) (fun σ' H' e pv => ?_)
  · obtain ⟨o8, o9, o10, o11, o12, us, rfl, hq', hus⟩ := pv
    have eH : Ex H H'' := (ex_back e02 (fresh_back e1 nq) e).trans e'
    have ho : QS.isLf t o = true := QS.beyond_lf (show o ∈ QS.beyond t c sd by rw [hxs]; simp)
    have hol := QS.sqr_len hf ho
    have hbl := beyond_len t c sd
    have hpl : pre.length ≤ 2000 := by have := congrArg List.length hxs; simp at this; omega
    refine s_if (et_is (et_v (en_dIn (K := K) (s := cs o) (en_var rfl hdx) (ev_var rfl) (ex_rd eH hd))) (marks_get o S)) (fun g H3 e3 => ?_) (fun g H3 e3 => ?_)
    · refine q_unpack3 (en_call (o, L) (eg_cons (en_var rfl (hdx.ex e3)) (eg_cons (en_ixT (ds := [.int L, dT t]) (en_var rfl (h0.ex (eH.trans e3))) en_int (by decide) rfl) eg_nil)) ⟨hol, hL⟩) fun w9 w10 w11 H4 e4 d9 d10 d11 => ?_
      refine q_set (K := K) (en_if (et_n (en_isT (ys := ["up", "down"]) (en_var rfl (h2.ex ((eH.trans e3).trans e4))) (en_tup (eg_cons en_str (eg_cons en_str eg_nil))))) (d := .int (QS.lo sd (sqr L 0 0 o))) (fun b => (en_var rfl d9).cast ?_) (fun b => (en_var rfl d10).cast ?_)) fun w12 H5 e5 d12 => ?_
      · rw [ud_in] at b; rw [lo_ud, b]; rfl
      · rw [ud_in] at b; rw [lo_ud, b]; rfl
      have hq5 := e5 _ _ (e4 _ _ (e3 _ _ (e' _ _ hq')))
      refine s_push (K := K) (ws := us) (d := dPt (QS.stretch sd (sqr L 0 0 o))) hq5 (ev_var rfl) (en_tup (eg_cons (en_var rfl d12) (eg_cons (en_op0 (en_var rfl d12) (en_var rfl (d11.ex e5))) eg_nil))) (by
          rw [hus.len, List.length_map, List.length_map]
          have := List.length_filter_le (fun o => decide (o ∈ S)) pre
          omega) fun v H6 e6 hv => ?_
      have tk6 := lst_tk (o := .lst (us ++ [v])) (e6 _ _ hq5)
      refine hN _ _ (((ExB.of (((e3.trans e4).trans e5).trans e6)).upd (by simp))) ⟨_, _, _, _, _, us ++ [v], rfl, upd_same, ?_⟩
      rw [List.filter_append, List.filter_cons_of_pos (by simpa using g), List.filter_nil, List.map_append, List.map_append]
      exact ((hus.ex (e'.trans (((e3.trans e4).trans e5).trans e6))).keep tk6).snoc (hv.keep tk6)
    · refine hN _ _ (.of e3) ⟨_, _, _, _, _, us, rfl, e3 _ _ (e' _ _ hq'), ?_⟩
      rw [List.filter_append, List.filter_cons_of_neg (by simpa using g), List.filter_nil, List.append_nil]
      exact hus.ex (e'.trans e3)
  · obtain ⟨o8, o9, o10, o11, o12, us, rfl, hq', hus⟩ := pv
    exact s_ret (ev_var rfl) fun H5 e5 => k q us H5 (fresh_back e1 nq) ((ex_back e02 (fresh_back e1 nq) e).trans e5) (e5 _ _ hq') (hus.ex e5)
end
end QW
set_option autoImplicit true
set_option Elab.async false
set_option linter.all false
set_option maxRecDepth 100000
set_option maxHeartbeats 4000000
namespace QW
open PySem PySem.Spec PyProof.Rows L2 Evl QX
open QS (Qd Sd Tr Sq sqr Pt Way)
section
variable {P : Program} {w : World} {K : PySem.W.Frag} {mg : Str → Option Value} {base : Heap} {tM tS : Tok} {aS aF aW : Addr}
theorem free_len : ∀ (k : List (Int × Int)) (b e : Int), (QS.free b e k).length ≤ k.length + 1
  | [], b, e => by unfold QS.free; split <;> simp
  | p :: r, b, e => by
    have := free_len r (max b p.2) e
    unfold QS.free
    rw [List.length_append, List.length_cons]
    split <;> simp <;> omega
theorem taken_len (t : Tr) (L : Nat) (S : List Cd) (c : Cd) (s : Sd) : (QS.taken t L S c s).length ≤ t.count := by
  unfold QS.taken
  rw [List.length_map]
  exact Nat.le_trans (List.length_filter_le _ _) (beyond_len t c s)
theorem parts_len (t : Tr) (L : Nat) (S : List Cd) (c : Cd) (s : Sd) : (QS.parts t L S c s).length ≤ t.count + 1 := by
  unfold QS.parts
  exact Nat.le_trans (free_len _ _ _) (Nat.succ_le_succ (taken_len t L S c s))
theorem sides_num : QS.sides.map (fun s => PyData.tuple [.int (sdn s : Int), dS s]) = numbered (QS.sides.map dS) := rfl
abbrev s_ways_of : Stmt := top 42
abbrev N_ways_of : List Str := ["sheet", "land", "code", "x", "y", "wide", "found", "direction", "side", "start", "low", "high"]
abbrev P_ways_of : List Str := ["sheet", "land", "code"]
theorem sc_ways_of : FnScope N_ways_of P_ways_of (defScope s_ways_of) := ⟨rfl, rfl, rfl, by decide +kernel, rfl, by decide +kernel, by decide +kernel⟩
theorem nd_ways_of : N_ways_of.Nodup := sc_ways_of.nd
def sp_ways_of (K : PySem.W.Frag) : Sp := fun vs H Q _ => ∃ (L : Nat) (t : Tr) (c : Cd) (S : List Cd) (va vc : V) (d : Addr), vs = [va, .ref d, vc] ∧ Dn K H va (dSh L t) ∧ Dn K H vc (dC c) ∧ Rd H d (.dK (marks S)) ∧ BdPre L t c ∧
  ∀ q us H', H q = none → Ex H H' → H' q = some (.lst us) → DnAll K H' us ((QS.waysOf t L S c).map dWay) → Q (.ref q) H'
theorem ok_ways_of (T : Txt K w mg tM tS aS aF aW) (F : Fd K mg "ways_of" s_ways_of) (C_corner : Ca P w K mg base "corner" P_corner 4 (sp_corner K)) (C_free_parts : Ca P w K mg base "free_parts" P_free_parts 1 (sp_free_parts K)) (C_taken_by : Ca P w K mg base "taken_by" P_taken_by 43 (sp_taken_by K)) : Ca P w K mg base "ways_of" P_ways_of 44 (sp_ways_of K) := by
  refine F.mk sc_ways_of (fun _ _ _ _ _ _ us hl => match us, hl with | [_, _, _], _ => rfl) (fun vs H Q E ⟨_, _, _, _, _, _, _, e, _⟩ => by rw [e]; rfl) (fun f cdv A outer s H vs Q E hr h => ?_)
  obtain ⟨L, t, c, S, va, vc, d, rfl, h0, h1, hd, hpre, k⟩ := h
  obtain ⟨hL, hf, hlf, hcn⟩ := id hpre
  have hcl := QS.sqr_len hf hlf
  refine ⟨_, (pss_cons (ps_asg (pe_ca C_corner hr (pa_cons (pv 2) (pa_cons (pe_ix ix_tup (pv 0) pe_int (fun _ _ => rfl)) pa_nil))) (pg_tup (by rfl) (pgs_cons (pg_name (i := 3) nd_ways_of rfl (Or.inl rfl)) (pgs_cons (pg_name (i := 4) nd_ways_of rfl (Or.inl rfl)) (pgs_cons (pg_name (i := 5) nd_ways_of rfl (Or.inl rfl)) pgs_nil)))))
      (pss_cons (ps_set (i := 6) nd_ways_of rfl (Or.inl rfl) (pe_lst pa_nil))
      (pss_cons (ps_for PassesOwn.never rfl (pi_enumT (by rfl) T.enumerate (pa_cons (pe_tup (pa_cons pe_str (pa_cons pe_str (pa_cons pe_str (pa_cons pe_str pa_nil))))) pa_nil)) (pg_tup (by rfl) (pgs_cons (pg_name (i := 7) nd_ways_of rfl (Or.inl rfl)) (pgs_cons (pg_name (i := 8) nd_ways_of rfl (Or.inl rfl)) pgs_nil))) (pss_cons (ps_set (i := 9) nd_ways_of rfl (Or.inl rfl) (pe_ifExp (pt_cmpR op_in_seq (pv 8) (pe_tup (pa_cons pe_str (pa_cons pe_str pa_nil))) (by with_unfolding_all rfl)) (pv 3) (pv 4)))
      (pss_one (ps_for PassesOwn.never rfl (pi_list (pe_ca C_free_parts hr (pa_cons (pv 9) (pa_cons (pv 5) (pa_cons (pe_ca C_taken_by hr (pa_cons (pv 0) (pa_cons (pv 1) (pa_cons (pv 2) (pa_cons (pv 8) pa_nil))))) pa_nil))))) (pg_tup (by rfl) (pgs_cons (pg_name (i := 10) nd_ways_of rfl (Or.inl rfl)) (pgs_cons (pg_name (i := 11) nd_ways_of rfl (Or.inl rfl)) pgs_nil))) (pss_one (ps_if (pt_cmpR op_eq (pv 8) pe_str (nomark _)) (pss_one (ps_expr (pe_bm PySem.F.plainAttrs_list PySem.F.slot_list_append PySem.F.type_list_append mt_append (pv 6) (pa_cons (pe_tup (pa_cons (pe_tup (pa_cons (pv 10) (pa_cons (pv 4) pa_nil))) (pa_cons (pv 7) (pa_cons (pe_tup (pa_cons (pv 11) (pa_cons (pv 4) pa_nil))) pa_nil)))) pa_nil)))) (pss_one (ps_if (pt_cmpR op_eq (pv 8) pe_str (nomark _)) (pss_one (ps_expr (pe_bm PySem.F.plainAttrs_list PySem.F.slot_list_append PySem.F.type_list_append mt_append (pv 6) (pa_cons (pe_tup (pa_cons (pe_tup (pa_cons (pe_op op_add (pv 3) (pv 5)) (pa_cons (pv 10) pa_nil))) (pa_cons (pv 7) (pa_cons (pe_tup (pa_cons (pe_op op_add (pv 3) (pv 5)) (pa_cons (pv 11) pa_nil))) pa_nil)))) pa_nil)))) (pss_one (ps_if (pt_cmpR op_eq (pv 8) pe_str (nomark _)) (pss_one (ps_expr (pe_bm PySem.F.plainAttrs_list PySem.F.slot_list_append PySem.F.type_list_append mt_append (pv 6) (pa_cons (pe_tup (pa_cons (pe_tup (pa_cons (pv 11) (pa_cons (pe_op op_add (pv 4) (pv 5)) pa_nil))) (pa_cons (pv 7) (pa_cons (pe_tup (pa_cons (pv 10) (pa_cons (pe_op op_add (pv 4) (pv 5)) pa_nil))) pa_nil)))) pa_nil)))) (pss_one (ps_expr (pe_bm PySem.F.plainAttrs_list PySem.F.slot_list_append PySem.F.type_list_append mt_append (pv 6) (pa_cons (pe_tup (pa_cons (pe_tup (pa_cons (pv 3) (pa_cons (pv 11) pa_nil))) (pa_cons (pv 7) (pa_cons (pe_tup (pa_cons (pv 3) (pa_cons (pv 10) pa_nil))) pa_nil)))) pa_nil))))))))))))))
      (pss_one (ps_ret (pv 6)))))), ?_⟩
  refine q_unpack3 (en_call (c, L) (eg_cons (en_var rfl h1) (eg_cons (en_ixT (ds := [.int L, dT t]) (en_var rfl h0) en_int (by decide) rfl) eg_nil)) ⟨hcl, hL⟩) fun v3 v4 v5 H1 e1 d3 d4 d5 => ?_
  simp only at d3 d4 d5
  generalize hA : sqr L 0 0 c = SA at d3 d4 d5
  refine q_setL (K := K) (el_lst eg_nil) fun q ws0 H2 nq e2 hq hs0 => ?_
  have hw0 : ws0 = [] := by cases hs0; rfl
  subst hw0
  have e02 := e1.trans e2
  have nqH := fresh_back e1 nq
  refine q_for (m := [q]) (α := Sd) (enc := fun s => .tuple [.int (sdn s : Int), dS s]) (xs := QS.sides) (by rw [sides_num]; exact ei_enumT (ds := QS.sides.map dS) (en_tup (eg_cons (en_str (s := "up")) (eg_cons (en_str (s := "right")) (eg_cons (en_str (s := "down")) (eg_cons (en_str (s := "left")) eg_nil)))))) (.one hq)
    (fun pre σ' H' => ∃ o7 o8 o9 o10 o11 us, σ' = [some va, some (.ref d), some vc, some v3, some v4, some v5, some (.ref q), o7, o8, o9, o10, o11] ∧ H' q = some (.lst us) ∧ DnAll K H' us ((pre.flatMap fun s => (QS.parts t L S c s).map (QS.way s SA)).map dWay))
    (fun H3 e3 => ⟨none, none, none, none, none, [], rfl, e3 _ _ hq, .nil⟩) (fun pre sd post xv σ' H' H'' hxs e pv e' hdx N hN => ?_) (fun σ' H' e pv => ?_)
  · obtain ⟨o7, o8, o9, o10, o11, us, rfl, hq', hus⟩ := pv
    have eH : Ex H H'' := (ex_back e02 nqH e).trans e'
    have tk : TKp H2 H'' := (e.tk (.one hq)).trans (.ex e')
    have d3' := (d3.ex e2).keep tk
    have d4' := (d4.ex e2).keep tk
    have d5' := (d5.ex e2).keep tk
    refine g_two hdx fun v7 v8 d7 d8 => ?_
    have hul : us.length ≤ 3 * 2001 := by
      rw [hus.len, List.length_map, List.length_flatMap]
      have hb : ∀ s : Sd, ((QS.parts t L S c s).map (QS.way s SA)).length ≤ 2001 := fun s => by rw [List.length_map]; have := parts_len t L S c s; omega
      have hl : pre.length ≤ 3 := by have := congrArg List.length hxs; simp [QS.sides] at this; omega
      match pre, hl with
      | [], _ => simp
      | [a], _ => have := hb a; simp at this ⊢; omega
      | [a, b], _ => have a1 := hb a; have a2 := hb b; simp at a1 a2 ⊢; omega
      | [a, b, c2], _ => have a1 := hb a; have a2 := hb b; have a3 := hb c2; simp at a1 a2 a3 ⊢; omega
    refine q_set (K := K) (en_if (et_n (en_isT (ys := ["up", "down"]) (en_var rfl d8) (en_tup (eg_cons en_str (eg_cons en_str eg_nil))))) (d := .int (QS.lo sd SA)) (fun b => (en_var rfl d3').cast ?_) (fun b => (en_var rfl d4').cast ?_)) fun v9 H3 e3 d9 => ?_
    · rw [ud_in] at b; rw [lo_ud, b]; rfl
    · rw [ud_in] at b; rw [lo_ud, b]; rfl
    have hq3 := e3 _ _ (e' _ _ hq')
    have hpl := parts_len t L S c sd
    have hsp : ∀ H4, Ex H3 H4 → EvLs K (tCall (sp_free_parts K) [] E0 (tCons (tVar 9) (tCons (tVar 5) (tCons (tCall (sp_taken_by K) [] E0 (tCons (tVar 0) (tCons (tVar 1) (tCons (tVar 2) (tCons (tVar 8) tNil))))) tNil)))) [some va, some (.ref d), some vc, some v3, some v4, some v5, some (.ref q), some v7, some v8, some v9, o10, o11] H3 ((QS.parts t L S c sd).map dPt) := fun H4 _ => by
      have ht : EvLs K (tCall (sp_taken_by K) [] E0 (tCons (tVar 0) (tCons (tVar 1) (tCons (tVar 2) (tCons (tVar 8) tNil))))) [some va, some (.ref d), some vc, some v3, some v4, some v5, some (.ref q), some v7, some v8, some v9, o10, o11] H3 ((QS.taken t L S c sd).map dPt) := by
        refine el_callG (eg_conN (en_var rfl (h0.ex (eH.trans e3))) (eg_conV (ev_var rfl) (eg_conN (en_var rfl (h1.ex (eH.trans e3))) (eg_conN (en_var rfl (d8.ex e3)) eg_nil')))) fun vs5 H5 e5 hp Q k => ?_
        obtain ⟨w1, r1, rfl, hw1, r2, rfl, w3, r3, rfl, hw3, w4, r4, rfl, hw4, rfl⟩ := hp
        exact ⟨L, t, c, sd, S, w1, w3, w4, d, rfl, hw1, hw3, hw4, ex_rd ((eH.trans e3).trans e5) hd, hpre, fun p us H6 np e6 hp hs => k p us H6 np e6 hp hs⟩
      refine el_callG (eg_conN (en_var rfl d9) (eg_conN (en_var rfl (d5'.ex e3)) (eg_conL ht eg_nil'))) fun vs5 H5 e5 hp Q k => ?_
      obtain ⟨w1, r1, rfl, hw1, w2, r2, rfl, hw2, p, ws, r3, rfl, np, hp, hws, rfl⟩ := hp
      refine ⟨_, _, w1, w2, p, ws, QS.taken t L S c sd, rfl, hw1, hw2, hp, hws, ?_, fun p us H6 np e6 hp hs => k p us H6 np e6 hp ?_⟩
      · have := taken_len t L S c sd
        omega
      · unfold QS.parts
        rw [hA]
        exact hs
    refine s_for (m := [q]) (α := Int × Int) (enc := dPt) (xs := QS.parts t L S c sd) (ei_new (hsp _ (Ex.refl _))) (.one hq3)
      (fun pre2 σ' H' => ∃ o10 o11 us2, σ' = [some va, some (.ref d), some vc, some v3, some v4, some v5, some (.ref q), some v7, some v8, some v9, o10, o11] ∧ H' q = some (.lst (us ++ us2)) ∧ DnAll K H' us2 ((pre2.map (QS.way sd SA)).map dWay))
      (fun H4 e4 => ⟨o10, o11, [], rfl, by rw [List.append_nil]; exact e4 _ _ hq3, .nil⟩) (fun pre2 pt post2 xv2 σ' H4 H5 hxs2 e4 pv e5 hdx2 N2 hN2 => ?_) (fun σ' H4 e4 pv => ?_)
    · obtain ⟨o10, o11, us2, rfl, hq4, hus2⟩ := pv
      have tk5 : TKp H3 H5 := (e4.tk (.one hq3)).trans (.ex e5)
      have d3q := (d3'.ex e3).keep tk5
      have d4q := (d4'.ex e3).keep tk5
      have d5q := (d5'.ex e3).keep tk5
      have d7q := (d7.ex e3).keep tk5
      have d8q := (d8.ex e3).keep tk5
      refine g_two hdx2 fun w10 w11 d10 d11 => ?_
      have hlen2 : us2.length ≤ 2001 := by
        rw [hus2.len, List.length_map, List.length_map]
        have := congrArg List.length hxs2
        simp at this; omega
      have fin : ∀ (H6 : Hp) (v : V), Ex H5 H6 → Dn K H6 v (dWay (QS.way sd SA pt)) → N2 [some va, some (.ref d), some vc, some v3, some v4, some v5, some (.ref q), some v7, some v8, some v9, some w10, some w11] (upd H6 q (.lst (us ++ us2 ++ [v]))) := fun H6 v e6 hv => by
        have tk6 := lst_tk (o := .lst (us ++ us2 ++ [v])) (e6 _ _ (e5 _ _ hq4))
        refine hN2 _ _ ((ExB.of e6).upd (by simp)) ⟨some w10, some w11, us2 ++ [v], rfl, by rw [upd_same, List.append_assoc], ?_⟩
        rw [List.map_append, List.map_append]
        exact ((hus2.ex (e5.trans e6)).keep tk6).snoc (hv.keep tk6)
      have hll : (us ++ us2).length < 10000000 := by rw [List.length_append]; omega
      refine s_if (et_n (en_eqS (en_var rfl d8q) en_str)) (fun g H6 e6 => ?_) (fun g H6 e6 => ?_)
      · obtain rfl : sd = .up := sn_inj (of_decide_eq_true g)
        exact s_push (K := K) (d := dWay (QS.way .up SA pt)) (e6 _ _ (e5 _ _ hq4)) (ev_var rfl) (en_tup (eg_cons (en_tup (eg_cons (en_var rfl (d10.ex e6)) (eg_cons (en_var rfl (d4q.ex e6)) eg_nil))) (eg_cons (en_var rfl (d7q.ex e6)) (eg_cons (en_tup (eg_cons (en_var rfl (d11.ex e6)) (eg_cons (en_var rfl (d4q.ex e6)) eg_nil))) eg_nil)))) hll fun v H7 e7 hv => fin H7 v (e6.trans e7) hv
      · refine s_if (et_n (en_eqS (en_var rfl (d8q.ex e6)) en_str)) (fun g2 H7 e7 => ?_) (fun g2 H7 e7 => ?_)
        · obtain rfl : sd = .right := sn_inj (of_decide_eq_true g2)
          have e67 := e6.trans e7
          exact s_push (K := K) (d := dWay (QS.way .right SA pt)) (e67 _ _ (e5 _ _ hq4)) (ev_var rfl) (en_tup (eg_cons (en_tup (eg_cons (en_op0 (en_var rfl (d3q.ex e67)) (en_var rfl (d5q.ex e67))) (eg_cons (en_var rfl (d10.ex e67)) eg_nil))) (eg_cons (en_var rfl (d7q.ex e67)) (eg_cons (en_tup (eg_cons (en_op0 (en_var rfl (d3q.ex e67)) (en_var rfl (d5q.ex e67))) (eg_cons (en_var rfl (d11.ex e67)) eg_nil))) eg_nil)))) hll fun v H8 e8 hv => fin H8 v (e67.trans e8) hv
        · refine s_if (et_n (en_eqS (en_var rfl ((d8q.ex e6).ex e7)) en_str)) (fun g3 H8 e8 => ?_) (fun g3 H8 e8 => ?_)
          · obtain rfl : sd = .down := sn_inj (of_decide_eq_true g3)
            have e68 := (e6.trans e7).trans e8
            exact s_push (K := K) (d := dWay (QS.way .down SA pt)) (e68 _ _ (e5 _ _ hq4)) (ev_var rfl) (en_tup (eg_cons (en_tup (eg_cons (en_var rfl (d11.ex e68)) (eg_cons (en_op0 (en_var rfl (d4q.ex e68)) (en_var rfl (d5q.ex e68))) eg_nil))) (eg_cons (en_var rfl (d7q.ex e68)) (eg_cons (en_tup (eg_cons (en_var rfl (d10.ex e68)) (eg_cons (en_op0 (en_var rfl (d4q.ex e68)) (en_var rfl (d5q.ex e68))) eg_nil))) eg_nil)))) hll fun v H9 e9 hv => fin H9 v (e68.trans e9) hv
          · have e68 := (e6.trans e7).trans e8
            have hsd : sd = .left := by
              have g1 : ¬ sn sd = sn .up := of_decide_eq_false g
              have g2' : ¬ sn sd = sn .right := of_decide_eq_false g2
              have g3' : ¬ sn sd = sn .down := of_decide_eq_false g3
              cases sd <;> first | rfl | exact absurd rfl g1 | exact absurd rfl g2' | exact absurd rfl g3'
            subst hsd
            exact s_push (K := K) (d := dWay (QS.way .left SA pt)) (e68 _ _ (e5 _ _ hq4)) (ev_var rfl) (en_tup (eg_cons (en_tup (eg_cons (en_var rfl (d3q.ex e68)) (eg_cons (en_var rfl (d11.ex e68)) eg_nil))) (eg_cons (en_var rfl (d7q.ex e68)) (eg_cons (en_tup (eg_cons (en_var rfl (d3q.ex e68)) (eg_cons (en_var rfl (d10.ex e68)) eg_nil))) eg_nil)))) hll fun v H9 e9 hv => fin H9 v (e68.trans e9) hv
    · obtain ⟨o10, o11, us2, rfl, hq4, hus2⟩ := pv
      refine hN _ _ ((ExB.of e3).trans e4) ⟨_, _, _, _, _, us ++ us2, rfl, hq4, ?_⟩
      rw [List.flatMap_append, List.map_append]
      refine ((hus.ex (e'.trans e3)).keep (e4.tk (.one hq3))).app ?_
      rw [List.flatMap_singleton]
      exact hus2
  · obtain ⟨o7, o8, o9, o10, o11, us, rfl, hq', hus⟩ := pv
    refine s_ret (ev_var rfl) fun H5 e5 => k q us H5 nqH ((ex_back e02 nqH e).trans e5) (e5 _ _ hq') ?_
    unfold QS.waysOf
    rw [hA]
    exact hus.ex e5
end
end QW
set_option autoImplicit true
set_option Elab.async false
set_option linter.all false
set_option maxRecDepth 100000
set_option maxHeartbeats 4000000
namespace QW
open PySem PySem.Spec PyProof.Rows L2 Evl QX
open QS (Qd Sd Tr Sq sqr Pt Way)

/-! ### the ends, as a dict -/
def EW (K : PySem.W.Frag) (H : Hp) (es : List NE) (W : List Way) : Prop := Paired (fun (e : NE) (x : Way) => e.1 = pk x.1 ∧ Dn K H e.2.2 (dPt x.2)) es W
theorem EW.keep {K : PySem.W.Frag} {H H' : Hp} (t : TKp H H') : ∀ {es : List NE} {W : List Way}, EW K H es W → EW K H' es W
  | _, _, .nil => .nil
  | _, _, .cons r q => .cons ⟨r.1, r.2.keep t⟩ (EW.keep t q)
theorem EW.keys {K : PySem.W.Frag} {H : Hp} : ∀ {es : List NE} {W : List Way}, EW K H es W → es.map (·.1) = (W.map (·.1)).map pk
  | _, _, .nil => rfl
  | _, _, .cons r q => by rw [List.map_cons, List.map_cons, List.map_cons, r.1, EW.keys q]
theorem nk_some (k : PK) : ∀ es : List NE, (nkGet es k).isSome = decide (k ∈ es.map (·.1))
  | [] => rfl
  | e :: es => by
    have ih := nk_some k es
    unfold nkGet at ih ⊢
    by_cases g : e.1 = k
    · rw [List.find?_cons_of_pos (by simpa using g)]
      simp [g]
    · rw [List.find?_cons_of_neg (by simpa using g), ih, List.map_cons]
      exact decide_eq_decide.mpr ⟨fun h => List.mem_cons_of_mem _ h, fun h => (List.mem_cons.mp h).resolve_left fun z => g z.symm⟩
theorem nk_keys {es : List NE} {ks : List QS.Key} (k : QS.Key) (h : es.map (·.1) = ks.map pk) : (nkGet es (pk k)).isSome = decide (k ∈ ks) := by
  rw [nk_some, h]
  exact decide_eq_decide.mpr ⟨fun z => by obtain ⟨y, h1, h2⟩ := List.mem_map.mp z; rw [← pk_inj h2]; exact h1, fun z => List.mem_map.mpr ⟨k, z, rfl⟩⟩
theorem EW.get {K : PySem.W.Frag} {H : Hp} {k : QS.Key} : ∀ {es : List NE} {W : List Way}, EW K H es W → k ∈ W.map (·.1) → ∃ v, nkGet es (pk k) = some v ∧ Dn K H v (dPt (QS.endAt W k))
  | _, _, .nil, h => by simp at h
  | e :: es, x :: W, .cons r q, h => by
    unfold nkGet QS.endAt
    by_cases g : x.1 = k
    · rw [List.find?_cons_of_pos (by simp [r.1, g]), List.find?_cons_of_pos (by simp [g])]
      exact ⟨_, rfl, r.2⟩
    · rw [List.find?_cons_of_neg (by simp only [decide_eq_true_eq]; rw [r.1]; exact fun z => g (pk_inj z)), List.find?_cons_of_neg (by simpa using g)]
      have h2 : k ∈ W.map (·.1) := by
        rw [List.map_cons, List.mem_cons] at h
        exact h.resolve_left (fun z => g z.symm)
      obtain ⟨v, h3, h4⟩ := EW.get q h2
      unfold nkGet at h3
      unfold QS.endAt at h4
      exact ⟨v, h3, h4⟩
theorem hasKey_dec (W : List Way) (k : QS.Key) : QS.hasKey W k = decide (k ∈ W.map (·.1)) := by
  have := QS.hasKey_iff (W := W) (k := k)
  cases h : QS.hasKey W k with
  | true => exact (decide_eq_true (this.mp h)).symm
  | false => exact (decide_eq_false fun z => by rw [this.mpr z] at h; cases h).symm
section
variable {P : Program} {w : World} {K : PySem.W.Frag} {σ : L2.St} {H : Hp} {ta tb te : TE} {tz : TS} {D : Ends} {a : Addr} {es : List NE} {k : PK} {d : PyData}
theorem Nk.ex {H' : Hp} (h : Nk P w K H a es) (e : Ex H H') : Nk P w K H' a es := ⟨ex_rd e h.1, fun x hx => (h.2 x hx).ex e⟩
theorem en_nIn (ha : EvN K ta σ H (kd k)) (hb : Ev tb σ H (.ref a)) (hN : Nk P w K H a es) : EvN K (tNIn P w K ta tb) σ H (.bool (nkGet es k).isSome) := fun H1 a1 Q q =>
  ha H1 a1 _ fun v H2 a2 hv => hb H2 (a1.trans a2) _ fun H3 a3 => by
    obtain ⟨b, xs, rfl, _, _⟩ := hv.tup_eq
    exact ⟨a, b, es, k, rfl, rfl, hN.ex ((a1.trans a2).trans a3), hv.ex a3, q _ H3 (a2.trans a3) (.bl _)⟩
theorem en_nNi (ha : EvN K ta σ H (kd k)) (hb : Ev tb σ H (.ref a)) (hN : Nk P w K H a es) : EvN K (tNNotIn P w K ta tb) σ H (.bool (!(nkGet es k).isSome)) := fun H1 a1 Q q =>
  ha H1 a1 _ fun v H2 a2 hv => hb H2 (a1.trans a2) _ fun H3 a3 => by
    obtain ⟨b, xs, rfl, _, _⟩ := hv.tup_eq
    exact ⟨a, b, es, k, rfl, rfl, hN.ex ((a1.trans a2).trans a3), hv.ex a3, q _ H3 (a2.trans a3) (.bl _)⟩
theorem en_nGet {v : V} (hb : Ev tb σ H (.ref a)) (ha : EvN K ta σ H (kd k)) (hN : Nk P w K H a es) (hv : nkGet es k = some v) (hd : Dn K H v d) : EvN K (tNGet P w K tb ta) σ H d := fun H1 a1 Q q =>
  hb H1 a1 _ fun H2 a2 => ha H2 (a1.trans a2) _ fun u H3 a3 hu => by
    obtain ⟨b, xs, rfl, _, _⟩ := hu.tup_eq
    exact ⟨a, b, es, k, v, rfl, rfl, hN.ex ((a1.trans a2).trans a3), hu, hv, q v H3 (a2.trans a3) (hd.ex ((a1.trans a2).trans a3))⟩
theorem nk_tup {H' : Hp} : ∀ xs, nkO P w a es ≠ .tup xs := fun xs z => by unfold nkO at z; cases z
theorem s_nPut {v : V} {dv : PyData} (hv : EvN K te σ H dv) (hb : Ev tb σ H (.ref a)) (ha : EvN K ta σ H (kd k)) (hd : H a = some (nkO P w a es)) (hk : ∀ e ∈ es, Dn K H (.ref e.2.1) (kd e.1)) (hn : nkGet es k = none) (hl : es.length < 10000000)
    (q : ∀ v b H1, Ex H H1 → Dn K H1 v dv → Dn K H1 (.ref b) (kd k) → D.nx σ (upd H1 a (nkO P w a (es ++ [(k, b, v)])))) : sNPut P w K tb ta te D σ H :=
  hv H (Ex.refl H) _ fun v H1 e1 hv1 => hb H1 e1 _ fun H2 e2 => ha H2 (e1.trans e2) _ fun u H3 e3 hu => by
    obtain ⟨b, xs, rfl, _, _⟩ := hu.tup_eq
    exact ⟨a, b, es, k, rfl, rfl, e3 _ _ (e2 _ _ (e1 _ _ hd)), fun x hx => (hk x hx).ex ((e1.trans e2).trans e3), hu, hn, hl, q v b H3 ((e1.trans e2).trans e3) (hv1.ex (e2.trans e3)) hu⟩
theorem q_nPut {v : V} {dv : PyData} (hv : EvN K te σ H dv) (hb : Ev tb σ H (.ref a)) (ha : EvN K ta σ H (kd k)) (hd : H a = some (nkO P w a es)) (hk : ∀ e ∈ es, Dn K H (.ref e.2.1) (kd e.1)) (hn : nkGet es k = none) (hl : es.length < 10000000)
    (q : ∀ v b H1, Ex H H1 → Dn K H1 v dv → Dn K H1 (.ref b) (kd k) → tz D σ (upd H1 a (nkO P w a (es ++ [(k, b, v)])))) : tSeq (sNPut P w K tb ta te) tz D σ H := s_nPut (D := { D with nx := tz D }) (v := v) hv hb ha hd hk hn hl q
theorem ed_newN {Q : VK} (q : ∀ p H1, H p = none → Ex H H1 → H1 p = some (nkO P w p []) → Q (.ref p) H1) : tDNewN P w σ H Q := fun p hp => q p _ hp (Ex.new hp) upd_same
end
def turnS (z : Int) (d : Sd) : Sd := if z = 1 then QS.rot d else if z = 0 then d else QS.rot3 d
theorem turn_num {z : Int} (hz : z ∈ [(1 : Int), 0, 3]) (d : Sd) : ((sdn d : Int) + z) % 4 = (sdn (turnS z d) : Int) := by
  simp only [List.mem_cons, List.not_mem_nil, or_false] at hz
  rcases hz with rfl | rfl | rfl <;> cases d <;> decide +kernel
theorem follow_at {W : List Way} {p : Pt} {d : Sd} {pre post : List Int} {z : Int} (h : [(1 : Int), 0, 3] = pre ++ z :: post) (hno : ∀ y ∈ pre, QS.hasKey W (p, turnS y d) = false) (hy : QS.hasKey W (p, turnS z d) = true) : QS.follow W p d = turnS z d := by
  unfold QS.follow
  match pre, h with
  | [], h => simp at h; obtain ⟨rfl, _⟩ := h; rw [if_pos (by simpa [turnS] using hy)]; rfl
  | [y], h =>
    simp at h; obtain ⟨rfl, rfl, _⟩ := h
    have h1 := hno 1 (by simp)
    rw [if_neg (by simpa [turnS] using h1), if_pos (by simpa [turnS] using hy)]; rfl
  | [y, y2], h =>
    simp at h; obtain ⟨rfl, rfl, rfl, _⟩ := h
    have h1 := hno 1 (by simp); have h2 := hno 0 (by simp)
    rw [if_neg (by simpa [turnS] using h1), if_neg (by simpa [turnS] using h2), if_pos (by simpa [turnS] using hy)]; rfl
  | y :: y2 :: y3 :: r, h => simp at h
theorem follow_no {W : List Way} {p : Pt} {d : Sd} (hno : ∀ y ∈ [(1 : Int), 0, 3], QS.hasKey W (p, turnS y d) = false) : QS.follow W p d = d := by
  have h1 := hno 1 (by simp); have h2 := hno 0 (by simp); have h3 := hno 3 (by simp)
  unfold QS.follow
  rw [if_neg (by simpa [turnS] using h1), if_neg (by simpa [turnS] using h2), if_neg (by simpa [turnS] using h3)]
section
variable {P : Program} {w : World} {K : PySem.W.Frag} {mg : Str → Option Value} {base : Heap} {tM tS : Tok} {aS aF aW : Addr}
abbrev s_following : Stmt := top 43
abbrev N_following : List Str := ["ends", "point", "direction", "turn"]
abbrev P_following : List Str := ["ends", "point", "direction"]
theorem sc_following : FnScope N_following P_following (defScope s_following) := ⟨rfl, rfl, rfl, by decide +kernel, rfl, by decide +kernel, by decide +kernel⟩
theorem nd_following : N_following.Nodup := sc_following.nd
def sp_following (P : Program) (w : World) (K : PySem.W.Frag) : Sp := fun vs H Q _ => ∃ (a : Addr) (es : List NE) (W : List Way) (p : Pt) (d : Sd) (vp vd : V), vs = [.ref a, vp, vd] ∧ Nk P w K H a es ∧ EW K H es W ∧ Dn K H vp (dPt p) ∧ Dn K H vd (.int (sdn d)) ∧
  ∀ v H', Ex H H' → Dn K H' v (.int (sdn (QS.follow W p d))) → Q v H'
theorem ok_following (T : Txt K w mg tM tS aS aF aW) (F : Fd K mg "following" s_following) : Ca P w K mg base "following" P_following 1 (sp_following P w K) := by
  refine F.mk sc_following (fun _ _ _ _ _ _ us hl => match us, hl with | [_, _, _], _ => rfl) (fun vs H Q E ⟨_, _, _, _, _, _, _, e, _⟩ => by rw [e]; rfl) (fun f cdv A outer s H vs Q E hr h => ?_)
  obtain ⟨a, es, W, p, d, vp, vd, rfl, hN, hW, h1, h2, k⟩ := h
  refine ⟨_, (pss_cons (ps_for PassesOwn.never rfl (pi_tup (pe_tup (pa_cons pe_int (pa_cons pe_int (pa_cons pe_int pa_nil))))) (pg_name (i := 3) nd_following rfl (Or.inl rfl)) (pss_one (ps_if (pt_cmp (pc_nin hr (pe_tup (pa_cons (pv 1) (pa_cons (pe_op op_mod (pe_op op_add (pv 2) (pv 3)) pe_int) pa_nil))) (pv 0))) (pss_one (ps_ret (pe_op op_mod (pe_op op_add (pv 2) (pv 3)) pe_int))) pss_nil)))
      (pss_one (ps_ret (pv 2)))), ?_⟩
  refine q_for (m := []) (α := Int) (enc := .int) (xs := [1, 0, 3]) (ei_tup (en_tup (eg_cons en_int (eg_cons en_int (eg_cons en_int eg_nil))))) .nil (fun pre σ' H' => ∃ o, σ' = [some (.ref a), some vp, some vd, o] ∧ ∀ y ∈ pre, QS.hasKey W (p, turnS y d) = false) (fun H1 e1 => ⟨none, rfl, fun y hy => nomatch hy⟩)
    (fun pre z post xv σ' H' H'' hxs e pv e' hdx N hN' => ?_) (fun σ' H' e pv => ?_)
  · obtain ⟨o, rfl, hno⟩ := pv
    have e0 : Ex H H'' := e.ex.trans e'
    have hz : z ∈ [(1 : Int), 0, 3] := by rw [hxs]; simp
    have hmd : ∀ {H3 : Hp}, Ex H'' H3 → EvN K (tOp (rI (fun _ j => 0 < j) fun i j => .int (i % j)) (tOp (rI0 fun i j => .int (i + j)) (tVar 2) (tVar 3)) (tC (.int 4))) [some (.ref a), some vp, some vd, some xv] H3 (.int (sdn (turnS z d))) := fun e3 =>
      (en_opC (en_op0 (en_var rfl (h2.ex (e0.trans e3))) (en_var rfl (hdx.ex e3))) en_int (by decide)).cast (by rw [turn_num hz])
    have hin := en_nIn (P := P) (w := w) (K := K) (k := pk (p, turnS z d)) (ta := tTup (tCons (tVar 1) (tCons (tOp (rI (fun _ j => 0 < j) fun i j => .int (i % j)) (tOp (rI0 fun i j => .int (i + j)) (tVar 2) (tVar 3)) (tC (.int 4))) tNil))) (tb := tVar 0) (σ := [some (.ref a), some vp, some vd, some xv]) (H := H'') (en_tup (eg_cons (en_var rfl (h1.ex e0)) (eg_cons (hmd (Ex.refl _)) eg_nil))) (ev_var rfl) (hN.ex e0)
    rw [nk_keys (p, turnS z d) hW.keys, ← hasKey_dec] at hin
    refine s_if (et_v hin) (fun g H3 e3 => ?_) (fun g H3 e3 => ?_)
    · refine s_retN (hmd e3) fun v H4 e4 hd => k v H4 ((e0.trans e3).trans e4) ?_
      rw [follow_at hxs hno g]; exact hd
    · refine hN' _ _ (.of e3) ⟨_, rfl, fun y hy => ?_⟩
      rcases List.mem_append.mp hy with hy | hy
      · exact hno y hy
      · simp at hy; subst hy; exact g
  · obtain ⟨o, rfl, hno⟩ := pv
    refine s_retN (en_var rfl (h2.ex e.ex)) fun v H4 e4 hd => k v H4 (e.ex.trans e4) ?_
    rw [follow_no hno]; exact hd
abbrev s_ring_from : Stmt := top 44
abbrev N_ring_from : List Str := ["ends", "begin", "used", "found", "point", "direction"]
abbrev P_ring_from : List Str := ["ends", "begin", "used"]
theorem sc_ring_from : FnScope N_ring_from P_ring_from (defScope s_ring_from) := ⟨rfl, rfl, rfl, by decide +kernel, rfl, by decide +kernel, by decide +kernel⟩
theorem nd_ring_from : N_ring_from.Nodup := sc_ring_from.nd
def sp_ring_from (P : Program) (w : World) (K : PySem.W.Frag) : Sp := fun vs H Q _ => ∃ (a u : Addr) (es ues : List NE) (W : List Way) (used : List QS.Key) (k0 : QS.Key) (vb : V), vs = [.ref a, vb, .ref u] ∧ Nk P w K H a es ∧ EW K H es W ∧ a ≠ u ∧ H u = some (nkO P w u ues) ∧ (∀ e ∈ ues, Dn K H (.ref e.2.1) (kd e.1)) ∧ ues.map (·.1) = used.map pk ∧
  Dn K H vb (dKy k0) ∧ QS.RingsOk W ∧ k0 ∈ W.map (·.1) ∧ (∀ x ∈ used, x ∈ W.map (·.1)) ∧ used.Nodup ∧ W.length ≤ 5000000 ∧
  ∀ q ws ues' H', H q = none → ExB [u] H H' → H' q = some (.lst ws) → DnAll K H' ws ((QS.ringGo (QS.nx W) used (W.length + 1) k0 []).map dKy) → H' u = some (nkO P w u ues') → (∀ e ∈ ues', Dn K H' (.ref e.2.1) (kd e.1)) → ues'.map (·.1) = (used ++ QS.ringGo (QS.nx W) used (W.length + 1) k0 []).map pk → Q (.ref q) H'
theorem ok_ring_from (T : Txt K w mg tM tS aS aF aW) (F : Fd K mg "ring_from" s_ring_from) (C_following : Ca P w K mg base "following" P_following 1 (sp_following P w K)) : Ca P w K mg base "ring_from" P_ring_from 2 (sp_ring_from P w K) := by
  refine F.mk sc_ring_from (fun _ _ _ _ _ _ us hl => match us, hl with | [_, _, _], _ => rfl) (fun vs H Q E ⟨_, _, _, _, _, _, _, _, e, _⟩ => by rw [e]; rfl) (fun f cdv A outer s H vs Q E hr h => ?_)
  obtain ⟨a, u, es, ues, W, used, k0, vb, rfl, hN, hW, hau, hu, huk, huks, hb, hok, hk0, hused, hund, hWl, k⟩ := h
  refine ⟨_, (pss_cons (ps_set (i := 3) nd_ring_from rfl (Or.inl rfl) (pe_lst pa_nil))
      (pss_cons (ps_asg (pv 1) (pg_tup (by rfl) (pgs_cons (pg_name (i := 4) nd_ring_from rfl (Or.inl rfl)) (pgs_cons (pg_name (i := 5) nd_ring_from rfl (Or.inl rfl)) pgs_nil))))
      (pss_cons (ps_while PassesOwn.never (pt_cmp (pc_nnotin hr (pe_tup (pa_cons (pv 4) (pa_cons (pv 5) pa_nil))) (pv 2))) (pss_cons (ps_nput hr (pv 2) (pe_tup (pa_cons (pv 4) (pa_cons (pv 5) pa_nil))) pe_bl rfl)
      (pss_cons (ps_expr (pe_bm PySem.F.plainAttrs_list PySem.F.slot_list_append PySem.F.type_list_append mt_append (pv 3) (pa_cons (pe_tup (pa_cons (pv 4) (pa_cons (pv 5) pa_nil))) pa_nil)))
      (pss_cons (ps_set (i := 4) nd_ring_from rfl (Or.inl rfl) (pe_nget hr (pv 0) (pe_tup (pa_cons (pv 4) (pa_cons (pv 5) pa_nil))) (fun _ _ => rfl)))
      (pss_one (ps_set (i := 5) nd_ring_from rfl (Or.inl rfl) (pe_ca C_following hr (pa_cons (pv 0) (pa_cons (pv 4) (pa_cons (pv 5) pa_nil))))))))))
      (pss_one (ps_ret (pv 3)))))), ?_⟩
  refine q_setL (K := K) (el_lst eg_nil) fun q ws0 H1 nq e1 hq hs0 => ?_
  have hw0 : ws0 = [] := by cases hs0; rfl
  subst hw0
  refine q_unpack2 (d1 := dPt k0.1) (d2 := .int (sdn k0.2)) (en_var rfl (hb.ex e1)) fun v4 v5 H2 e2 d4 d5 => ?_
  have e02 := e1.trans e2
  have hu2 := e02 _ _ hu
  have hq2 := e2 _ _ hq
  have huq : u ≠ q := fun z => by rw [z, nq] at hu; cases hu
  have haq : a ≠ q := fun z => by
    rcases hN.1 with h | ⟨o, h⟩ <;> rw [z, nq] at h <;> cases h
  have mu : Mu [u, q] H2 := .cons hu2 (nk_tup (H' := H2)) (.cons hq2 (fun _ z => nomatch z) .nil)
  refine q_while (fun m σ' H' => ∃ (f : List QS.Key) (kk : QS.Key) (ues' : List NE) (ws : List V) (vp vd : V), σ' = [some (.ref a), some vb, some (.ref u), some (.ref q), some vp, some vd] ∧ ExB [u, q] H2 H' ∧ Dn K H' vp (dPt kk.1) ∧ Dn K H' vd (.int (sdn kk.2)) ∧ H' u = some (nkO P w u ues') ∧ (∀ e ∈ ues', Dn K H' (.ref e.2.1) (kd e.1)) ∧ ues'.map (·.1) = (used ++ f).map pk ∧
      H' q = some (.lst ws) ∧ DnAll K H' ws (f.map dKy) ∧ QS.ringGo (QS.nx W) used m kk f = QS.ringGo (QS.nx W) used (W.length + 1) k0 [] ∧ kk ∈ W.map (·.1) ∧ (∀ x ∈ f, x ∈ W.map (·.1)) ∧ (used ++ f).Nodup ∧ W.length < m + f.length) (W.length + 1)
    ⟨[], k0, ues, [], v4, v5, rfl, ExB.refl _ _, d4, d5, hu2, fun x hx => (huk x hx).ex e02, by rw [List.append_nil]; exact huks, hq2, .nil, rfl, hk0, fun x hx => (nomatch hx), by rw [List.append_nil]; exact hund, by omega⟩ fun m σ' H' pv => ?_
  obtain ⟨f, kk, ues', ws, vp, vd, rfl, e, dp, dd, hu', hk', hks', hq', hws, hgo, hkk, hfK, hnd, hm⟩ := pv
  have hkey : ∀ {H3 : Hp}, Ex H' H3 → EvN K (tTup (tCons (tVar 4) (tCons (tVar 5) tNil))) [some (.ref a), some vb, some (.ref u), some (.ref q), some vp, some vd] H3 (kd (pk kk)) := fun e3 => en_tup (eg_cons (en_var rfl (dp.ex e3)) (eg_cons (en_var rfl (dd.ex e3)) eg_nil))
  have hcond := en_nNi (P := P) (w := w) (tb := tVar 2) (hkey (Ex.refl _)) (ev_var rfl) ⟨.inl hu', hk'⟩
  rw [nk_keys kk hks'] at hcond
  have hfl : f.length ≤ W.length := by
    have := QS.nodup_len (List.nodup_append.mp hnd).2.1 hfK
    rw [List.length_map] at this; exact this
  have hul : (used ++ f).length ≤ W.length := by
    have := QS.nodup_len hnd (m := W.map (·.1)) fun x hx => by
      rcases List.mem_append.mp hx with hx | hx
      · exact hused x hx
      · exact hfK x hx
    rw [List.length_map] at this; exact this
  have hueslen : ues'.length ≤ W.length := by
    have := congrArg List.length hks'
    rw [List.length_map, List.length_map] at this; omega
  refine ⟨!decide (kk ∈ used ++ f), et_v hcond, fun g H3 e3 => ?_, fun g H3 e3 => ?_⟩
  · have g' : kk ∉ used ++ f := by simpa using g
    obtain ⟨m, rfl⟩ : ∃ m', m = m' + 1 := ⟨m - 1, by omega⟩
    have hgo2 : QS.ringGo (QS.nx W) used (m + 1) kk f = QS.ringGo (QS.nx W) used m (QS.nx W kk) (f ++ [kk]) := by rw [QS.ringGo, if_neg g']
    refine ⟨_, fun _ _ z => z, ?_⟩
    have hgn : nkGet ues' (pk kk) = none := by
      have := nk_keys kk hks'
      rw [decide_eq_false g'] at this
      simpa using this
    refine q_nPut (K := K) (v := .bl true) (dv := .bool true) en_bl (ev_var rfl) (hkey e3) (e3 _ _ hu') (fun x hx => (hk' x hx).ex e3) hgn (by omega) fun v b H4 e4 dv db => ?_
    have hv : v = .bl true := dv.bl_eq
    subst hv
    have hu4 := e4 _ _ (e3 _ _ hu')
    have tk4 : TKp H4 (upd H4 u (nkO P w u (ues' ++ [(pk kk, b, .bl true)]))) := .upd fun xs z => by rw [hu4] at z; exact absurd (Option.some.inj z) (nk_tup (H' := H4) xs)
    have hq4 : upd H4 u (nkO P w u (ues' ++ [(pk kk, b, .bl true)])) q = some (.lst ws) := by rw [upd_ne (Ne.symm huq)]; exact e4 _ _ (e3 _ _ hq')
    have tk34 : TKp H' (upd H4 u (nkO P w u (ues' ++ [(pk kk, b, .bl true)]))) := (TKp.ex (e3.trans e4)).trans tk4
    refine q_push (K := K) (d := dKy kk) hq4 (ev_var rfl) (en_tup (eg_cons (en_var rfl (dp.keep tk34)) (eg_cons (en_var rfl (dd.keep tk34)) eg_nil))) (by rw [hws.len, List.length_map]; omega) fun v5 H5 e5 dv5 => ?_
    have hq5 := e5 _ _ hq4
    have tk5 := lst_tk (o := .lst (ws ++ [v5])) hq5
    have eB : ExB [u, q] H' (upd H5 q (.lst (ws ++ [v5]))) := (((ExB.of (e3.trans e4)).upd (by simp)).trans (.of e5)).upd (by simp)
    have eB2 := e.trans eB
    have tk6 : TKp H' (upd H5 q (.lst (ws ++ [v5]))) := tk34.trans ((TKp.ex e5).trans tk5)
    have tkH : TKp H2 (upd H5 q (.lst (ws ++ [v5]))) := eB2.tk mu
    have ha' : a ∉ [u, q] := by simp only [List.mem_cons, List.not_mem_nil, or_false, not_or]; exact ⟨hau, haq⟩
    have hN6 : Nk P w K (upd H5 q (.lst (ws ++ [v5]))) a es := by
      refine ⟨?_, fun x hx => ((hN.2 x hx).ex e02).keep tkH⟩
      rcases hN.1 with h | ⟨o, h⟩
      · exact .inl (eB2 a _ ha' (e02 _ _ h))
      · exact .inr ⟨o, eB2 a _ ha' (e02 _ _ h)⟩
    have hW6 := (hW.keep (.ex e02)).keep tkH
    obtain ⟨ve, hve, hdve⟩ := hW6.get hkk
    refine q_set (en_nGet (P := P) (w := w) (k := pk kk) (ev_var rfl) (en_tup (eg_cons (en_var rfl (dp.keep tk6)) (eg_cons (en_var rfl (dd.keep tk6)) eg_nil))) hN6 hve hdve) fun v7 H7 e7 d7 => ?_
    refine s_setN (K := K) (d := .int (sdn (QS.follow W (QS.endAt W kk) kk.2))) (en_callG (eg_conV (ev_var rfl) (eg_conN (en_var rfl d7) (eg_conN (en_var rfl ((dd.keep tk6).ex e7)) eg_nil'))) fun vs8 H8 e8 hp Q8 k8 => ?_) fun v9 H9 e9 d9 => ?_
    · obtain ⟨r1, rfl, w2, r2, rfl, hw2, w3, r3, rfl, hw3, rfl⟩ := hp
      exact ⟨a, es, W, QS.endAt W kk, kk.2, w2, w3, rfl, (hN6.ex e7).ex e8, (hW6.keep (.ex e7)).keep (.ex e8), hw2, hw3, k8⟩
    · have tk9 : TKp H' H9 := tk6.trans (.ex (e7.trans e9))
      refine ⟨m, Nat.lt_succ_self m, f ++ [kk], QS.nx W kk, ues' ++ [(pk kk, b, .bl true)], ws ++ [v5], v7, v9, rfl, eB2.trans (.of (e7.trans e9)), d7.ex e9, d9, ?_, ?_, ?_, e9 _ _ (e7 _ _ upd_same), ?_, by rw [← hgo2]; exact hgo, hok.cl kk hkk, ?_, ?_, by rw [List.length_append, List.length_singleton]; omega⟩
      · refine e9 _ _ (e7 _ _ ?_)
        rw [upd_ne huq]
        exact e5 _ _ upd_same
      · intro x hx
        rcases List.mem_append.mp hx with hx | hx
        · exact (hk' x hx).keep tk9
        · simp at hx; subst hx
          exact (((db.keep tk4).ex e5).keep tk5).ex (e7.trans e9)
      · rw [List.map_append, hks', ← List.append_assoc, List.map_append (l₁ := used ++ f)]; rfl
      · rw [List.map_append]
        exact (((hws.keep tk34).ex e5).keep tk5 |>.snoc (dv5.keep tk5)).ex (e7.trans e9)
      · intro x hx
        rcases List.mem_append.mp hx with hx | hx
        · exact hfK x hx
        · simp at hx; subst hx; exact hkk
      · rw [← List.append_assoc]
        refine List.nodup_append.mpr ⟨hnd, List.pairwise_singleton _ _, fun x hx y hy z => ?_⟩
        simp at hy; subst hy; subst z; exact g' hx
  · have g' : kk ∈ used ++ f := of_decide_eq_true (by
      cases h : decide (kk ∈ used ++ f) with
      | true => rfl
      | false => rw [h] at g; cases g)
    have hff : QS.ringGo (QS.nx W) used m kk f = f := by
      cases m with
      | zero => rfl
      | succ m => rw [QS.ringGo, if_pos g']
    rw [hff] at hgo
    refine s_ret (ev_var rfl) fun H4 e4 => k q ws ues' H4 nq ?_ (e4 _ _ (e3 _ _ hq')) (by rw [← hgo]; exact hws.ex (e3.trans e4)) (e4 _ _ (e3 _ _ hu')) (fun x hx => (hk' x hx).ex (e3.trans e4)) (by rw [← hgo]; exact hks')
    intro b o hb hbo
    refine (e3.trans e4) _ _ (e b o (fun z => ?_) (e02 _ _ hbo))
    simp only [List.mem_cons, List.not_mem_nil, or_false] at z hb
    rcases z with rfl | rfl
    · exact hb rfl
    · rw [nq] at hbo; cases hbo
end
end QW
set_option autoImplicit true
set_option Elab.async false
set_option linter.all false
set_option maxRecDepth 100000
set_option maxHeartbeats 4000000
namespace QW
open PySem PySem.Spec PyProof.Rows L2 Evl QX
open QS (Qd Sd Tr Sq sqr Pt Way)
/-! ### the point that is first by rows -/
theorem row_lt (p q : Pt) : PySem.W.dataLt (dRow p) (dRow q) = QS.rowLt p q := by
  unfold dRow QS.rowLt
  rw [PySem.W.dataLt_ii]
  by_cases h1 : p.2 < q.2 <;> by_cases h2 : p.2 = q.2 <;> by_cases h3 : p.1 < q.1 <;> simp [h1, h2, h3]
theorem dRow_inj {p q : Pt} (h : dRow p = dRow q) : p = q := by
  obtain ⟨a, b⟩ := p; obtain ⟨c, d⟩ := q
  simp only [dRow, PyData.tuple.injEq, List.cons.injEq, PyData.int.injEq, and_true] at h
  obtain ⟨rfl, rfl⟩ := h
  rfl
theorem dPt_inj {p q : Pt} (h : dPt p = dPt q) : p = q := by
  obtain ⟨a, b⟩ := p; obtain ⟨c, d⟩ := q
  simp only [dPt, PyData.tuple.injEq, List.cons.injEq, PyData.int.injEq, and_true] at h
  obtain ⟨rfl, rfl⟩ := h
  rfl
theorem fold_row : ∀ (r : List Pt) (p : Pt), (r.map dRow).foldl (fun a y => if PySem.W.dataLt y a then y else a) (dRow p) = dRow (r.foldl (fun m q => if QS.rowLt q m = true then q else m) p)
  | [], p => rfl
  | q :: r, p => by
    rw [List.map_cons, List.foldl_cons, List.foldl_cons, row_lt]
    by_cases h : QS.rowLt q p = true
    · rw [if_pos h, if_pos h, fold_row r q]
    · rw [if_neg h, if_neg h, fold_row r p]
theorem min_at {ps : List Pt} (h : ps ≠ []) : ps[argBest (fun i j => PySem.W.dataLt ((ps.map dRow).getD i .none) ((ps.map dRow).getD j .none)) (ps.length - 1)]? = some (QS.minPt ps) := by
  cases ps with
  | nil => exact absurd rfl h
  | cons p r =>
    obtain ⟨h1, h2⟩ := PySem.W.argBest_fold PySem.W.dataLt .none (dRow p) (r.map dRow) r.length (by simp)
    rw [show (p :: r).map dRow = dRow p :: r.map dRow from rfl]
    rw [show (p :: r).length - 1 = r.length by simp]
    generalize argBest (fun i j => PySem.W.dataLt ((dRow p :: r.map dRow).getD i .none) ((dRow p :: r.map dRow).getD j .none)) r.length = j at h1 h2
    rw [List.take_of_length_le (by simp), fold_row] at h2
    have hj : j < (p :: r).length := by simp; omega
    rw [List.getElem?_eq_getElem hj]
    congr 1
    refine dRow_inj ?_
    rw [show (dRow p :: r.map dRow) = (p :: r).map dRow from rfl, List.getD_eq_getElem?_getD, List.getElem?_map, List.getElem?_eq_getElem hj] at h2
    exact h2
section
variable {K : PySem.W.Frag} {σ : L2.St} {H : Hp} {ta te : TE} {mg : Str → Option Value} {f : Addr}
theorem pts_refs {ps : List Pt} : ∀ {ws : List V}, DnAll K H ws (ps.map dPt) → ∀ x ∈ ws, ∃ p, x = V.ref p := by
  induction ps with
  | nil => intro ws h; cases h; intro x hx; cases hx
  | cons p r ih =>
    intro ws h x hx
    cases h with
    | cons hd hs =>
      rcases List.mem_cons.mp hx with rfl | hx
      · obtain ⟨a, _, rfl, _⟩ := hd.tup_eq; exact ⟨a, rfl⟩
      · exact ih hs x hx
theorem en_minRow {p : Addr} {ws : List V} {ps : List Pt} (h : Ev te σ H (.ref p)) (hp : H p = some (.lst ws)) (hs : DnAll K H ws (ps.map dPt)) (hne : ps ≠ []) : EvN K (tCKw (rMinF K f (sp_by_rows K)) (tCons te tNil) (tCons (tC (.ref f)) tNil)) σ H (dPt (QS.minPt ps)) := fun H1 a Q q =>
  h H1 a _ fun H2 a2 => by
    have e2 := a.trans a2
    have hp2 := e2 _ _ hp
    have hs2 := hs.ex e2
    have hlen : ws.length = ps.length := by rw [hs.len, List.length_map]
    refine ⟨p, ws, ps.map dRow, rfl, rfl, hp2, pts_refs hs2, by rw [List.length_map, hlen], by rw [hlen]; exact List.length_pos_iff.mpr hne, ?_, ?_, ?_, ?_⟩
    · intro d hd e he
      obtain ⟨x, _, rfl⟩ := List.mem_map.mp hd
      obtain ⟨y, _, rfl⟩ := List.mem_map.mp he
      rfl
    · intro d hd
      obtain ⟨x, _, rfl⟩ := List.mem_map.mp hd
      exact ⟨by simp [dRow], by simp [dRow, PyData.depth, PyData.depthAll]⟩
    · intro i v d hv hd H' e' Q' q'
      rw [List.getElem?_map] at hd
      obtain ⟨x, hx, rfl⟩ := Option.map_eq_some_iff.mp hd
      obtain ⟨d2, h1, h2⟩ := hs2.get' hv
      rw [List.getElem?_map, hx] at h1
      cases h1
      exact ⟨x, .cons (h2.ex e') .nil, trivial, q'⟩
    · intro v H3 hv e3
      rw [hlen] at hv
      obtain ⟨d2, h1, h2⟩ := hs2.get' hv
      rw [List.getElem?_map, min_at hne] at h1
      cases h1
      exact q v H3 (a2.trans e3) (h2.ex e3)
theorem DnAll.drop : ∀ (n : Nat) {ws : List V} {ds : List PyData}, DnAll K H ws ds → DnAll K H (ws.drop n) (ds.drop n)
  | 0, _, _, h => h
  | n + 1, _, _, .nil => .nil
  | n + 1, _, _, .cons a r => DnAll.drop n r
theorem DnAll.take : ∀ (n : Nat) {ws : List V} {ds : List PyData}, DnAll K H ws ds → DnAll K H (ws.take n) (ds.take n)
  | 0, _, _, h => .nil
  | n + 1, _, _, .nil => .nil
  | n + 1, _, _, .cons a r => .cons a (DnAll.take n r)
theorem DnAll.dpl {ws : List V} {ds : List PyData} (h : DnAll K H ws ds) : DpAll K H ws ds := h.dp
theorem eqv_pt (p q : Pt) : PyData.eqv (dPt p) (dPt q) = decide (p = q) := by
  obtain ⟨a, b⟩ := p; obtain ⟨c, d⟩ := q
  unfold dPt
  simp [PyData.eqv, PyData.eqvAll, Bool.beq_eq_decide_eq]
theorem pts_lay (ps : List Pt) : PyData.canLayAll0 (ps.map dPt) = true ∧ PyData.depthAll (ps.map dPt) ≤ 1 := by
  induction ps with
  | nil => exact ⟨rfl, by simp [PyData.depthAll]⟩
  | cons p r ih =>
    obtain ⟨h1, h2⟩ := ih
    rw [List.map_cons]
    exact ⟨by simp [PyData.canLayAll0, dPt, PyData.canLay0, h1], by simp [PyData.depthAll, dPt, PyData.depth]; omega⟩
theorem pt_shaped (p : Pt) : SeqAt.shaped (dPt p) = true := by simp [SeqAt.shaped, dPt, PyData.canLay0, PyData.canLayAll0, PyData.depth, PyData.depthAll]
theorem pts_shaped (ps : List Pt) : SeqAt.shaped (.list (ps.map dPt)) = true := by
  obtain ⟨h1, h2⟩ := pts_lay ps
  simp [SeqAt.shaped, PyData.canLay0, h1, PyData.depth]; omega
theorem idx_first {ps : List Pt} {y : Pt} : ∀ {m : Nat}, m < ps.idxOf y → ps[m]? = some y → False := by
  induction ps with
  | nil => intro m _ h; simp at h
  | cons p r ih =>
    intro m hm h
    rw [List.idxOf_cons] at hm
    by_cases e : p = y
    · subst e; simp at hm
    · have e2 : (p == y) = false := by simpa using e
      rw [e2] at hm
      cases m with
      | zero => simp at h; exact e h
      | succ m => exact ih (by simpa using hm) (by simpa using h)
theorem en_idx {p : Addr} {ws : List V} {ps : List Pt} {x : Pt} (h : Ev ta σ H (.ref p)) (hp : H p = some (.lst ws)) (hs : DnAll K H ws (ps.map dPt)) (hx : EvN K te σ H (dPt x)) (hm : x ∈ ps) : EvN K (tBM K "list" (rIndexD K) ta (tCons te tNil)) σ H (.int (ps.idxOf x)) := fun H1 a Q q =>
  h H1 a _ fun H2 a2 => ⟨.inl ⟨rfl, ws, .inl (.inl (a2 _ _ (a _ _ hp)))⟩, hx H2 (a.trans a2) _ fun v H3 a3 hv => by
    have e3 := (a.trans a2).trans a3
    have hlt : ps.idxOf x < ps.length := List.idxOf_lt_length_of_mem hm
    refine ⟨p, v, dPt x, ps.map dPt, ps.idxOf x, dPt x, rfl, rfl, .lst (.inl (.inl (e3 _ _ hp))) (hs.ex e3).dp, hv.dp, ?_, ?_, ?_, ?_, ?_, q _ H3 (a2.trans a3) (.int _)⟩
    · exact pts_shaped ps
    · exact pt_shaped x
    · rw [List.getElem?_map, List.getElem?_eq_getElem hlt, List.getElem_idxOf hlt]; rfl
    · rw [eqv_pt]; simp
    · intro m z hm' hz
      rw [List.getElem?_map] at hz
      obtain ⟨y, hy, rfl⟩ := Option.map_eq_some_iff.mp hz
      rw [eqv_pt]
      refine decide_eq_false fun z => ?_
      subst z
      exact idx_first hm' hy⟩
theorem el_cat {ps qs : List PyData} (h1 : EvLs K ta σ H ps) (h2 : EvLs K te σ H qs) (hl : ps.length + qs.length ≤ 10000000) : EvLs K (tOp rCat ta te) σ H (ps ++ qs) := fun H1 a Q q =>
  h1 H1 a _ fun p ws H2 np a2 hp hs => h2 H2 (a.trans a2) _ fun r us H3 nr a3 hr hu => ⟨p, r, ws, us, rfl, rfl, a3 _ _ hp, hr, by rw [hs.len, hu.len]; exact Nat.le_trans hl (by decide), fun l hl => q l _ _ (fresh_back (a2.trans a3) hl) ((a2.trans a3).trans (Ex.new hl)) upd_same (((hs.ex a3).app hu).ex (Ex.new hl))⟩
/-- the one ahead, round the list -/
def prevIx (n i : Nat) : Nat := if i = 0 then n - 1 else i - 1
theorem en_prev {p : Addr} {vs : List V} {ds : List PyData} {d : PyData} {i : Nat} {tb : TE} (ha : Ev ta σ H (.ref p)) (hp : SqL K H p vs) (hb : EvN K tb σ H (.int ((i : Int) - 1))) (hs : DnAll K H vs ds) (hi : i < ds.length) (hd : ds[prevIx ds.length i]? = some d) : EvN K (tOp (rIxL K) ta tb) σ H d := fun H1 a Q q =>
  ha H1 a _ fun H2 a2 => hb.vi H2 (a.trans a2) _ fun H3 a3 => by
    obtain ⟨w, h1, h2⟩ := hs.get hd
    refine ⟨p, vs, (i : Int) - 1, w, rfl, rfl, ex_l ((a.trans a2).trans a3) hp, ?_, q w H3 (a2.trans a3) (h2.ex ((a.trans a2).trans a3))⟩
    have hl := hs.len
    unfold prevIx at h1
    by_cases h : i = 0
    · subst h
      rw [if_pos rfl, ← hl] at h1
      obtain ⟨ini, z, rfl⟩ : ∃ ini z, vs = ini ++ [z] := ⟨vs.dropLast, vs.getLast (by intro z; rw [z] at hl; simp at hl; omega), (List.dropLast_concat_getLast _).symm⟩
      rw [List.length_append, List.length_singleton, Nat.add_sub_cancel, List.getElem?_append_right (Nat.le_refl _), Nat.sub_self] at h1
      have hz : z = w := by simpa using h1
      rw [← hz]
      exact atI_last ini z
    · rw [if_neg h] at h1
      have e : (i : Int) - 1 = ((i - 1 : Nat) : Int) := by omega
      rw [e]
      exact atI_nat h1
end
theorem turnsFrom_snoc (k : QS.Key) : ∀ (A : List QS.Key) (d : Sd), QS.turnsFrom d (A ++ [k]) = QS.turnsFrom d A ++ (if k.2 ≠ QS.lastDir A d then [k.1] else [])
  | [], d => by simp only [List.nil_append, QS.turnsFrom, List.append_nil]; rfl
  | a :: A, d => by
    rw [List.cons_append, QS.turnsFrom, turnsFrom_snoc k A a.2, QS.turnsFrom, List.append_assoc]
    congr 2
    cases A with
    | nil => rfl
    | cons b A => rfl
theorem lastD_get {α : Type} : ∀ (r : List α) (k : α), (k :: r)[r.length]? = some (QS.lastD r k)
  | [], k => rfl
  | x :: r, k => by
    rw [List.length_cons, List.getElem?_cons_succ]
    exact lastD_get r x
theorem prev_dir {k : QS.Key} {r : List QS.Key} {i : Nat} (hi : i < (k :: r).length) : ∃ z, (k :: r)[prevIx (k :: r).length i]? = some z ∧ z.2 = QS.lastDir ((k :: r).take i) (QS.lastD r k).2 := by
  unfold prevIx
  by_cases h : i = 0
  · subst h
    rw [if_pos rfl]
    exact ⟨_, lastD_get r k, rfl⟩
  · rw [if_neg h]
    obtain ⟨j, rfl⟩ : ∃ j, i = j + 1 := ⟨i - 1, by omega⟩
    rw [Nat.add_sub_cancel, List.take_succ_cons]
    have hl : (k :: r.take j)[(r.take j).length]? = some (QS.lastD (r.take j) k) := lastD_get _ _
    have hj : j ≤ r.length := by simp at hi; omega
    rw [List.length_take, Nat.min_eq_left hj] at hl
    refine ⟨_, ?_, rfl⟩
    rw [← hl]
    have := List.getElem?_take (l := k :: r) (i := j + 1) (j := j)
    rw [if_pos (Nat.lt_succ_self j), List.take_succ_cons] at this
    exact this.symm
section
variable {P : Program} {w : World} {K : PySem.W.Frag} {mg : Str → Option Value} {base : Heap} {tM tS : Tok} {aS aF aW : Addr}
abbrev s_corners_of : Stmt := top 46
abbrev N_corners_of : List Str := ["ring", "points", "at", "first"]
abbrev P_corners_of : List Str := ["ring"]
theorem sc_corners_of : FnScope N_corners_of P_corners_of (defScope s_corners_of) := ⟨rfl, rfl, rfl, by decide +kernel, rfl, by decide +kernel, by decide +kernel⟩
theorem nd_corners_of : N_corners_of.Nodup := sc_corners_of.nd
def sp_corners_of (K : PySem.W.Frag) : Sp := fun vs H Q _ => ∃ (r : Addr) (ws : List V) (f : List QS.Key), vs = [.ref r] ∧ H r = some (.lst ws) ∧ DnAll K H ws (f.map dKy) ∧ QS.turns f ≠ [] ∧ f.length ≤ 5000000 ∧
  ∀ q us H', H q = none → Ex H H' → H' q = some (.lst us) → DnAll K H' us ((QS.cornersOf f).map dPt) → Q (.ref q) H'
theorem minPt_mem : ∀ {ps : List Pt}, ps ≠ [] → QS.minPt ps ∈ ps := by
  intro ps h
  have := min_at h
  exact List.mem_of_getElem? this
theorem turns_len : ∀ (f : List QS.Key) (d : Sd), (QS.turnsFrom d f).length ≤ f.length
  | [], _ => Nat.le_refl _
  | k :: r, d => by
    have := turns_len r k.2
    rw [QS.turnsFrom, List.length_append, List.length_cons]
    split <;> simp <;> omega
theorem ok_corners_of (T : Txt K w mg tM tS aS aF aW) (F : Fd K mg "corners_of" s_corners_of) (C_by_rows : Ca P w K mg base "by_rows" P_by_rows 1 (sp_by_rows K)) : Ca P w K mg base "corners_of" P_corners_of 4 (sp_corners_of K) := by
  refine F.mk sc_corners_of (fun _ _ _ _ _ _ us hl => match us, hl with | [_], _ => rfl) (fun vs H Q E ⟨_, _, _, e, _⟩ => by rw [e]; rfl) (fun f0 cdv A outer s H vs Q E hr h => ?_)
  obtain ⟨r, ws, f, rfl, hl, hs, hne, hfl, k⟩ := h
  have hu64 := hr.units
  have hu65 := hr.un
  have hu65 : (A.deeper (envOfC "corners_of" (defScope s_corners_of) s.heap.objs.size f0 cdv)).units + 65 < cLine := by omega
  refine ⟨_, (pss_cons (ps_set (i := 1) nd_corners_of rfl (Or.inl rfl) (pe_lst pa_nil))
      (pss_cons (ps_for PassesOwn.never rfl (pi_range1 (by rfl) T.range (pa_cons (pe_callB call_len_seq (by rfl) T.len b_len (pa_cons (pv 0) pa_nil)) pa_nil)) (pg_name (i := 2) nd_corners_of rfl (Or.inl rfl)) (pss_one (ps_if (pt_cmpR op_ne (pe_ix ix_tup (pe_ix ix_list (pv 0) (pv 2) (fun _ _ => rfl)) pe_int (fun _ _ => rfl)) (pe_ix ix_tup (pe_ix ix_list (pv 0) (pe_op op_sub (pv 2) pe_int) (fun _ _ => rfl)) pe_int (fun _ _ => rfl)) (nomark _)) (pss_one (ps_expr (pe_bm PySem.F.plainAttrs_list PySem.F.slot_list_append PySem.F.type_list_append mt_append (pv 1) (pa_cons (pe_ix ix_tup (pe_ix ix_list (pv 0) (pv 2) (fun _ _ => rfl)) pe_int (fun _ _ => rfl)) pa_nil)))) pss_nil)))
      (pss_cons (ps_set (i := 3) nd_corners_of rfl (Or.inl rfl) (pe_bm PySem.F.plainAttrs_list PySem.F.slot_list_index PySem.F.type_list_index (mt_indexD hu65) (pv 1) (pa_cons (pe_minF C_by_rows hr rfl T.min (pa_cons (pv 1) pa_nil)) pa_nil)))
      (pss_one (ps_ret (pe_op op_cat (pe_slice sl_list (pv 1) (po_some (pv 3)) po_none) (pe_slice sl_list (pv 1) po_none (po_some (pv 3))))))))), ?_⟩
  cases hf : f with
  | nil => rw [hf] at hne; exact absurd rfl hne
  | cons k0 fr =>
  refine q_setL (K := K) (el_lst eg_nil) fun p ws0 H1 np e1 hp hs0 => ?_
  have hw0 : ws0 = [] := by cases hs0; rfl
  subst hw0
  have hrp : r ≠ p := fun z => by rw [z, np] at hl; cases hl
  have hwl : ws.length = f.length := by rw [hs.len, List.length_map]
  have htu : QS.turns f = QS.turnsFrom (QS.lastD fr k0).2 f := by rw [hf]; rfl
  refine q_for (m := [p]) (α := Nat) (enc := fun i => .int (0 + (i : Int))) (xs := List.range f.length) (ei_range1 (n := (f.length : Int)) (eg_cons ((en_lenL (ev_var rfl) (e1 _ _ hl)).cast (by rw [hwl])) eg_nil) (by omega) (by omega)) (.one hp)
    (fun pre σ' H' => ∃ o2 us, σ' = [some (.ref r), some (.ref p), o2, none] ∧ H' p = some (.lst us) ∧ DnAll K H' us ((QS.turnsFrom (QS.lastD fr k0).2 (f.take pre.length)).map dPt))
    (fun H2 e2 => ⟨none, [], rfl, e2 _ _ hp, by rw [show ([] : List Nat).length = 0 from rfl, List.take_zero]; exact .nil⟩) (fun pre i post xv σ' H' H'' hxs e pv e' hd N hN => ?_) (fun σ' H' e pv => ?_)
  · obtain ⟨o2, us, rfl, hp', hus⟩ := pv
    obtain ⟨hi, hiL, _⟩ := range_split hxs
    rw [Int.zero_add] at hd
    have e0 : Ex H H'' := (ex_back e1 np e).trans e'
    have hs'' := hs.ex e0
    have hl'' : SqL K H'' r ws := .inl (.inl (e0 _ _ hl))
    obtain ⟨ki, hki⟩ : ∃ z, f[i]? = some z := ⟨_, List.getElem?_eq_getElem hiL⟩
    obtain ⟨kp, hkp, hkd⟩ := prev_dir (k := k0) (r := fr) (i := i) (by rw [← hf]; exact hiL)
    rw [← hf] at hkp hkd
    have ii : EvN K (tOp (rIxL K) (tVar 0) (tVar 2)) [some (.ref r), some (.ref p), some xv, none] H'' (dKy ki) := en_ixL (ev_var rfl) hl'' (en_var rfl hd) hs'' (by omega) (by rw [Int.toNat_natCast, List.getElem?_map, hki]; rfl)
    have ip : EvN K (tOp (rIxL K) (tVar 0) (tOp (rI0 fun i j => .int (i - j)) (tVar 2) (tC (.int 1)))) [some (.ref r), some (.ref p), some xv, none] H'' (dKy kp) := en_prev (i := i) (ev_var rfl) hl'' (en_op0 (en_var rfl hd) en_int) hs'' (by rw [List.length_map]; exact hiL) (by rw [List.length_map, List.getElem?_map, hkp]; rfl)
    have hul : us.length < 10000000 := by
      rw [hus.len, List.length_map]
      have := turns_len (f.take pre.length) (QS.lastD fr k0).2
      rw [List.length_take] at this
      omega
    have hsn : f.take (pre ++ [i]).length = f.take pre.length ++ [ki] := by
      rw [List.length_append, List.length_singleton, List.take_add_one, ← hi, hki]; rfl
    refine s_if (et_n (en_neI (en_ixT (d := .int (sdn ki.2)) (ds := [.tuple [.int ki.1.1, .int ki.1.2], .int (sdn ki.2)]) ii en_int (by decide) rfl) (en_ixT (d := .int (sdn kp.2)) (ds := [.tuple [.int kp.1.1, .int kp.1.2], .int (sdn kp.2)]) ip en_int (by decide) rfl))) (fun g H3 e3 => ?_) (fun g H3 e3 => ?_)
    · have g' : ki.2 ≠ QS.lastDir (f.take pre.length) (QS.lastD fr k0).2 := by
        rw [← hi, ← hkd]
        intro z
        rw [z] at g
        simp at g
      refine s_push (K := K) (d := dPt ki.1) (e3 _ _ (e' _ _ hp')) (ev_var rfl) ((en_ixT (ds := [dPt ki.1, .int (sdn ki.2)]) ii en_int (by decide) rfl).mono e3) hul fun v H4 e4 hv => ?_
      have tk4 := lst_tk (o := .lst (us ++ [v])) (e4 _ _ (e3 _ _ (e' _ _ hp')))
      refine hN _ _ ((ExB.of (e3.trans e4)).upd (by simp)) ⟨_, us ++ [v], rfl, upd_same, ?_⟩
      rw [hsn, turnsFrom_snoc, if_pos g', List.map_append]
      exact ((hus.ex (e'.trans (e3.trans e4))).keep tk4).snoc (hv.keep tk4)
    · have g' : ¬ ki.2 ≠ QS.lastDir (f.take pre.length) (QS.lastD fr k0).2 := by
        rw [← hi, ← hkd]
        intro z
        have : (sdn ki.2 : Int) ≠ sdn kp.2 := fun y => z (sdn_inj (by omega))
        simp [this] at g
      refine hN _ _ (.of e3) ⟨_, us, rfl, e3 _ _ (e' _ _ hp'), ?_⟩
      rw [hsn, turnsFrom_snoc, if_neg g', List.append_nil]
      exact hus.ex (e'.trans e3)
  · obtain ⟨o2, us, rfl, hp', hus⟩ := pv
    rw [List.length_range, List.take_of_length_le (Nat.le_refl _), ← htu] at hus
    have hix := List.idxOf_lt_length_of_mem (minPt_mem hne)
    have htl : (QS.turns f).length ≤ f.length := by rw [htu]; exact turns_len f _
    refine q_set (en_idx (ev_var rfl) hp' hus (en_minRow (ev_var rfl) hp' hus hne) (minPt_mem hne)) fun v3 H3 e3 d3 => ?_
    have hp3 := e3 _ _ hp'
    have hus3 := hus.ex e3
    have eH := (ex_back e1 np e).trans e3
    have sl : ∀ {lo hi : Option Int} {tl th : TO} (ds : List PyData), EvO tl [some (.ref r), some (.ref p), o2, some v3] H3 lo → EvO th [some (.ref r), some (.ref p), o2, some v3] H3 hi → (∀ H4, DnAll K H4 us ((QS.turns f).map dPt) → DnAll K H4 (cutV us lo hi) ds) → EvLs K (tSl (rSlL K) (tVar 1) tl th) [some (.ref r), some (.ref p), o2, some v3] H3 ds := fun ds h1 h2 h3 H4 a4 Q4 q4 =>
      el_sl (K := K) (ev_var rfl) h1 h2 (.inl (.inl hp3)) H4 a4 _ fun q5 H5 nq5 e5 hq5 => q4 q5 _ H5 nq5 e5 hq5 (h3 H5 (hus3.ex (a4.trans e5)))
    have hul : us.length = (QS.turns f).length := by rw [hus.len, List.length_map]
    refine s_retLs (el_cat (sl (((QS.turns f).drop ((QS.turns f).idxOf (QS.minPt (QS.turns f)))).map dPt) (eo_some (en_var rfl d3).vi) eo_none fun H4 h4 => ?_) (sl (((QS.turns f).take ((QS.turns f).idxOf (QS.minPt (QS.turns f)))).map dPt) eo_none (eo_some (en_var rfl d3).vi) fun H4 h4 => ?_) (by simp; omega)) fun q us2 H4 nq e4 hq hs4 => k q us2 H4 (fresh_back eH nq) (eH.trans e4) hq ?_
    · unfold cutV
      rw [HT.sIx_none, HT.sIx_nat, Nat.min_eq_left (by omega), List.take_of_length_le (by simp), List.map_drop]
      exact DnAll.drop _ h4
    · unfold cutV
      rw [HT.sIx_none, HT.sIx_nat, Nat.min_eq_left (by omega), List.drop_zero, Nat.sub_zero, List.map_take]
      exact DnAll.take _ h4
    · unfold QS.cornersOf
      rw [List.map_append]
      exact hs4
end
end QW
set_option autoImplicit true
set_option Elab.async false
set_option linter.all false
set_option maxRecDepth 100000
set_option maxHeartbeats 4000000
namespace QW
open PySem PySem.Spec PyProof.Rows L2 Evl QX
open QS (Qd Sd Tr Sq sqr Pt Way)
/-- lists of points -/
def RL (K : PySem.W.Frag) (H : Hp) (xs : List V) (R : List (List Pt)) : Prop := Paired (fun (v : V) (ps : List Pt) => ∃ a ws, v = .ref a ∧ H a = some (.lst ws) ∧ DnAll K H ws (ps.map dPt)) xs R
theorem RL.keep {K : PySem.W.Frag} {H H' : Hp} {m : List Addr} (e : ExB m H H') (t : TKp H H') : ∀ {xs : List V} {R : List (List Pt)}, RL K H xs R → (∀ a ∈ m, V.ref a ∉ xs) → RL K H' xs R
  | _, _, .nil, _ => .nil
  | x :: xs, _, .cons r q, h => by
    obtain ⟨a, ws, rfl, h1, h2⟩ := r
    exact .cons ⟨a, ws, rfl, e a _ (fun z => h a z (by simp)) h1, h2.keep t⟩ (RL.keep e t q fun b hb z => h b hb (List.mem_cons_of_mem _ z))
theorem RL.ex {K : PySem.W.Frag} {H H' : Hp} (e : Ex H H') {xs : List V} {R : List (List Pt)} (h : RL K H xs R) : RL K H' xs R := RL.keep (m := []) (.of e) (.ex e) h fun _ h => nomatch h
theorem RL.len {K : PySem.W.Frag} {H : Hp} : ∀ {xs : List V} {R : List (List Pt)}, RL K H xs R → xs.length = R.length
  | _, _, .nil => rfl
  | _, _, .cons _ q => congrArg (· + 1) (RL.len q)
theorem RL.get {K : PySem.W.Frag} {H : Hp} : ∀ {xs : List V} {R : List (List Pt)} {i : Nat} {v : V} {ps : List Pt}, RL K H xs R → xs[i]? = some v → R[i]? = some ps → ∃ a ws, v = .ref a ∧ H a = some (.lst ws) ∧ DnAll K H ws (ps.map dPt)
  | _, _, _, _, _, .nil, h, _ => by simp at h
  | _, _, 0, _, _, .cons r _, h, h2 => by simp at h h2; subst h; subst h2; exact r
  | _, _, i + 1, _, _, .cons _ q, h, h2 => RL.get (i := i) q (by simpa using h) (by simpa using h2)
theorem RL.snoc {K : PySem.W.Frag} {H : Hp} {v : V} {ps : List Pt} (r : ∃ a ws, v = .ref a ∧ H a = some (.lst ws) ∧ DnAll K H ws (ps.map dPt)) : ∀ {xs : List V} {R : List (List Pt)}, RL K H xs R → RL K H (xs ++ [v]) (R ++ [ps])
  | _, _, .nil => .cons r .nil
  | _, _, .cons a q => .cons a (RL.snoc r q)
theorem RL.mem {K : PySem.W.Frag} {H : Hp} {a : Addr} : ∀ {xs : List V} {R : List (List Pt)}, RL K H xs R → V.ref a ∈ xs → ∃ ws, H a = some (.lst ws)
  | _, _, .nil, h => nomatch h
  | _, _, .cons r q, h => by
    obtain ⟨b, ws, rfl, h1, h2⟩ := r
    rcases List.mem_cons.mp h with h | h
    · cases h; exact ⟨ws, h1⟩
    · exact RL.mem q h
/-! ### the rings in their order -/
def rlLe (x y : V × List Pt) : Bool := QS.ringLe x.2 y.2
theorem ring_le (x y : V × List Pt) : PySem.W.dataLe false (fun p : V × PyData => p.2) (x.1, dRow (QS.hd0 x.2)) (y.1, dRow (QS.hd0 y.2)) = rlLe x y := by
  have := congrFun (congrFun (PySem.W.dataLe_ii (β := Pt) (fun p => p.2) (fun p => p.1)) (QS.hd0 x.2)) (QS.hd0 y.2)
  rw [show PySem.W.dataLe false (fun p : V × PyData => p.2) (x.1, dRow (QS.hd0 x.2)) (y.1, dRow (QS.hd0 y.2)) = PySem.W.dataLe false (fun b : Pt => .tuple [.int b.2, .int b.1]) (QS.hd0 x.2) (QS.hd0 y.2) from rfl, this]
  unfold rlLe QS.ringLe QS.rowLt
  generalize QS.hd0 x.2 = p
  generalize QS.hd0 y.2 = q
  rw [Bool.eq_iff_iff]
  simp only [decide_eq_true_eq, Bool.not_eq_true', Bool.or_eq_false_iff, Bool.and_eq_false_iff, decide_eq_false_iff_not]
  omega
theorem RL.zipSort {K : PySem.W.Frag} {H : Hp} : ∀ {zs : List (V × List Pt)}, (∀ z ∈ zs, ∃ a ws, z.1 = .ref a ∧ H a = some (.lst ws) ∧ DnAll K H ws (z.2.map dPt)) → RL K H (zs.map (·.1)) (zs.map (·.2))
  | [], _ => .nil
  | z :: zs, h => .cons (h z (by simp)) (RL.zipSort fun y hy => h y (by simp [hy]))
theorem RL.sorted {K : PySem.W.Frag} {H : Hp} {xs : List V} {R : List (List Pt)} (h : RL K H xs R) : RL K H (((xs.zip (R.map fun ps => dRow (QS.hd0 ps))).mergeSort (PySem.W.dataLe false (·.2))).map (·.1)) (R.mergeSort QS.ringLe) := by
  have hl := h.len
  have e1 : xs.zip (R.map fun ps => dRow (QS.hd0 ps)) = (xs.zip R).map fun z => (z.1, dRow (QS.hd0 z.2)) := by
    rw [List.zip_map_right]
    rfl
  have e2 : ((xs.zip R).map fun z => (z.1, dRow (QS.hd0 z.2))).mergeSort (PySem.W.dataLe false (·.2)) = ((xs.zip R).mergeSort rlLe).map fun z => (z.1, dRow (QS.hd0 z.2)) :=
    (List.map_mergeSort (r := rlLe) (s := PySem.W.dataLe false (·.2)) (f := fun z : V × List Pt => (z.1, dRow (QS.hd0 z.2))) fun a _ b _ => (ring_le a b).symm).symm
  have e3 : R.mergeSort QS.ringLe = ((xs.zip R).mergeSort rlLe).map (·.2) := by
    rw [List.map_mergeSort (r := rlLe) (s := QS.ringLe) (f := fun z : V × List Pt => z.2) fun a _ b _ => rfl, show (xs.zip R).map (fun z : V × List Pt => z.2) = R from List.map_snd_zip (by omega)]
  rw [e1, e2, e3, List.map_map]
  refine RL.zipSort (zs := (xs.zip R).mergeSort rlLe) fun z hz => ?_
  have hz2 := (List.mergeSort_perm (xs.zip R) rlLe).mem_iff.mp hz
  obtain ⟨i, hi⟩ := List.getElem?_of_mem hz2
  rw [List.getElem?_zip_eq_some] at hi
  exact h.get hi.1 hi.2
section
variable {P : Program} {w : World} {K : PySem.W.Frag} {mg : Str → Option Value} {base : Heap} {tM tS : Tok} {aS aF aW : Addr} {σ : L2.St} {H : Hp} {tl te : TE} {m : List Addr} {tz : TS} {D : Ends}
theorem q_setNk {k : Nat} (q : ∀ p H1, H p = none → Ex H H1 → H1 p = some (nkO P w p []) → tz D (σ.set k (some (.ref p))) H1) : tSeq (tAsg (tDNewN P w) (gName k)) tz D σ H := fun p hp => q p _ hp (Ex.new hp) upd_same
theorem walk_nkeys {d : Addr} {o : Obj} {es : List NE} : Walk (Itn P w d o es) es.length (fun H => H d = some (.frz o (nkO P w d es))) (fun i H x H' => H' = H ∧ ∃ e, es[i]? = some e ∧ x = .ref e.2.1) :=
  ⟨fun _ _ hi q => ⟨q, hi⟩, fun _ q => ⟨q, Nat.le_refl _⟩, fun _ _ _ _ _ _ y => y⟩
theorem ei_nkeys {d : Addr} {o : Obj} {es : List NE} (h : Ev tl σ H (.ref d)) (hd : H d = some (.frz o (nkO P w d es))) (hk : ∀ e ∈ es, Dn K H (.ref e.2.1) (kd e.1)) (hn : d ∉ m) : EvIt K (iNKeys P w tl) σ H m (es.map fun e => kd e.1) := fun H1 a mu R r =>
  h H1 a _ fun H2 a2 => by
    have e2 : H2 d = some (.frz o (nkO P w d es)) := a2 d _ (a d _ hd)
    refine ⟨d, o, es, rfl, e2, r _ (fun H' => H' d = some (.frz o (nkO P w d es))) H2 a2 ?_ fun H3 e => e d _ hn e2⟩
    have wk := walk_nkeys (P := P) (w := w) (d := d) (o := o) (es := es)
    rw [List.length_map]
    refine wk.mono (fun _ g => g) fun i H' x H'' hi g y e => ?_
    obtain ⟨rfl, z, hz, rfl⟩ := y
    exact ⟨Ex.refl _, kd z.1, by rw [List.getElem?_map, hz]; rfl, (hk z (List.mem_of_getElem? hz)).keep ((TKp.ex (a.trans a2)).trans (e.tk (mu.ex a2)))⟩
theorem ways_len (t : Tr) (L : Nat) (S : List Cd) (c : Cd) : (QS.waysOf t L S c).length ≤ 4 * (t.count + 1) := by
  have := parts_len t L S c .up; have := parts_len t L S c .right; have := parts_len t L S c .down; have := parts_len t L S c .left
  unfold QS.waysOf QS.sides
  simp; omega
theorem allWays_len (t : Tr) (L : Nat) : ∀ (S' S : List Cd), (S'.flatMap (QS.waysOf t L S)).length ≤ S'.length * (4 * (t.count + 1))
  | [], S => by simp
  | c :: S', S => by
    have h1 := ways_len t L S c
    have h2 := allWays_len t L S' S
    rw [List.flatMap_cons, List.length_append, List.length_cons, Nat.succ_mul]
    omega
theorem ew_snoc {e : NE} {x : Way} (r : e.1 = pk x.1 ∧ Dn K H e.2.2 (dPt x.2)) : ∀ {es : List NE} {W : List Way}, EW K H es W → EW K H (es ++ [e]) (W ++ [x])
  | _, _, .nil => .cons r .nil
  | _, _, .cons a q => .cons a (ew_snoc r q)
abbrev s_rings : Stmt := top 48
abbrev N_rings : List Str := ["sheet", "x", "y", "land", "code", "ends", "point", "direction", "end", "used", "found", "begin"]
abbrev P_rings : List Str := ["sheet", "x", "y"]
theorem sc_rings : FnScope N_rings P_rings (defScope s_rings) := ⟨rfl, rfl, rfl, by decide +kernel, rfl, by decide +kernel, by decide +kernel⟩
theorem nd_rings : N_rings.Nodup := sc_rings.nd
def sp_rings (K : PySem.W.Frag) : Sp := fun vs H Q _ => ∃ (x : Nat × Tr × Int × Int × Cd) (va vx vy : V), vs = [va, vx, vy] ∧ Dn K H va (dSh x.1 x.2.1) ∧ Dn K H vx (.int x.2.2.1) ∧ Dn K H vy (.int x.2.2.2.1) ∧ LeafPreN x ∧ x.2.1.count ≤ 1000 ∧
  ∀ p xs H', H p = none → Ex H H' → H' p = some (.lst xs) → RL K H' xs (QS.ringsM x.2.1 x.1 (landS x.2.1 x.2.2.2.2)) → Q (.ref p) H'
theorem ok_rings (T : Txt K w mg tM tS aS aF aW) (F : Fd K mg "rings" s_rings) (C_land_at : Ca P w K mg base "land_at" P_land_at 45 (sp_land_at K)) (C_ways_of : Ca P w K mg base "ways_of" P_ways_of 44 (sp_ways_of K)) (C_ring_from : Ca P w K mg base "ring_from" P_ring_from 2 (sp_ring_from P w K)) (C_corners_of : Ca P w K mg base "corners_of" P_corners_of 4 (sp_corners_of K)) (C_first_of : Ca P w K mg base "first_of" P_first_of 2 (sp_first_of K)) :
    Ca P w K mg base "rings" P_rings 46 (sp_rings K) := by
  refine F.mk sc_rings (fun _ _ _ _ _ _ us hl => match us, hl with | [_, _, _], _ => rfl) (fun vs H Q E ⟨_, _, _, _, e, _⟩ => by rw [e]; rfl) (fun f0 cdv A outer s H vs Q E hr h => ?_)
  obtain ⟨⟨L, t, x, y, c⟩, va, vx, vy, rfl, h0, h1, h2, hpre, hcn1, k⟩ := h
  obtain ⟨⟨hL, hf, hlf, hhas⟩, hcn⟩ := id hpre
  simp only at h0 h1 h2 hL hf hlf hhas k hcn hcn1
  have hu := hu_of hr
  obtain ⟨hnd, hls, hlen⟩ := landS_facts hlf
  generalize hS : landS t c = S at hnd hls hlen k
  have hok := QS.rings_ok hf hls hnd
  generalize hW : QS.allWays t L S = W at hok
  have hWl : W.length ≤ 5000000 := by
    rw [← hW]
    have h1 := allWays_len t L S S
    unfold QS.allWays
    have h2 : S.length * (4 * (t.count + 1)) ≤ 1000 * (4 * 1001) := Nat.mul_le_mul (by omega) (by omega)
    omega
  refine ⟨_, (pss_cons (ps_set (i := 3) nd_rings rfl (Or.inl rfl) pe_dnewK)
      (pss_cons (ps_for PassesOwn.never rfl (pi_list (pe_ca C_land_at hr (pa_cons (pv 0) (pa_cons (pv 1) (pa_cons (pv 2) pa_nil))))) (pg_name (i := 4) nd_rings rfl (Or.inl rfl)) (pss_one (ps_dput hu (pv 3) (pv 4) pe_bl  rfl)))
      (pss_cons (ps_set (i := 5) nd_rings rfl (Or.inl rfl) pe_dnewN)
      (pss_cons (ps_lock (ps_for PassesOwn.never rfl (pi_keys (pv 3)) (pg_name (i := 4) nd_rings rfl (Or.inl rfl)) (pss_one (ps_for PassesOwn.never rfl (pi_list (pe_ca C_ways_of hr (pa_cons (pv 0) (pa_cons (pv 3) (pa_cons (pv 4) pa_nil))))) (pg_tup (by rfl) (pgs_cons (pg_name (i := 6) nd_rings rfl (Or.inl rfl)) (pgs_cons (pg_name (i := 7) nd_rings rfl (Or.inl rfl)) (pgs_cons (pg_name (i := 8) nd_rings rfl (Or.inl rfl)) pgs_nil)))) (pss_one (ps_nput hr (pv 5) (pe_tup (pa_cons (pv 6) (pa_cons (pv 7) pa_nil))) (pv 8) rfl))))))
      (pss_cons (ps_set (i := 9) nd_rings rfl (Or.inl rfl) pe_dnewN)
      (pss_cons (ps_set (i := 10) nd_rings rfl (Or.inl rfl) (pe_lst pa_nil))
      (pss_cons (ps_lock (ps_for PassesOwn.never rfl (pi_nkeys (pv 5)) (pg_name (i := 11) nd_rings rfl (Or.inl rfl)) (pss_one (ps_if (pt_cmp (pc_nnotin hr (pv 11) (pv 9))) (pss_one (ps_expr (pe_bm PySem.F.plainAttrs_list PySem.F.slot_list_append PySem.F.type_list_append mt_append (pv 10) (pa_cons (pe_ca C_corners_of hr (pa_cons (pe_ca C_ring_from hr (pa_cons (pv 5) (pa_cons (pv 11) (pa_cons (pv 9) pa_nil)))) pa_nil)) pa_nil)))) pss_nil))))
      (pss_one (ps_ret (pe_sortedF C_first_of hr T.sorted (pa_cons (pv 10) pa_nil))))))))))), ?_⟩
  refine q_setD (ed_new) fun d H1 nd e1 hd => ?_
  refine q_for (m := [d]) (α := Cd) (enc := dC) (xs := S) (ei_new (by rw [← hS]; exact el_call (L, t, x, y, c) (eg_cons (en_var rfl (h0.ex e1)) (eg_cons (en_var rfl (h1.ex e1)) (eg_cons (en_var rfl (h2.ex e1)) eg_nil))) hpre)) (.cons hd (fun _ z => nomatch z) .nil)
    (fun pre σ' H' => ∃ o4, σ' = [some va, some vx, some vy, some (.ref d), o4, none, none, none, none, none, none, none] ∧ H' d = some (.dK (marks pre)))
    (fun H2 e2 => ⟨none, rfl, e2 _ _ hd⟩) (fun pre o post xv σ' H' H'' hxs e pv e' hdx N hN => ?_) (fun σ' H' e pv => ?_)
  · obtain ⟨o4, rfl, hd'⟩ := pv
    have hnm : o ∉ pre := by
      rw [hxs, List.nodup_append] at hnd
      exact fun z => hnd.2.2 o z o (by simp) rfl
    have hpl : pre.length ≤ t.count := by have := congrArg List.length hxs; simp at this; omega
    refine s_dPut (K := K) (v := .bl true) (s := cs o) ev_c (ev_var rfl) (en_var rfl hdx) (e' _ _ hd') (by simp [marks]; omega) fun H2 e2 => hN _ _ ((ExB.of e2).upd (by simp)) ⟨_, rfl, ?_⟩
    rw [upd_same]
    exact congrArg (some ∘ HO.dK) (marks_put hnm)
  obtain ⟨o4, rfl, hd'⟩ := pv
  have eH : Ex H H' := ex_back e1 nd e
  refine q_setNk fun a H2 na e2 ha => ?_
  have hd2 := e2 _ _ hd'
  have had : a ≠ d := fun z => by rw [z, hd'] at na; cases na
  refine ⟨d, _, hd2, trivial, fun od => ?_⟩
  have e02 := eH.trans e2
  have tkL : TKp H2 (upd H2 d (.frz od (.dK (marks S)))) := lk_tk hd2 (fun _ z => nomatch z)
  have h0L : Dn K (upd H2 d (.frz od (.dK (marks S)))) va (dSh L t) := (h0.ex e02).keep tkL
  have haL : upd H2 d (.frz od (.dK (marks S))) a = some (nkO P w a []) := by rw [upd_ne had]; exact ha
  have muL : Mu [a] (upd H2 d (.frz od (.dK (marks S)))) := .cons haL (nk_tup (H' := H2)) .nil
  have hk := ei_keys (K := K) (tl := tVar 3) (σ := [some va, some vx, some vy, some (.ref d), o4, some (.ref a), none, none, none, none, none, none]) (m := [a]) (ev_var rfl) (H := upd H2 d (.frz od (.dK (marks S)))) upd_same (by simpa using Ne.symm had)
  rw [marks_keys] at hk
  refine s_for (m := [a]) (α := Cd) (enc := dC) (xs := S) hk muL
    (fun pre σ' H' => ∃ o4 o6 o7 o8 es, σ' = [some va, some vx, some vy, some (.ref d), o4, some (.ref a), o6, o7, o8, none, none, none] ∧ H' a = some (nkO P w a es) ∧ (∀ e ∈ es, Dn K H' (.ref e.2.1) (kd e.1)) ∧ EW K H' es (pre.flatMap (QS.waysOf t L S)))
    (fun H3 e3 => ⟨o4, none, none, none, [], rfl, e3 _ _ haL, fun _ z => (nomatch z), .nil⟩) (fun pre o post xv σ' H3 H4 hxs e3 pv e4 hdx N hN => ?_) (fun σ' H3 e3 pv => ?_)
  · obtain ⟨o4, o6, o7, o8, es, rfl, ha3, hk3, hw3⟩ := pv
    have hoS : o ∈ S := by rw [hxs]; simp
    have tk4 : TKp _ H4 := (e3.tk muL).trans (.ex e4)
    have h04 := h0L.keep tk4
    have hd4 : H4 d = some (.frz od (.dK (marks S))) := e4 _ _ (e3 d _ (by simpa using Ne.symm had) upd_same)
    have ha4 := e4 _ _ ha3
    have mu4 : Mu [a] H4 := .cons ha4 (nk_tup (H' := H2)) .nil
    have hWx : W = pre.flatMap (QS.waysOf t L S) ++ (QS.waysOf t L S o ++ post.flatMap (QS.waysOf t L S)) := by
      rw [← hW]; unfold QS.allWays
      conv => lhs; rw [show S.flatMap (QS.waysOf t L S) = (pre ++ o :: post).flatMap (QS.waysOf t L S) by rw [← hxs]]
      rw [List.flatMap_append, List.flatMap_cons]
    refine s_for (m := [a]) (α := Way) (enc := dWay) (xs := QS.waysOf t L S o) (ei_new (el_callG (eg_conN (en_var rfl h04) (eg_conV (ev_var rfl) (eg_conN (en_var rfl hdx) eg_nil'))) fun vs5 H5 e5 hp Q5 k5 => ?_)) mu4
      (fun pre2 σ' H' => ∃ o6 o7 o8 es, σ' = [some va, some vx, some vy, some (.ref d), some xv, some (.ref a), o6, o7, o8, none, none, none] ∧ H' a = some (nkO P w a es) ∧ (∀ e ∈ es, Dn K H' (.ref e.2.1) (kd e.1)) ∧ EW K H' es (pre.flatMap (QS.waysOf t L S) ++ pre2))
      (fun H5 e5 => ⟨o6, o7, o8, es, rfl, e5 _ _ ha4, fun z hz => (hk3 z hz).ex (e4.trans e5), by rw [List.append_nil]; exact hw3.keep (.ex (e4.trans e5))⟩) (fun pre2 wy post2 xv2 σ' H5 H6 hxs2 e5 pv e6 hdx2 N2 hN2 => ?_) (fun σ' H5 e5 pv => ?_)
    · obtain ⟨w1, r1, rfl, hw1, r2, rfl, w3, r3, rfl, hw3', rfl⟩ := hp
      exact ⟨L, t, o, S, w1, w3, d, rfl, hw1, hw3', .inr ⟨od, e5 _ _ hd4⟩, ⟨hL, hf, hls o hoS, hcn⟩, k5⟩
    · obtain ⟨o6, o7, o8, es, rfl, ha5, hk5, hw5⟩ := pv
      refine g_three hdx2 fun v6 v7 v8 d6 d7 d8 => ?_
      have hnk : wy.1 ∉ (pre.flatMap (QS.waysOf t L S) ++ pre2).map (·.1) := fun z => by
        have hn := hok.nd
        rw [hWx, hxs2, show pre.flatMap (QS.waysOf t L S) ++ (pre2 ++ wy :: post2 ++ post.flatMap (QS.waysOf t L S)) = (pre.flatMap (QS.waysOf t L S) ++ pre2) ++ (wy :: (post2 ++ post.flatMap (QS.waysOf t L S))) by simp, List.map_append, List.nodup_append] at hn
        exact hn.2.2 _ z _ (by simp) rfl
      have hgn : nkGet es (pk wy.1) = none := by
        have := nk_keys wy.1 hw5.keys
        rw [decide_eq_false hnk] at this
        simpa using this
      have hel : es.length < 10000000 := by
        have h1 := congrArg List.length hw5.keys
        have h2 := congrArg List.length hWx
        rw [hxs2] at h2
        simp at h1 h2
        omega
      refine s_nPut (K := K) (v := v8) (dv := dPt wy.2) (k := pk wy.1) (en_var rfl d8) (ev_var rfl) (en_tup (eg_cons (en_var rfl d6) (eg_cons (en_var rfl d7) eg_nil))) (e6 _ _ ha5) (fun z hz => (hk5 z hz).ex e6) hgn hel fun v b H7 e7 dv db => ?_
      have ha7 := e7 _ _ (e6 _ _ ha5)
      have tk7 : TKp H7 (upd H7 a (nkO P w a (es ++ [(pk wy.1, b, v)]))) := .upd fun xs z => by rw [ha7] at z; exact absurd (Option.some.inj z) (nk_tup (H' := H7) xs)
      refine hN2 _ _ ((ExB.of e7).upd (by simp)) ⟨some v6, some v7, some v8, _, rfl, upd_same, fun z hz => ?_, ?_⟩
      · rcases List.mem_append.mp hz with hz | hz
        · exact ((hk5 z hz).ex (e6.trans e7)).keep tk7
        · simp at hz; subst hz; exact db.keep tk7
      · rw [← List.append_assoc]
        have h8 := (hw5.keep (.ex (e6.trans e7))).keep tk7
        clear hN2 hgn hel hnk
        generalize (pre.flatMap (QS.waysOf t L S) ++ pre2) = W1 at h8
        exact ew_snoc ⟨rfl, dv.keep tk7⟩ h8
    · obtain ⟨o6, o7, o8, es, rfl, ha5, hk5, hw5⟩ := pv
      refine hN _ _ e5 ⟨some xv, o6, o7, o8, es, rfl, ha5, hk5, ?_⟩
      rw [List.flatMap_append, List.flatMap_singleton]
      exact hw5
  obtain ⟨o4, o6, o7, o8, es, rfl, ha3, hk3, hw3⟩ := pv
  rw [show S.flatMap (QS.waysOf t L S) = W from hW] at hw3
  refine ⟨e3 d _ (by simpa using Ne.symm had) upd_same, ?_⟩
  have hd3 : H3 d = some (.frz od (.dK (marks S))) := e3 d _ (by simpa using Ne.symm had) upd_same
  have eB := lk_ex hd2 e3 (by simpa using Ne.symm had)
  have eH4 : Ex H (upd H3 d (.dK (marks S))) := fun b ob hb => eB b ob (fun z => by simp at z; subst z; rw [fresh_back eH na] at hb; cases hb) (e02 _ _ hb)
  have tk3 : TKp H3 (upd H3 d (.dK (marks S))) := lk_tk' hd3
  have ha4 : upd H3 d (.dK (marks S)) a = some (nkO P w a es) := by rw [upd_ne had]; exact ha3
  have hk4 : ∀ e ∈ es, Dn K (upd H3 d (.dK (marks S))) (.ref e.2.1) (kd e.1) := fun z hz => (hk3 z hz).keep tk3
  have hw4 := hw3.keep tk3
  generalize upd H3 d (.dK (marks S)) = H4 at eH4 ha4 hk4 hw4
  refine q_setNk fun u H5 nu e5 hu5 => ?_
  refine q_setL (K := K) (el_lst eg_nil) fun g ws0 H6 ng e6 hg hs0 => ?_
  have hw0 : ws0 = [] := by cases hs0; rfl
  subst hw0
  have e46 := e5.trans e6
  have ha6 := e46 _ _ ha4
  have hu6 := e6 _ _ hu5
  have hua : u ≠ a := fun z => by rw [z, ha4] at nu; cases nu
  have hga : g ≠ a := fun z => by rw [z, e5 _ _ ha4] at ng; cases ng
  have hgu : g ≠ u := fun z => by rw [z, hu5] at ng; cases ng
  refine ⟨a, _, ha6, trivial, fun od2 => ?_⟩
  have hes : es.map (·.1) = (W.map (·.1)).map pk := hw4.keys
  have tk7 : TKp H6 (upd H6 a (.frz od2 (nkO P w a es))) := lk_tk ha6 (nk_tup (H' := H6))
  have ha7 : upd H6 a (.frz od2 (nkO P w a es)) a = some (.frz od2 (nkO P w a es)) := upd_same
  have hu7 : upd H6 a (.frz od2 (nkO P w a es)) u = some (nkO P w u []) := by rw [upd_ne hua]; exact hu6
  have hg7 : upd H6 a (.frz od2 (nkO P w a es)) g = some (.lst []) := by rw [upd_ne hga]; exact hg
  have hk7 : ∀ e ∈ es, Dn K (upd H6 a (.frz od2 (nkO P w a es))) (.ref e.2.1) (kd e.1) := fun z hz => ((hk4 z hz).ex e46).keep tk7
  have hw7 := (hw4.keep (.ex e46)).keep tk7
  have eL : ∀ {H' : Hp}, ExB [u, g] (upd H6 a (.frz od2 (nkO P w a es))) H' → ExB [u, g] H6 (upd H' a (nkO P w a es)) := fun e => lk_ex ha6 e (by simp only [List.mem_cons, List.not_mem_nil, or_false, not_or]; exact ⟨Ne.symm hua, Ne.symm hga⟩)
  generalize hH7 : upd H6 a (.frz od2 (nkO P w a es)) = H7 at ha7 hu7 hg7 hk7 hw7 eL
  have mu7 : Mu [u, g] H7 := .cons hu7 (nk_tup (H' := H7)) (.cons hg7 (fun _ z => nomatch z) .nil)
  have hki := ei_nkeys (P := P) (w := w) (K := K) (tl := tVar 5) (σ := [some va, some vx, some vy, some (.ref d), o4, some (.ref a), o6, o7, o8, some (.ref u), some (.ref g), none]) (m := [u, g]) (ev_var rfl) ha7 hk7 (by simp only [List.mem_cons, List.not_mem_nil, or_false, not_or]; exact ⟨Ne.symm hua, Ne.symm hga⟩)
  rw [show es.map (fun e => kd e.1) = (W.map (·.1)).map dKy by rw [show es.map (fun e => kd e.1) = (es.map (·.1)).map kd by rw [List.map_map]; rfl, hes, List.map_map]; rfl] at hki
  have hrt := QS.rings_total hok
  refine s_for (m := [u, g]) (α := QS.Key) (enc := dKy) (xs := W.map (·.1)) hki mu7
    (fun pre σ' H' => ∃ o11 ues xs usedK R, σ' = [some va, some vx, some vy, some (.ref d), o4, some (.ref a), o6, o7, o8, some (.ref u), some (.ref g), o11] ∧ H' u = some (nkO P w u ues) ∧ (∀ e ∈ ues, Dn K H' (.ref e.2.1) (kd e.1)) ∧ ues.map (·.1) = (usedK : List QS.Key).map pk ∧ H' g = some (.lst xs) ∧ RL K H' xs (R.map QS.cornersOf) ∧ V.ref g ∉ xs ∧
      (∀ x ∈ usedK, x ∈ W.map (·.1)) ∧ usedK.Nodup ∧ R.length ≤ pre.length ∧ ∀ post, W.map (·.1) = pre ++ post → QS.ringsOf W = R ++ QS.ringsGo (QS.nx W) (W.length + 1) post usedK)
    (fun H8 e8 => ⟨none, [], [], [], [], rfl, e8 _ _ hu7, fun _ z => (nomatch z), rfl, e8 _ _ hg7, .nil, by simp, fun _ z => (nomatch z), List.nodup_nil, Nat.le_refl _, fun post h => by unfold QS.ringsOf; rw [h]; rfl⟩) (fun pre kx post xv σ' H8 H9 hxs e8 pv e9 hdx N hN => ?_) (fun σ' H8 e8 pv => ?_)
  · obtain ⟨o11, ues, xs, usedK, R, rfl, hu8, hk8, hks8, hg8, hrl, hgx, hsub, hund, hRl, hrings⟩ := pv
    have hu9 := e9 _ _ hu8
    have hg9 := e9 _ _ hg8
    have ha9 : H9 a = some (.frz od2 (nkO P w a es)) := e9 _ _ (e8 a _ (by simp only [List.mem_cons, List.not_mem_nil, or_false, not_or]; exact ⟨Ne.symm hua, Ne.symm hga⟩) ha7)
    have tk9 : TKp H7 H9 := (e8.tk mu7).trans (.ex e9)
    have hk9 : ∀ e ∈ ues, Dn K H9 (.ref e.2.1) (kd e.1) := fun z hz => (hk8 z hz).ex e9
    have hin := en_nNi (P := P) (w := w) (K := K) (ta := tVar 11) (tb := tVar 9) (σ := [some va, some vx, some vy, some (.ref d), o4, some (.ref a), o6, o7, o8, some (.ref u), some (.ref g), some xv]) (k := pk kx) (en_var rfl hdx) (ev_var rfl) ⟨.inl hu9, hk9⟩
    rw [nk_keys kx hks8] at hin
    have hkx : kx ∈ W.map (·.1) := by rw [hxs]; simp
    have hgo := hrings _ hxs
    rw [QS.ringsGo] at hgo
    have hpl : pre.length ≤ W.length := by have := congrArg List.length hxs; simp at this; omega
    refine s_if (et_v hin) (fun gg H10 e10 => ?_) (fun gg H10 e10 => ?_)
    · have g' : kx ∉ usedK := by simpa using gg
      rw [if_neg g'] at hgo
      have hmem : QS.ringGo (QS.nx W) usedK (W.length + 1) kx [] ∈ QS.ringsOf W := by rw [hgo]; simp
      obtain ⟨hrne, p0, hch⟩ := hrt.1 _ hmem
      have htn := (QS.ring_sum hch hrne).1
      obtain ⟨_, _, _, hrK, hrnd, _⟩ := QS.ringGo_run (k0 := kx) (used := usedK) (nx := QS.nx W) (K := W.map (·.1)) hok.cl (W.length + 1) kx [] .nil hkx (fun z hz => (nomatch hz)) (by simpa using hund) (by simp)
      have e910 := e10
      refine ⟨_, rfl, ⟨.inl ⟨rfl, xs, .inl (.inl (e10 _ _ hg9))⟩, ?_⟩⟩
      refine ⟨_, rfl, _, rfl, _, rfl, ?_⟩
      refine ⟨a, u, es, ues, W, usedK, kx, xv, rfl, ⟨.inr ⟨od2, e10 _ _ ha9⟩, fun z hz => ((hk7 z hz).keep tk9).ex e10⟩, (hw7.keep tk9).keep (.ex e10), Ne.symm hua, e10 _ _ hu9, fun z hz => (hk9 z hz).ex e10, hks8, hdx.ex e10, hok, hkx, hsub, hund, hWl, fun q5 ws5 ues5 H11 nq5 eB5 hq5 hws5 hu11 hk11 hks11 => ?_⟩
      have hrl5 : (QS.ringGo (QS.nx W) usedK (W.length + 1) kx []).length ≤ 5000000 := by
        have := QS.nodup_len (List.nodup_append.mp hrnd).2.1 hrK
        rw [List.length_map] at this; omega
      refine ⟨q5, ws5, _, rfl, hq5, hws5, htn, hrl5, fun q6 us6 H12 nq6 e12 hq6 hus6 => ?_⟩
      have mu10 : Mu [u] H10 := .cons (e10 _ _ hu9) (nk_tup (H' := H10)) .nil
      have hg11 : H11 g = some (.lst xs) := eB5 g _ (by simpa using hgu) (e10 _ _ hg9)
      have hg12 := e12 _ _ hg11
      have hxl : xs.length = R.length := by rw [hrl.len, List.length_map]
      refine ⟨g, xs, .ref q6, rfl, rfl, hg12, Nat.lt_of_lt_of_le (show xs.length < 10000000 by omega) (by decide), ?_⟩
      have tk13 := lst_tk (o := .lst (xs ++ [.ref q6])) hg12
      have hux : V.ref u ∉ xs := fun z => by
        obtain ⟨ws', h'⟩ := hrl.mem z
        rw [hu8] at h'
        unfold nkO at h'
        cases h'
      have hq6g : q6 ≠ g := fun z => by rw [z, hg11] at nq6; cases nq6
      have eAll : ExB [u, g] H9 (upd H12 g (.lst (xs ++ [.ref q6]))) := (((ExB.of e10).trans (eB5.mono (by simp))).trans (.of e12)).upd (by simp)
      refine hN _ _ eAll ⟨some xv, ues5, xs ++ [.ref q6], usedK ++ QS.ringGo (QS.nx W) usedK (W.length + 1) kx [], R ++ [QS.ringGo (QS.nx W) usedK (W.length + 1) kx []], rfl, ?_, fun z hz => ((hk11 z hz).ex e12).keep tk13, hks11, upd_same, ?_, ?_, ?_, hrnd, by simp; omega, fun post' hp' => ?_⟩
      · rw [upd_ne (Ne.symm hgu)]
        exact e12 _ _ hu11
      · rw [List.map_append]
        refine RL.snoc ⟨q6, us6, rfl, ?_, hus6.keep tk13⟩ ?_
        · rw [upd_ne hq6g]; exact hq6
        · refine RL.keep (m := [u, g]) ((ExB.of e9).trans eAll) ?_ hrl fun b hb => ?_
          · exact ((TKp.ex (e9.trans e10)).trans (eB5.tk mu10)).trans ((TKp.ex e12).trans tk13)
          · simp only [List.mem_cons, List.not_mem_nil, or_false] at hb
            rcases hb with rfl | rfl
            · exact hux
            · exact hgx
      · intro z
        rcases List.mem_append.mp z with z | z
        · exact hgx z
        · simp at z; exact hq6g z.symm
      · intro z hz
        rcases List.mem_append.mp hz with hz | hz
        · exact hsub z hz
        · exact hrK z hz
      · have : post' = post := by
          rw [hxs, List.append_assoc] at hp'
          have := List.append_cancel_left hp'
          simpa using this.symm
        rw [this, hgo, List.append_assoc]
        rfl
    · have g' : kx ∈ usedK := of_decide_eq_true (by
        cases h : decide (kx ∈ usedK) with
        | true => rfl
        | false => rw [h] at gg; cases gg)
      rw [if_pos g'] at hgo
      refine hN _ _ (.of e10) ⟨some xv, ues, xs, usedK, R, rfl, e10 _ _ hu9, fun z hz => (hk9 z hz).ex e10, hks8, e10 _ _ hg9, hrl.ex (e9.trans e10), hgx, hsub, hund, by simp; omega, fun post' hp' => ?_⟩
      have : post' = post := by
        rw [hxs, List.append_assoc] at hp'
        have := List.append_cancel_left hp'
        simpa using this.symm
      rw [this]; exact hgo
  · obtain ⟨o11, ues, xs, usedK, R, rfl, hu8, hk8, hks8, hg8, hrl, hgx, hsub, hund, hRl, hrings⟩ := pv
    have ha8 : H8 a = some (.frz od2 (nkO P w a es)) := e8 a _ (by simp only [List.mem_cons, List.not_mem_nil, or_false, not_or]; exact ⟨Ne.symm hua, Ne.symm hga⟩) ha7
    refine ⟨ha8, ?_⟩
    have hR : QS.ringsOf W = R := by
      have := hrings [] (by simp)
      rw [QS.ringsGo, List.append_nil] at this
      exact this
    have tk9 : TKp H8 (upd H8 a (nkO P w a es)) := lk_tk' ha8
    have eF : Ex H (upd H8 a (nkO P w a es)) := fun b ob hb => eL e8 b ob (fun z => by
      simp only [List.mem_cons, List.not_mem_nil, or_false] at z
      rcases z with rfl | rfl
      · rw [eH4 _ _ hb] at nu; cases nu
      · rw [e5 _ _ (eH4 _ _ hb)] at ng; cases ng) (e46 _ _ (eH4 _ _ hb))
    have hax : V.ref a ∉ xs := fun z => by
      obtain ⟨ws', h'⟩ := hrl.mem z
      rw [ha8] at h'; cases h'
    have hrl9 : RL K (upd H8 a (nkO P w a es)) xs (R.map QS.cornersOf) := RL.keep (m := [a]) ((ExB.refl [a] H8).upd (by simp)) tk9 hrl fun b hb => by
      simp only [List.mem_cons, List.not_mem_nil, or_false] at hb
      subst hb; exact hax
    have hg9 : upd H8 a (nkO P w a es) g = some (.lst xs) := by rw [upd_ne hga]; exact hg8
    have ngH : H g = none := fresh_back eH4 (fresh_back e5 ng)
    have hxl : xs.length = R.length := by rw [hrl.len, List.length_map]
    generalize upd H8 a (nkO P w a es) = H9 at eF hrl9 hg9
    have hRne : ∀ r ∈ R, QS.cornersOf r ≠ [] := fun r hr' => by
      rw [← hR] at hr'
      obtain ⟨hrne, p0, hch⟩ := hrt.1 _ hr'
      have htn := (QS.ring_sum hch hrne).1
      intro z
      have hl := congrArg List.length z
      unfold QS.cornersOf at hl
      rw [List.length_append, List.length_drop, List.length_take, List.length_nil] at hl
      have : 0 < (QS.turns r).length := List.length_pos_iff.mpr htn
      omega
    refine ⟨_, rfl, ?_⟩
    refine ⟨g, xs, (R.map QS.cornersOf).map fun ps => dRow (QS.hd0 ps), rfl, rfl, .inl (.inl hg9), by rw [List.length_map, List.length_map, hxl], ?_, .inl ?_, ?_, ?_, fun p H10 np np' e10 => k p _ _ (by
      cases h : H p with
      | none => rfl
      | some o => rw [eF _ _ h] at np; cases np) ((eF.trans e10).trans (Ex.new np')) upd_same ?_⟩
    · intro d1 h1 d2 h2
      obtain ⟨x1, _, rfl⟩ := List.mem_map.mp h1
      obtain ⟨x2, _, rfl⟩ := List.mem_map.mp h2
      rfl
    · intro d1 h1
      obtain ⟨x1, _, rfl⟩ := List.mem_map.mp h1
      exact ⟨_, _, rfl⟩
    · intro d1 h1
      obtain ⟨x1, _, rfl⟩ := List.mem_map.mp h1
      simp [dRow, PyData.depth, PyData.depthAll]
    · intro i v d1 hv hd1 H11 e11 Q' q'
      rw [List.getElem?_map] at hd1
      obtain ⟨ps, hps, rfl⟩ := Option.map_eq_some_iff.mp hd1
      obtain ⟨b, ws', rfl, hb, hws'⟩ := hrl9.get hv hps
      refine ⟨b, ws', ps, rfl, e11 _ _ hb, hws'.ex e11, ?_, q'⟩
      obtain ⟨r, hr', rfl⟩ := List.mem_map.mp (List.mem_of_getElem? hps)
      exact hRne r hr'
    · unfold QS.ringsM
      rw [hW, hR]
      exact (hrl9.ex (e10.trans (Ex.new np'))).sorted
end
end QW
set_option autoImplicit true
set_option Elab.async false
set_option linter.all false
set_option maxRecDepth 100000
set_option maxHeartbeats 4000000
namespace QW
open PySem PySem.Spec PyProof.Rows L2 Evl QX
open QS (Qd Sd Tr Sq sqr Pt Way)
theorem qd_of (z : Int) : ∃ q : Qd, z % 4 = (q.num : Int) := by
  have h : z % 4 = 0 ∨ z % 4 = 1 ∨ z % 4 = 2 ∨ z % 4 = 3 := by omega
  rcases h with h | h | h | h
  · exact ⟨.q0, h⟩
  · exact ⟨.q1, h⟩
  · exact ⟨.q2, h⟩
  · exact ⟨.q3, h⟩
theorem cut_any (c : Cd) (lo hi : Option Int) : ∃ c' : Cd, cutS (cs c) lo hi = cs c' ∧ c'.length ≤ c.length ∧ ∀ n : Nat, lo = none → hi = some (n : Int) → c'.length ≤ n := by
  refine ⟨(c.drop (HT.sIx c.length 0 lo)).take (HT.sIx c.length c.length hi - HT.sIx c.length 0 lo), str_eq ?_, ?_, ?_⟩
  · unfold cutS
    rw [cs_toList, cs_toList, cs_len, List.map_take, List.map_drop]
  · rw [List.length_take, List.length_drop]; omega
  · rintro n rfl rfl
    rw [HT.sIx_none, HT.sIx_nat, List.length_take]; omega
section
variable {K : PySem.W.Frag} {σ : L2.St} {H : Hp} {ta te : TE}
theorem en_dig {z : Int} {q : Qd} (hq : z % 4 = (q.num : Int)) (ha : EvN K te σ H (.int (z % 4))) : EvN K (tOp rIxS (tC (.str "0123")) te) σ H (.str (cs [q])) := by
  rw [hq] at ha
  exact en_ixS (s := "0123") (k := dg q) en_str ha (by omega) (by decide) (signs_at q)
end
section
variable {P : Program} {w : World} {K : PySem.W.Frag} {mg : Str → Option Value} {base : Heap} {tM tS : Tok} {aS aF aW : Addr}
/-- the script -/
def Scr (K : PySem.W.Frag) (H : Hp) (p : Addr) (ns : List Int) : Prop := SqL K H p (ns.map V.int) ∧ ns.length ≤ 63
theorem Scr.ex {H H' : Hp} {p : Addr} {ns : List Int} (h : Scr K H p ns) (e : Ex H H') : Scr K H' p ns := ⟨ex_l e h.1, h.2⟩
theorem ints_dn {H : Hp} : ∀ ns : List Int, DnAll K H (ns.map V.int) (ns.map .int)
  | [] => .nil
  | n :: ns => .cons (.int n) (ints_dn ns)
theorem scr_stay {m : List Addr} {H H' : Hp} {p : Addr} {ns : List Int} (h : Scr K H p ns) (e : ExB m H H') (hm : p ∉ m) : Scr K H' p ns := by
  refine ⟨?_, h.2⟩
  rcases h.1 with (h | ⟨o, h⟩) | h
  · exact .inl (.inl (e _ _ hm h))
  · exact .inl (.inr ⟨o, e _ _ hm h⟩)
  · exact .inr h
def nthI (ns : List Int) (k : Int) : Int := if k < ns.length then ns.getD k.toNat 0 else 0
abbrev s__law_at : Stmt := top 50
abbrev N__law_at : List Str := ["_law_script", "_law_k"]
abbrev P__law_at : List Str := ["_law_script", "_law_k"]
theorem sc__law_at : FnScope N__law_at P__law_at (defScope s__law_at) := ⟨rfl, rfl, rfl, by decide +kernel, rfl, by decide +kernel, by decide +kernel⟩
theorem nd__law_at : N__law_at.Nodup := sc__law_at.nd
def sp__law_at (K : PySem.W.Frag) : Sp := fun vs H Q _ => ∃ (p : Addr) (ns : List Int) (k : Int) (vk : V), vs = [.ref p, vk] ∧ Scr K H p ns ∧ Dn K H vk (.int k) ∧ 0 ≤ k ∧ ∀ v H', Ex H H' → Dn K H' v (.int (nthI ns k)) → Q v H'
theorem ok__law_at (T : Txt K w mg tM tS aS aF aW) (F : Fd K mg "_law_at" s__law_at) : Ca P w K mg base "_law_at" P__law_at 1 (sp__law_at K) := by
  refine F.mk sc__law_at (fun _ _ _ _ _ _ us hl => match us, hl with | [_, _], _ => rfl) (fun vs H Q E ⟨_, _, _, _, e, _⟩ => by rw [e]; rfl) (fun f0 cdv A outer s H vs Q E hr h => ?_)
  obtain ⟨p, ns, kk, vk, rfl, hs, hk, h0, k⟩ := h
  refine ⟨_, (pss_cons (ps_if (pt_cmpR op_lt (pv 1) (pe_callB call_len_seq (by rfl) T.len b_len (pa_cons (pv 0) pa_nil)) (nomark _)) (pss_one (ps_ret (pe_ix ix_list (pv 0) (pv 1) (fun _ _ => rfl)))) pss_nil)
      (pss_one (ps_ret pe_int))), ?_⟩
  have hl : EvN K (tCB (rLenS K) (tCons (tVar 0) tNil)) [some (.ref p), some vk] H (.int ns.length) := (ei (ev_len (ev_var rfl) hs.1)).cast (by rw [List.length_map])
  refine q_when (et_n (en_cmp (en_var rfl hk) hl)) (fun g H1 e1 => ?_) (fun g H1 e1 => ?_)
  · have g' : kk < ns.length := by simpa using g
    refine s_retN (en_ixL (ds := ns.map .int) (d := .int (nthI ns kk)) (ev_var rfl) (hs.ex e1).1 (en_var rfl (hk.ex e1)) (ints_dn ns) h0 ?_) fun v H2 e2 hd => k v H2 (e1.trans e2) hd
    unfold nthI
    rw [if_pos g', List.getElem?_map, List.getD_eq_getElem?_getD]
    have : kk.toNat < ns.length := by omega
    rw [List.getElem?_eq_getElem this]
    rfl
  · have g' : ¬ kk < ns.length := by simpa using g
    refine s_retN (K := K) en_int fun v H2 e2 hd => k v H2 (e1.trans e2) ?_
    unfold nthI
    rw [if_neg g']; exact hd
theorem en_at {σ : L2.St} {H : Hp} {p : Addr} {ns : List Int} {k : Int} {ta te : TE} (h1 : Ev ta σ H (.ref p)) (hs : Scr K H p ns) (h2 : EvN K te σ H (.int k)) (h0 : 0 ≤ k) : EvN K (tCall (sp__law_at K) [] E0 (tCons ta (tCons te tNil))) σ H (.int (nthI ns k)) :=
  en_callG (eg_conV h1 (eg_conN h2 eg_nil')) fun vs H1 e1 hp Q q => by
    obtain ⟨r, rfl, v, r2, rfl, hv, rfl⟩ := hp
    exact ⟨p, ns, k, v, rfl, hs.ex e1, hv, h0, q⟩
abbrev s__law_colour : Stmt := top 53
abbrev N__law_colour : List Str := ["_law_cell"]
abbrev P__law_colour : List Str := ["_law_cell"]
theorem sc__law_colour : FnScope N__law_colour P__law_colour (defScope s__law_colour) := ⟨rfl, rfl, rfl, by decide +kernel, rfl, by decide +kernel, by decide +kernel⟩
theorem nd__law_colour : N__law_colour.Nodup := sc__law_colour.nd
def sp__law_colour (K : PySem.W.Frag) : Sp := fun vs H Q _ => ∃ (i : Int) (v : V), vs = [v] ∧ Dn K H v (.int i) ∧ ∀ v' H' j, Ex H H' → Dn K H' v' (.int j) → Q v' H'
theorem ok__law_colour (T : Txt K w mg tM tS aS aF aW) (F : Fd K mg "_law_colour" s__law_colour) : Ca P w K mg base "_law_colour" P__law_colour 1 (sp__law_colour K) := by
  refine F.mk sc__law_colour (fun _ _ _ _ _ _ us hl => match us, hl with | [_], _ => rfl) (fun vs H Q E ⟨_, _, e, _⟩ => by rw [e]; rfl) (fun f0 cdv A outer s H vs Q E hr h => ?_)
  obtain ⟨i, v, rfl, h0, k⟩ := h
  refine ⟨_, (pss_cons (ps_if (pt_cmpR op_lt (pe_op op_mod (pv 0) pe_int) pe_int (nomark _)) (pss_one (ps_ret (pe_op op_mod (pe_op op_fdiv (pv 0) pe_int) pe_int))) pss_nil)
      (pss_one (ps_ret (pe_op op_mod (pe_op op_fdiv (pv 0) pe_int) pe_int)))), ?_⟩
  refine q_when (et_n (en_cmp (en_opC (en_var rfl h0) en_int (by decide)) en_int)) (fun g H1 e1 => ?_) (fun g H1 e1 => ?_)
  · exact s_retN (en_opC (en_opC (en_var rfl (h0.ex e1)) en_int ⟨by decide, by decide⟩) en_int (by decide)) fun v H2 e2 hd => k v H2 _ (e1.trans e2) hd
  · exact s_retN (en_opC (en_opC (en_var rfl (h0.ex e1)) en_int ⟨by decide, by decide⟩) en_int (by decide)) fun v H2 e2 hd => k v H2 _ (e1.trans e2) hd
abbrev s__law_code : Stmt := top 51
abbrev N__law_code : List Str := ["_law_cell", "_law_size", "_law_signs", "_law_rest", "_law_k"]
abbrev P__law_code : List Str := ["_law_cell", "_law_size"]
theorem sc__law_code : FnScope N__law_code P__law_code (defScope s__law_code) := ⟨rfl, rfl, rfl, by decide +kernel, rfl, by decide +kernel, by decide +kernel⟩
theorem nd__law_code : N__law_code.Nodup := sc__law_code.nd
def sp__law_code (K : PySem.W.Frag) : Sp := fun vs H Q _ => ∃ (i : Int) (n : Nat) (v1 v2 : V), vs = [v1, v2] ∧ Dn K H v1 (.int i) ∧ Dn K H v2 (.int n) ∧ n ≤ 40 ∧ ∀ v' H' c, Ex H H' → Dn K H' v' (dC c) → c.length = n → Q v' H'
theorem ok__law_code (T : Txt K w mg tM tS aS aF aW) (F : Fd K mg "_law_code" s__law_code) : Ca P w K mg base "_law_code" P__law_code 1 (sp__law_code K) := by
  refine F.mk sc__law_code (fun _ _ _ _ _ _ us hl => match us, hl with | [_, _], _ => rfl) (fun vs H Q E ⟨_, _, _, _, e, _⟩ => by rw [e]; rfl) (fun f0 cdv A outer s H vs Q E hr h => ?_)
  obtain ⟨i, n, v1, v2, rfl, h1, h2, hn, k⟩ := h
  refine ⟨_, (pss_cons (ps_set (i := 2) nd__law_code rfl (Or.inl rfl) (pe_lst pa_nil))
      (pss_cons (ps_set (i := 3) nd__law_code rfl (Or.inl rfl) (pv 0))
      (pss_cons (ps_for PassesOwn.never rfl (pi_range1 (by rfl) T.range (pa_cons (pv 1) pa_nil)) (pg_name (i := 4) nd__law_code rfl (Or.inl rfl)) (pss_cons (ps_expr (pe_bm PySem.F.plainAttrs_list PySem.F.slot_list_append PySem.F.type_list_append mt_append (pv 2) (pa_cons (pe_ix ix_str pe_str (pe_op op_mod (pe_op op_add (pv 3) (pe_op op_mul (pv 4) (pe_op op_mod (pv 0) pe_int))) pe_int) (fun _ _ => rfl)) pa_nil)))
      (pss_one (ps_set (i := 3) nd__law_code rfl (Or.inl rfl) (pe_op op_fdiv (pv 3) pe_int)))))
      (pss_one (ps_ret (pe_join pe_str (pv 2))))))), ?_⟩
  refine q_setL (K := K) (el_lst eg_nil) fun p ws0 H1 np e1 hp hs0 => ?_
  have hw0 : ws0 = [] := by cases hs0; rfl
  subst hw0
  refine q_set (en_var rfl (h1.ex e1)) fun v3 H2 e2 d3 => ?_
  have e02 := e1.trans e2
  have hp2 := e2 _ _ hp
  refine q_for (m := [p]) (α := Nat) (enc := fun i => .int (0 + (i : Int))) (xs := List.range n) (ei_range1 (n := (n : Int)) (eg_cons (en_var rfl (h2.ex e02)) eg_nil) (by omega) (by omega)) (.one hp2)
    (fun pre σ' H' => ∃ (o4 : Option V) (ws : List V) (vr : V) (z : Int) (c : Cd), σ' = [some v1, some v2, some (.ref p), some vr, o4] ∧ H' p = some (.lst ws) ∧ DnAll K H' ws (c.map fun q => dC [q]) ∧ c.length = pre.length ∧ Dn K H' vr (.int z))
    (fun H3 e3 => ⟨none, [], v3, i, [], rfl, e3 _ _ hp2, .nil, rfl, d3.ex e3⟩) (fun pre j post xv σ' H' H'' hxs e pv e' hd N hN => ?_) (fun σ' H' e pv => ?_)
  · obtain ⟨o4, ws, vr, z, c, rfl, hp', hws, hcl, hz⟩ := pv
    obtain ⟨hj, hjn, _⟩ := range_split hxs
    rw [Int.zero_add] at hd
    have tk : TKp H2 H'' := (e.tk (.one hp2)).trans (.ex e')
    obtain ⟨q, hq⟩ := qd_of (z + (j : Int) * (i % 5))
    refine q_push (K := K) (d := dC [q]) (e' _ _ hp') (ev_var rfl) (en_dig hq (en_opC (en_op0 (en_var rfl (hz.ex e')) (en_opC (en_var rfl hd) (en_opC (en_var rfl ((h1.ex e02).keep tk)) en_int (by decide)) (.inl ⟨by omega, by omega⟩))) en_int (by decide))) (by rw [hws.len, List.length_map]; omega) fun v H4 e4 hv => ?_
    have tk4 := lst_tk (o := .lst (ws ++ [v])) (e4 _ _ (e' _ _ hp'))
    refine s_setN (K := K) (en_opC (en_var rfl (((hz.ex e').ex e4).keep tk4)) en_int ⟨by decide, by decide⟩) fun v5 H5 e5 d5 => hN _ _ (((ExB.of e4).upd (by simp)).trans (.of e5)) ⟨_, ws ++ [v], v5, _, c ++ [q], rfl, e5 _ _ upd_same, ?_, by simp [hcl], d5⟩
    rw [List.map_append]
    exact (((hws.ex (e'.trans e4)).keep tk4).snoc (hv.keep tk4)).ex e5
  · obtain ⟨o4, ws, vr, z, c, rfl, hp', hws, hcl, hz⟩ := pv
    rw [List.length_range] at hcl
    have hws' : DnAll K H' ws ((c.map fun q => cs [q]).map .str) := by rw [List.map_map]; exact hws
    exact s_retN ((en_joinL (s := "") (ys := c.map fun q => cs [q]) en_str (ev_var rfl) hp' hws' (by rw [join_len, List.length_map, hcl]; show n + n * 0 ≤ _; omega)).cast (e := dC c) (by rw [join_cs]; rfl)) fun v H4 e4 hv => k v H4 c ((ex_back e02 np e).trans e4) hv hcl
theorem dT_lay : ∀ t : Tr, PyData.canLay0 (dT t) = true
  | .leaf _ => rfl
  | .node a b c d => by simp [dT, PyData.canLay0, PyData.canLayAll0, dT_lay a, dT_lay b, dT_lay c, dT_lay d]
theorem dT_depth {t : Tr} {n : Nat} (h : QS.Fits t n) : PyData.depth (dT t) ≤ n := by
  induction h with
  | leaf v n => simp [dT, PyData.depth]
  | node _ _ _ _ h1 h2 h3 h4 => simp [dT, PyData.depth, PyData.depthAll]; omega
theorem dT_shaped {t : Tr} {n : Nat} (h : QS.Fits t n) (hn : n ≤ 60) : SeqAt.shaped (dT t) = true := by
  have := dT_depth h
  simp [SeqAt.shaped, dT_lay]; omega
abbrev s__law_tree_of : Stmt := top 54
abbrev N__law_tree_of : List Str := ["_law_a", "_law_b", "_law_c", "_law_d"]
abbrev P__law_tree_of : List Str := ["_law_a", "_law_b", "_law_c", "_law_d"]
theorem sc__law_tree_of : FnScope N__law_tree_of P__law_tree_of (defScope s__law_tree_of) := ⟨rfl, rfl, rfl, by decide +kernel, rfl, by decide +kernel, by decide +kernel⟩
theorem nd__law_tree_of : N__law_tree_of.Nodup := sc__law_tree_of.nd
def TOk (n k : Nat) (t : Tr) : Prop := QS.Fits t n ∧ t.count ≤ k
def sp__law_tree_of (K : PySem.W.Frag) : Sp := fun vs H Q _ => ∃ (a b c d : Tr) (n : Nat), DnAll K H vs [dT a, dT b, dT c, dT d] ∧ QS.Fits a n ∧ QS.Fits b n ∧ QS.Fits c n ∧ QS.Fits d n ∧ n ≤ 40 ∧ ∀ v H' t, Ex H H' → Dn K H' v (dT t) → QS.Fits t (n + 1) → t.count ≤ a.count + b.count + c.count + d.count → Q v H'
theorem ok__law_tree_of (T : Txt K w mg tM tS aS aF aW) (F : Fd K mg "_law_tree_of" s__law_tree_of) : Ca P w K mg base "_law_tree_of" P__law_tree_of 1 (sp__law_tree_of K) := by
  refine F.mk sc__law_tree_of (fun _ _ _ _ _ _ us hl => match us, hl with | [_, _, _, _], _ => rfl) (fun vs H Q E ⟨_, _, _, _, _, e, _⟩ => by rw [DnAll.len e]; rfl) (fun f0 cdv A outer s H vs Q E hr h => ?_)
  obtain ⟨a, b, c, d, n, hv, ha, hb, hc, hd, hn, k⟩ := h
  obtain ⟨va, vb, vc, vd, rfl, h0, h1, h2, h3⟩ := hv.inv4
  have hu64 := hr.units
  have sa := dT_shaped ha (by omega)
  have sb := dT_shaped hb (by omega)
  have sc := dT_shaped hc (by omega)
  have sd := dT_shaped hd (by omega)
  refine ⟨_, (pss_cons (ps_if (PW.pt (pw_and (pt_not (pt_val (pe_callB call_isi (by rfl) T.isinstance b_isinstance (pa_cons (pv 0) (pa_cons (pe_bltn (v := .ty "tuple") (by rfl) T.tuple b_tuple rfl) pa_nil))))) (pw_and (pt_cmpR (op_eqD hu64) (pv 0) (pv 1) (nomark _)) (pw_and (pt_cmpR (op_eqD hu64) (pv 0) (pv 2) (nomark _)) (pw_and1 (pt_cmpR (op_eqD hu64) (pv 0) (pv 3) (nomark _))))))) (pss_one (ps_ret (pv 0))) pss_nil)
      (pss_one (ps_ret (pe_tup (pa_cons (pv 0) (pa_cons (pv 1) (pa_cons (pv 2) (pa_cons (pv 3) pa_nil)))))))), ?_⟩
  refine q_when (et_and (et_not (et_v (en_isN (en_var rfl h0)))) fun _ => et_and (et_n (en_eqD (en_var rfl h0) (en_var rfl h1) sa sb)) fun _ => et_and (et_n (en_eqD (en_var rfl h0) (en_var rfl h2) sa sc)) fun _ => et_n (en_eqD (en_var rfl h0) (en_var rfl h3) sa sd)) (fun g H1 e1 => ?_) (fun g H1 e1 => ?_)
  · cases a with
    | node => simp [isNd] at g
    | leaf z => exact s_retN (en_var rfl (h0.ex e1)) fun v H2 e2 hd' => k v H2 (.leaf z) (e1.trans e2) hd' (.leaf _ _) (by simp [QS.Tr.count]; omega)
  · exact s_retN (en_tup (eg_cons (en_var rfl (h0.ex e1)) (eg_cons (en_var rfl (h1.ex e1)) (eg_cons (en_var rfl (h2.ex e1)) (eg_cons (en_var rfl (h3.ex e1)) eg_nil))))) fun v H2 e2 hd' => k v H2 (.node a b c d) (e1.trans e2) hd' (.node ha hb hc hd) (Nat.le_refl _)
end
end QW
set_option autoImplicit true
set_option Elab.async false
set_option linter.all false
set_option maxRecDepth 100000
set_option maxHeartbeats 4000000
namespace QW
open PySem PySem.Spec PyProof.Rows L2 Evl QX
open QS (Qd Sd Tr Sq sqr Pt Way)
/-! ### values that are told by a property -/
def EvX (K : PySem.W.Frag) (te : TE) (σ : L2.St) (H : Hp) (Pd : PyData → Prop) : Prop := ∀ H1, Ex H H1 → ∀ Q : VK, (∀ v H2 d, Ex H1 H2 → Dn K H2 v d → Pd d → Q v H2) → te σ H1 Q
section
variable {K : PySem.W.Frag} {σ : L2.St} {H : Hp} {ta te : TE} {tr : TA} {Pd Pe : PyData → Prop} {tz : TS} {D : Ends} {d e : PyData} {ds : List PyData}
theorem EvN.x (h : EvN K te σ H d) (p : Pd d) : EvX K te σ H Pd := fun H1 a Q q => h H1 a Q fun v H2 a2 hd => q v H2 d a2 hd p
theorem ex_callG {sp : Sp} {Pr : List V → Hp → Prop} (h : EvG tr σ H Pr) (q : ∀ vs H1, Ex H H1 → Pr vs H1 → ∀ Q : VK, (∀ v H2 d, Ex H1 H2 → Dn K H2 v d → Pd d → Q v H2) → sp vs H1 Q E0) : EvX K (tCall sp [] E0 tr) σ H Pd := fun H1 a1 Q k =>
  h H1 a1 _ fun vs H2 a2 hP => by
    rw [List.append_nil]
    exact q vs H2 (a1.trans a2) hP _ fun v H3 d a3 hd p => k v H3 d (a2.trans a3) hd p
theorem q_setX {k : Nat} (h : EvX K te σ H Pd) (q : ∀ v H1 d, Ex H H1 → Dn K H1 v d → Pd d → tz D (σ.set k (some v)) H1) : tSeq (tAsg te (gName k)) tz D σ H := h H (Ex.refl H) _ fun v H1 d a hd p => q v H1 d a hd p
theorem s_setX {k : Nat} (h : EvX K te σ H Pd) (q : ∀ v H1 d, Ex H H1 → Dn K H1 v d → Pd d → D.nx (σ.set k (some v)) H1) : tAsg te (gName k) D σ H := h H (Ex.refl H) _ fun v H1 d a hd p => q v H1 d a hd p
theorem s_retX (h : EvX K te σ H Pd) (q : ∀ v H1 d, Ex H H1 → Dn K H1 v d → Pd d → D.rt v H1) : tRet te D σ H := h H (Ex.refl H) _ fun v H1 d a hd p => q v H1 d a hd p
theorem s_pushX {l : Addr} {ws : List V} (hl : H l = some (.lst ws)) (ha : Ev ta σ H (.ref l)) (h : EvX K te σ H Pd) (hz : ws.length < 10000000) (k : ∀ v H1 d, Ex H H1 → Dn K H1 v d → Pd d → D.nx σ (upd H1 l (.lst (ws ++ [v])))) :
    tDrop (tBM K "list" rAppend ta (tCons te tNil)) D σ H := ha H (Ex.refl H) _ fun H1 e1 =>
  ⟨.inl ⟨rfl, ws, sq_of (e1 l _ hl)⟩, h H1 e1 _ fun v H2 d e2 hv p => ⟨l, ws, v, rfl, rfl, e2 l _ (e1 l _ hl), Nat.lt_of_lt_of_le hz (by decide), k v H2 d (e1.trans e2) hv p⟩⟩
theorem q_pushX {l : Addr} {ws : List V} (hl : H l = some (.lst ws)) (ha : Ev ta σ H (.ref l)) (h : EvX K te σ H Pd) (hz : ws.length < 10000000) (k : ∀ v H1 d, Ex H H1 → Dn K H1 v d → Pd d → tz D σ (upd H1 l (.lst (ws ++ [v])))) :
    tSeq (tDrop (tBM K "list" rAppend ta (tCons te tNil))) tz D σ H := s_pushX (D := { D with nx := tz D }) hl ha h hz k
theorem ex_pair (h1 : EvX K ta σ H Pd) (h2 : ∀ H1, Ex H H1 → EvX K te σ H1 Pe) : EvX K (tTup (tCons ta (tCons te tNil))) σ H (fun z => ∃ d e, z = .tuple [d, e] ∧ Pd d ∧ Pe e) := fun H1 a Q q =>
  h1 H1 a _ fun v H2 d a2 hd p => h2 H2 (a.trans a2) H2 (Ex.refl _) _ fun u H3 e a3 he p' => ⟨sz_of (by simp), fun r hr => q _ _ _ ((a2.trans a3).trans (Ex.new hr)) (.tup (.inl upd_same) (.cons ((hd.ex a3).ex (Ex.new hr)) (.cons (he.ex (Ex.new hr)) .nil))) ⟨d, e, rfl, p, p'⟩⟩
theorem s_setLs {k : Nat} (h : EvLs K te σ H ds) (q : ∀ p vs H1, H p = none → Ex H H1 → H1 p = some (.lst vs) → DnAll K H1 vs ds → D.nx (σ.set k (some (.ref p))) H1) : tAsg te (gName k) D σ H := h H (Ex.refl H) _ fun p vs H1 np a hl hd => q p vs H1 np a hl hd
theorem eg_conX {Pr : List V → Hp → Prop} (h : EvX K te σ H Pd) (hr : EvG tr σ H Pr) : EvG (tCons te tr) σ H fun vs H' => ∃ v r d, vs = v :: r ∧ Dn K H' v d ∧ Pd d ∧ Pr r H' := fun H1 a Q q =>
  h H1 a _ fun v H2 d a2 hd p => hr H2 (a.trans a2) _ fun r H3 a3 hp => q _ H3 (a2.trans a3) ⟨v, r, d, rfl, hd.ex a3, p, hp⟩
/-- e == [] -/
theorem en_eqNil {l : Addr} {ws : List V} (h : Ev ta σ H (.ref l)) (hl : H l = some (.lst ws)) (hs : DnAll K H ws ds) (hsh : SeqAt.shaped (.list ds) = true) : EvN K (tOp (rEqD K) ta (tLst tNil)) σ H (.bool ds.isEmpty) := fun H1 a Q q =>
  h H1 a _ fun H2 a2 => ⟨Nat.zero_le _, fun p hp => by
    have e := (a.trans a2).trans (Ex.new (o := HO.lst []) hp)
    refine ⟨.list ds, .list [], .lst (.inl (.inl (e _ _ hl))) (hs.ex e).dp, .lst (.inl (.inl upd_same)) .nil, hsh, rfl, q _ _ (a2.trans (Ex.new hp)) ?_⟩
    rw [show PyData.eqv (.list ds) (.list []) = ds.isEmpty by cases ds <;> simp [PyData.eqv, PyData.eqvAll]]
    exact .bl _⟩
end
section
variable {K : PySem.W.Frag} {σ : L2.St} {H : Hp} {wi : TI} {g : TG} {tu tz : TS} {D : Ends} {m : List Addr}
/-- a loop told from the heap at its start -/
theorem s_forV {α : Type} {enc : α → PyData} {xs : List α} (h : EvIt K wi σ H m (xs.map enc)) (hm : Mu m H) (Pv : Hp → List α → L2.St → Hp → Prop) (h0 : ∀ H1, Ex H H1 → Pv H1 [] σ H1)
    (hs : ∀ H2, Ex H H2 → ∀ pre a post x σ' H' H'', xs = pre ++ a :: post → ExB m H2 H' → Pv H2 pre σ' H' → Ex H' H'' → Dn K H'' x (enc a) → ∀ N : L2.St → Hp → Prop, (∀ σ3 H3, ExB m H2 H3 → Pv H2 (pre ++ [a]) σ3 H3 → N σ3 H3) →
      g x σ' H'' fun σ2 H2 => tu { D with nx := N, ct := N, bk := D.nx } σ2 H2)
    (hd : ∀ H2, Ex H H2 → ∀ σ' H', ExB m H2 H' → Pv H2 xs σ' H' → D.nx σ' H') : tFor wi g tu D σ H := by
  refine h H (Ex.refl H) hm _ fun J G H2 a2 w stab => ?_
  rw [List.length_map] at w
  refine for_it w (fun i σ' H' => ExB m H2 H' ∧ Pv H2 (xs.take i) σ' H') ⟨ExB.refl _ _, h0 H2 a2⟩ (fun i σ' H' _ p => stab H' p.1) (fun i x σ' H' H'' hi p y => ?_) (fun σ' H' p => ?_)
  · obtain ⟨e, d, hdd, hx⟩ := y p.1
    rw [List.getElem?_map, List.getElem?_eq_getElem hi] at hdd
    cases hdd
    refine hs H2 a2 (xs.take i) xs[i] (xs.drop (i + 1)) x σ' H' H'' ?_ p.1 p.2 e hx _ fun σ3 H3 e3 p3 => ⟨e3, ?_⟩
    · rw [List.getElem_cons_drop, List.take_append_drop]
    · rw [List.take_add_one, List.getElem?_eq_getElem hi]
      exact p3
  · refine hd H2 a2 σ' H' p.1 ?_
    have := p.2
    rw [List.take_length] at this
    exact this
theorem q_forV {α : Type} {enc : α → PyData} {xs : List α} (h : EvIt K wi σ H m (xs.map enc)) (hm : Mu m H) (Pv : Hp → List α → L2.St → Hp → Prop) (h0 : ∀ H1, Ex H H1 → Pv H1 [] σ H1)
    (hs : ∀ H2, Ex H H2 → ∀ pre a post x σ' H' H'', xs = pre ++ a :: post → ExB m H2 H' → Pv H2 pre σ' H' → Ex H' H'' → Dn K H'' x (enc a) → ∀ N : L2.St → Hp → Prop, (∀ σ3 H3, ExB m H2 H3 → Pv H2 (pre ++ [a]) σ3 H3 → N σ3 H3) →
      g x σ' H'' fun σ2 H2 => tu { D with nx := N, ct := N, bk := tz D } σ2 H2)
    (hd : ∀ H2, Ex H H2 → ∀ σ' H', ExB m H2 H' → Pv H2 xs σ' H' → tz D σ' H') : tSeq (tFor wi g tu) tz D σ H := s_forV (D := { D with nx := tz D }) h hm Pv h0 hs hd
theorem ExB.updF {m : List Addr} {H H' : Hp} {l : Addr} {o : HO} (e : ExB m H H') (h : H l = none) : ExB m H (L2.upd H' l o) := fun a u n ha => by
  have z : a ≠ l := fun z => by rw [z, h] at ha; cases ha
  rw [upd_ne z]
  exact e a u n ha
end
def dPc (x : Cd × Int) : PyData := .tuple [dC x.1, .int x.2]
theorem cs_ok (c : Cd) : PyData.canLay0 (dC c) = true := by
  show (cs c).cps.all (fun x => decide (x < 0x110000)) = true
  rw [← Array.all_toList, cs_toList, List.all_map, List.all_eq_true]
  intro q _
  cases q <;> rfl
theorem pcs_shaped (l : List (Cd × Int)) : SeqAt.shaped (.list (l.map dPc)) = true := by
  have : PyData.canLayAll0 (l.map dPc) = true ∧ PyData.depthAll (l.map dPc) ≤ 1 := by
    induction l with
    | nil => exact ⟨rfl, by simp [PyData.depthAll]⟩
    | cons p r ih =>
      obtain ⟨h1, h2⟩ := ih
      have hc := cs_ok p.1
      rw [List.map_cons]
      refine ⟨by simp [PyData.canLayAll0, dPc, PyData.canLay0, h1, hc], ?_⟩
      simp [PyData.depthAll, dPc, PyData.depth, dC]; omega
  simp [SeqAt.shaped, PyData.canLay0, this.1, PyData.depth]; omega
def plen (l : List (Cd × Int)) : Nat := (l.map fun x => x.1.length).sum
theorem plen_split (q : Qd) : ∀ l : List (Cd × Int), plen ((l.filter fun x => decide (x.1.head? = some q)).map fun x => (x.1.drop 1, x.2)) + (l.filter fun x => decide (x.1.head? = some q)).length = plen (l.filter fun x => decide (x.1.head? = some q))
  | [] => rfl
  | x :: l => by
    have ih := plen_split q l
    by_cases h : x.1.head? = some q
    · rw [List.filter_cons_of_pos (by simpa using h)]
      have : 0 < x.1.length := by cases hx : x.1 with | nil => rw [hx] at h; simp at h | cons _ _ => simp
      simp only [plen, List.map_cons, List.sum_cons, List.length_cons, List.length_drop] at ih ⊢
      omega
    · rw [List.filter_cons_of_neg (by simpa using h)]; exact ih
theorem plen_four : ∀ l : List (Cd × Int), (∀ x ∈ l, x.1 ≠ []) → (qs4.map fun q => plen (l.filter fun x => decide (x.1.head? = some q))).sum = plen l ∧ (qs4.map fun q => (l.filter fun x => decide (x.1.head? = some q)).length).sum = l.length
  | [], _ => by simp [qs4, plen]
  | x :: l, h => by
    obtain ⟨h1, h2⟩ := plen_four l fun y hy => h y (by simp [hy])
    have hx := h x (by simp)
    cases hc : x.1 with
    | nil => exact absurd hc hx
    | cons q r =>
      have hh : x.1.head? = some q := by rw [hc]; rfl
      simp only [qs4, List.map_cons, List.map_nil, List.sum_cons, List.sum_nil] at h1 h2 ⊢
      have pl : plen (x :: l) = x.1.length + plen l := by simp [plen]
      rw [pl, List.length_cons]
      have f : ∀ z : Qd, z = q → plen ((x :: l).filter fun x => decide (x.1.head? = some z)) = x.1.length + plen (l.filter fun x => decide (x.1.head? = some z)) ∧ ((x :: l).filter fun x => decide (x.1.head? = some z)).length = 1 + (l.filter fun x => decide (x.1.head? = some z)).length := fun z hz => by
        rw [List.filter_cons_of_pos (by rw [hh, hz]; simp)]
        simp [plen, Nat.add_comm]
      have f2 : ∀ z : Qd, z ≠ q → plen ((x :: l).filter fun x => decide (x.1.head? = some z)) = plen (l.filter fun x => decide (x.1.head? = some z)) ∧ ((x :: l).filter fun x => decide (x.1.head? = some z)).length = (l.filter fun x => decide (x.1.head? = some z)).length := fun z hz => by
        rw [List.filter_cons_of_neg (by rw [hh]; simpa using Ne.symm hz)]
        exact ⟨rfl, rfl⟩
      cases q with
      | q0 => obtain ⟨a1, a2⟩ := f .q0 rfl; obtain ⟨b1, b2⟩ := f2 .q1 (by simp); obtain ⟨c1, c2⟩ := f2 .q2 (by simp); obtain ⟨d1, d2⟩ := f2 .q3 (by simp); omega
      | q1 => obtain ⟨a1, a2⟩ := f2 .q0 (by simp); obtain ⟨b1, b2⟩ := f .q1 rfl; obtain ⟨c1, c2⟩ := f2 .q2 (by simp); obtain ⟨d1, d2⟩ := f2 .q3 (by simp); omega
      | q2 => obtain ⟨a1, a2⟩ := f2 .q0 (by simp); obtain ⟨b1, b2⟩ := f2 .q1 (by simp); obtain ⟨c1, c2⟩ := f .q2 rfl; obtain ⟨d1, d2⟩ := f2 .q3 (by simp); omega
      | q3 => obtain ⟨a1, a2⟩ := f2 .q0 (by simp); obtain ⟨b1, b2⟩ := f2 .q1 (by simp); obtain ⟨c1, c2⟩ := f2 .q2 (by simp); obtain ⟨d1, d2⟩ := f .q3 rfl; omega
end QW
set_option autoImplicit true
set_option Elab.async false
set_option linter.all false
set_option maxRecDepth 100000
set_option maxHeartbeats 4000000
namespace QW
open PySem PySem.Spec PyProof.Rows L2 Evl QX
open QS (Qd Sd Tr Sq sqr Pt Way)
section
variable {P : Program} {w : World} {K : PySem.W.Frag} {mg : Str → Option Value} {base : Heap} {tM tS : Tok} {aS aF aW : Addr}
theorem Ca.mono {x : Str} {ps : List Str} {j k : Nat} {sp : Sp} (h : Ca P w K mg base x ps j sp) (hjk : j ≤ k) : Ca P w K mg base x ps k sp := by
  obtain ⟨f, fd, F, r⟩ := h
  exact ⟨f, fd, F.mono hjk, r⟩
def FitK (n k : Nat) (d : PyData) : Prop := ∃ t : Tr, d = dT t ∧ QS.Fits t n ∧ t.count ≤ k
abbrev s__law_tree_by : Stmt := top 55
abbrev N__law_tree_by : List Str := ["_law_paints_here", "_law_base", "_law_later", "_law_code_here", "_law_colour_here", "_law_trees", "_law_sign", "_law_some"]
abbrev P__law_tree_by : List Str := ["_law_paints_here"]
theorem sc__law_tree_by : FnScope N__law_tree_by P__law_tree_by (defScope s__law_tree_by) := ⟨rfl, rfl, rfl, by decide +kernel, rfl, by decide +kernel, by decide +kernel⟩
theorem nd__law_tree_by : N__law_tree_by.Nodup := sc__law_tree_by.nd
def sp__law_tree_by (K : PySem.W.Frag) (n : Nat) : Sp := fun vs H Q _ => ∃ (p : Addr) (ws : List V) (ps : List (Cd × Int)) (m : Nat), vs = [.ref p] ∧ H p = some (.lst ws) ∧ DnAll K H ws (ps.map dPc) ∧ m < n ∧ (∀ x ∈ ps, x.1.length ≤ m) ∧ m ≤ 40 ∧ ps.length + m ≤ 140 ∧
  ∀ v H' t, Ex H H' → Dn K H' v (dT t) → QS.Fits t m → t.count ≤ 1 + 3 * plen ps → Q v H'
theorem head_eq {c : Cd} {q r : Qd} {k : Cd} (h : c = r :: k) : decide ((⟨#[dg r]⟩ : Str) = cs [q]) = decide (c.head? = some q) := by
  rw [h]
  refine decide_eq_decide.mpr ⟨fun z => ?_, fun z => ?_⟩
  · have := cs_inj (a := [r]) (b := [q]) z
    simp at this; rw [this]; rfl
  · simp at z; rw [z]; rfl
def subP (q : Qd) (b : Int) (ls : List (Cd × Int)) : List (Cd × Int) := ([], b) :: ((ls.filter fun x => decide (x.1.head? = some q)).map fun x => (x.1.drop 1, x.2))
theorem subP_plen (q : Qd) (b : Int) (ls : List (Cd × Int)) : plen (subP q b ls) + (ls.filter fun x => decide (x.1.head? = some q)).length = plen (ls.filter fun x => decide (x.1.head? = some q)) := by
  have := plen_split q ls
  unfold subP
  simp only [plen, List.map_cons, List.sum_cons, List.length_nil] at this ⊢
  omega
theorem signs4 : signs "0123" = qs4.map fun q => .str (cs [q]) := rfl
theorem ok__law_tree_by (T : Txt K w mg tM tS aS aF aW) (F : Fd K mg "_law_tree_by" s__law_tree_by) (C__law_tree_of : Ca P w K mg base "_law_tree_of" P__law_tree_of 1 (sp__law_tree_of K)) : ∀ n, Ca P w K mg base "_law_tree_by" P__law_tree_by (n + 1) (sp__law_tree_by K n)
  | 0 => (F.never (fun _ _ _ _ _ _ us hl => match us, hl with | [_], _ => rfl) fun vs H Q E ⟨_, _, _, _, _, _, _, h, _⟩ => by omega).mono (Nat.zero_le _)
  | n + 1 => by
    have C__law_tree_by := ok__law_tree_by T F C__law_tree_of n
    refine F.mk sc__law_tree_by (fun _ _ _ _ _ _ us hl => match us, hl with | [_], _ => rfl) (fun vs H Q E ⟨_, _, _, _, e, _⟩ => by rw [e]; rfl) (fun f0 cdv A outer s H vs Q E hr h => ?_)
    obtain ⟨p, ws, ps, m, rfl, hp, hs, hmn, hlen, hm40, hps, k⟩ := h
    have hu64 := hr.units
    have C__law_tree_of := C__law_tree_of.mono (k := n + 1) (by omega)
    refine ⟨_, (pss_cons (ps_set (i := 1) nd__law_tree_by rfl (Or.inl rfl) pe_int)
      (pss_cons (ps_set (i := 2) nd__law_tree_by rfl (Or.inl rfl) (pe_lst pa_nil))
      (pss_cons (ps_for PassesOwn.never rfl (pi_list (pv 0)) (pg_tup (by rfl) (pgs_cons (pg_name (i := 3) nd__law_tree_by rfl (Or.inl rfl)) (pgs_cons (pg_name (i := 4) nd__law_tree_by rfl (Or.inl rfl)) pgs_nil))) (pss_one (ps_if (pt_cmpR op_eq (pv 3) pe_str (nomark _)) (pss_cons (ps_set (i := 1) nd__law_tree_by rfl (Or.inl rfl) (pv 4))
      (pss_one (ps_set (i := 2) nd__law_tree_by rfl (Or.inl rfl) (pe_lst pa_nil)))) (pss_one (ps_expr (pe_bm PySem.F.plainAttrs_list PySem.F.slot_list_append PySem.F.type_list_append mt_append (pv 2) (pa_cons (pe_tup (pa_cons (pv 3) (pa_cons (pv 4) pa_nil))) pa_nil)))))))
      (pss_cons (ps_if (pt_cmpR (op_eqD hu64) (pv 2) (pe_lst pa_nil) (nomark _)) (pss_one (ps_ret (pv 1))) pss_nil)
      (pss_cons (ps_set (i := 5) nd__law_tree_by rfl (Or.inl rfl) (pe_lst pa_nil))
      (pss_cons (ps_for PassesOwn.never rfl (pi_str pe_str) (pg_name (i := 6) nd__law_tree_by rfl (Or.inr rfl)) (pss_cons (ps_set (i := 7) nd__law_tree_by rfl (Or.inl rfl) (pe_op op_cat (pe_lst (pa_cons (pe_tup (pa_cons pe_str (pa_cons (pv 1) pa_nil))) pa_nil)) (pe_lc (own := [("_law_code_here", 3), ("_law_colour_here", 4)]) (g := gTup K 2 (gCons (gName 3) (gCons (gName 4) gNil))) rfl nd__law_tree_by (pi_list (pv 2)) (blkOk_by (own := [("_law_code_here", 3), ("_law_colour_here", 4)]) (N := N__law_tree_by) (sc := defScope s__law_tree_by) (by decide +kernel)) (fun _ _ _ _ _ => (pg_tup (by rfl) (pgs_cons (pg_name (i := 3) (nd__law_tree_by) rfl (Or.inl rfl)) (pgs_cons (pg_name (i := 4) (nd__law_tree_by) rfl (Or.inl rfl)) pgs_nil)))) (fun _ _ _ _ _ => pts_one (pt_cmpR op_eq (pe_ix ix_str (pv 3) pe_int (fun _ _ => rfl)) (pv 6) (nomark _))) (fun _ _ _ _ _ => (pe_tup (pa_cons (pe_slice sl_str (pv 3) (po_some pe_int) po_none) (pa_cons (pv 4) pa_nil)))))))
      (pss_one (ps_expr (pe_bm PySem.F.plainAttrs_list PySem.F.slot_list_append PySem.F.type_list_append mt_append (pv 5) (pa_cons (pe_caR C__law_tree_by hr (pa_cons (pv 7) pa_nil)) pa_nil))))))
      (pss_one (ps_ret (pe_caR C__law_tree_of hr (pa_cons (pe_ix ix_list (pv 5) pe_int (fun _ _ => rfl)) (pa_cons (pe_ix ix_list (pv 5) pe_int (fun _ _ => rfl)) (pa_cons (pe_ix ix_list (pv 5) pe_int (fun _ _ => rfl)) (pa_cons (pe_ix ix_list (pv 5) pe_int (fun _ _ => rfl)) pa_nil))))))))))))), ?_⟩
    refine q_set (K := K) en_int fun v1 H1 e1 d1 => ?_
    refine q_setL (K := K) (el_lst eg_nil) fun q ws0 H2 nq e2 hq hs0 => ?_
    have hw0 : ws0 = [] := by cases hs0; rfl
    subst hw0
    have e02 := e1.trans e2
    have nqH := fresh_back e1 nq
    have hpq : p ≠ q := fun z => by rw [z, nqH] at hp; cases hp
    refine q_forV (m := [q]) (α := Cd × Int) (enc := dPc) (xs := ps) (ei_list (ev_var rfl) (e02 _ _ hp) (hs.ex e02) (by simpa using hpq)) (.one hq)
      (fun Hb pre σ' H' => ∃ (o3 o4 : Option V) (l : Addr) (us : List V) (ls : List (Cd × Int)) (vb : V) (b : Int), σ' = [some (.ref p), some vb, some (.ref l), o3, o4, none, none, none] ∧ (l = q ∨ Hb l = none) ∧ H' l = some (.lst us) ∧ DnAll K H' us (ls.map dPc) ∧ Dn K H' vb (.int b) ∧ ls.length ≤ pre.length ∧ plen ls ≤ plen pre ∧ ∀ x ∈ ls, x.1 ≠ [] ∧ x ∈ ps)
      (fun H3 e3 => ⟨none, none, q, [], [], v1, 0, rfl, .inl rfl, e3 _ _ hq, .nil, (d1.ex e2).ex e3, Nat.le_refl _, Nat.le_refl _, fun x hx => nomatch hx⟩) (fun Hb eb pre x post xv σ' H' H'' hxs e pv e' hd N hN => ?_) (fun Hb eb σ' H' e pv => ?_)
    · obtain ⟨o3, o4, l, us, ls, vb, b, rfl, hl, hl', hus, hb, hll, hpl, hls⟩ := pv
      refine g_two hd fun w3 w4 d3 d4 => ?_
      have hpreL : pre.length < ps.length := by rw [hxs]; simp
      have hsnoc : plen (pre ++ [x]) = plen pre + x.1.length := by simp [plen]
      refine s_if (et_n (en_eqS (s := cs x.1) (u := "") (en_var rfl d3) en_str)) (fun g H3 e3 => ?_) (fun g H3 e3 => ?_)
      · refine q_set (K := K) (en_var rfl (d4.ex e3)) fun v5 H4 e4 d5 => ?_
        refine s_setLs (K := K) (el_lst eg_nil) fun l2 ws2 H5 nl e5 hl5 hs5 => ?_
        have hw2 : ws2 = [] := by cases hs5; rfl
        subst hw2
        have e35 := (e'.trans e3).trans (e4.trans e5)
        refine hN _ _ (e.trans (.of e35)) ⟨_, _, l2, [], [], v5, x.2, rfl, ?_, hl5, .nil, d5.ex e5, Nat.zero_le _, Nat.zero_le _, fun y hy => nomatch hy⟩
        by_cases hz2 : l2 = q
        · exact .inl hz2
        · refine .inr ?_
          cases hz : Hb l2 with
          | none => rfl
          | some o =>
            have h1 := e l2 o (by simpa using hz2) hz
            have h2 := (e'.trans (e3.trans e4)) _ _ h1
            rw [nl] at h2; cases h2
      · have g' : x.1 ≠ [] := fun z => by
          rw [z] at g
          exact absurd (show decide ((cs []) = ("" : Str)) = true by decide +kernel) (by rw [g]; simp)
        have hl3 := e3 _ _ (e' _ _ hl')
        refine s_push (K := K) (d := dPc x) hl3 (ev_var rfl) (en_tup (eg_cons (en_var rfl (d3.ex e3)) (eg_cons (en_var rfl (d4.ex e3)) eg_nil))) (by rw [hus.len, List.length_map]; omega) fun v4 H4 e4 hv => ?_
        have tk4 := lst_tk (o := .lst (us ++ [v4])) (e4 _ _ hl3)
        have e34 : ExB [q] Hb H4 := (e.trans (.of e')).trans (.of (e3.trans e4))
        refine hN _ _ ?_ ⟨_, _, l, us ++ [v4], ls ++ [x], vb, b, rfl, hl, upd_same, ?_, ((hb.ex e').ex (e3.trans e4)).keep tk4, by simp; omega, by simp only [plen, List.map_append, List.sum_append] at hpl hsnoc ⊢; simp at *; omega, fun y hy => ?_⟩
        · rcases hl with rfl | hl
          · exact e34.upd (by simp)
          · exact e34.updF hl
        · rw [List.map_append]
          exact ((hus.ex (e'.trans (e3.trans e4))).keep tk4).snoc (hv.keep tk4)
        · rcases List.mem_append.mp hy with hy | hy
          · exact hls y hy
          · simp at hy; subst hy; exact ⟨g', by rw [hxs]; simp⟩
    · obtain ⟨o3, o4, l, us, ls, vb, b, rfl, hl, hl', hus, hb, hll, hpl, hls⟩ := pv
      have eH : Ex H H' := ex_back (e02.trans eb) nqH e
      refine q_when (et_n (en_eqNil (ev_var rfl) hl' hus (pcs_shaped ls))) (fun g H3 e3 => ?_) (fun g H3 e3 => ?_)
      · exact s_retN (en_var rfl (hb.ex e3)) fun v H4 e4 hd => k v H4 (.leaf b) ((eH.trans e3).trans e4) hd (.leaf _ _) (by simp [QS.Tr.count])
      · have hlne : ls ≠ [] := fun z => by rw [z] at g; simp at g
        obtain ⟨x0, hx0⟩ := List.exists_mem_of_ne_nil ls hlne
        have hm1 : 1 ≤ m := by
          have h1 := hlen x0 (hls x0 hx0).2
          have h2 : 0 < x0.1.length := List.length_pos_iff.mpr (hls x0 hx0).1
          omega
        refine q_setL (K := K) (el_lst eg_nil) fun tr ws5 H4 nt e4 htr hs5 => ?_
        have hw5 : ws5 = [] := by cases hs5; rfl
        subst hw5
        have e34 := e3.trans e4
        have hl4 := e34 _ _ hl'
        have hltr : l ≠ tr := fun z => by rw [z] at hl'; rw [e3 _ _ hl'] at nt; cases nt
        have hus4 := hus.ex e34
        have hb4 := hb.ex e34
        refine q_for (m := [tr]) (α := Qd) (enc := fun q => .str (cs [q])) (xs := qs4) (by rw [← signs4]; exact ei_str (K := K) en_str) (.one htr)
          (fun pre σ' H' => ∃ (o6 o7 : Option V) (us5 : List V) (ts : List Tr), σ' = [some (.ref p), some vb, some (.ref l), o3, o4, some (.ref tr), o6, o7] ∧ H' tr = some (.lst us5) ∧ DnAll K H' us5 (ts.map dT) ∧ ts.length = pre.length ∧ (∀ t ∈ ts, QS.Fits t (m - 1)) ∧ (ts.map (·.count)).sum ≤ pre.length + 3 * (pre.map fun q => plen (subP q b ls)).sum)
          (fun H5 e5 => ⟨none, none, [], [], rfl, e5 _ _ htr, .nil, rfl, fun _ z => (nomatch z), Nat.zero_le _⟩) (fun pre q2 post xv σ' H5 H6 hxs5 e5 pv e6 hd5 N hN => ?_) (fun σ' H5 e5 pv => ?_)
        · obtain ⟨o6, o7, us5, ts, rfl, htr5, hts, htl, hfit, hcnt⟩ := pv
          have tk6 : TKp H4 H6 := (e5.tk (.one htr)).trans (.ex e6)
          have hl6 : H6 l = some (.lst us) := e6 _ _ (e5 l _ (by simpa using hltr) hl4)
          have hus6 := hus4.keep tk6
          have hb6 := hb4.keep tk6
          have hlc := el_lc (K := K) (σ := [some (.ref p), some vb, some (.ref l), o3, o4, some (.ref tr), some xv, o7]) (H := H6) (wi := iList K (tVar 2)) (g := gTup K 2 (gCons (gName 3) (gCons (gName 4) gNil))) (tt := tTest (tOp rEq (tOp rIxS (tVar 3) (tC (.int 0))) (tVar 6)))
            (te := tTup (tCons (tSl rSlS (tVar 3) (tPart (tC (.int 1))) tNoPart) (tCons (tVar 4) tNil))) (vs := [3, 4]) (xs := ls) (enc := dPc) (fun x => decide (x.1.head? = some q2)) (fun x => dPc (x.1.drop 1, x.2)) (ei_list (ev_var rfl) hl6 hus6 (by simp)) (by omega)
            (fun x y H'' hx ex hy M hM => g_two hy fun v1 v2 d1 d2 => by
              obtain ⟨r, kk, hc⟩ : ∃ r kk, x.1 = r :: kk := by
                cases hc : x.1 with
                | nil => exact absurd hc (hls x hx).1
                | cons r kk => exact ⟨r, kk, rfl⟩
              have hcl : x.1.length ≤ 40 := Nat.le_trans (hlen x (hls x hx).2) hm40
              refine hM _ rfl (et_is (et_n (en_eqS (en_sign (i := 0) (q := r) (en_var rfl d1) en_int rfl (by omega) (by rw [hc]; rfl)) (en_var rfl (hd5.ex ex)))) (head_eq hc)) fun _ => ?_
              exact en_tup (eg_cons ((en_cut (lo := some 1) (hi := none) (en_var rfl d1) (eo_some (en_int : EvN K _ _ _ _).vi) eo_none (by rw [cs_len]; omega)).cast (e := dC (x.1.drop 1)) (by rw [show (some (1 : Int)) = some ((1 : Nat) : Int) from rfl, cut_from x.1 1 (by rw [hc]; simp)]; rfl)) (eg_cons (en_var rfl d2) eg_nil)))
          have hcat := el_cat (ta := tLst (tCons (tTup (tCons (tC (.str "")) (tCons (tVar 1) tNil))) tNil)) (ps := [dPc ([], b)]) (el_lst (K := K) (eg_cons (en_tup (eg_cons (d := dC []) (en_str (s := "")) (eg_cons (en_var rfl hb6) eg_nil))) eg_nil)) hlc (by
            have := List.length_filter_le (fun x : Cd × Int => decide (x.1.head? = some q2)) ls
            simp only [List.length_cons, List.length_nil, List.length_map]; omega)
          refine q_setL hcat fun sm ws7 H7 ns e7 hsm hs7 => ?_
          have hs7' : DnAll K H7 ws7 ((subP q2 b ls).map dPc) := by
            unfold subP; rw [List.map_cons, List.map_map]; exact hs7
          have hsubl : (subP q2 b ls).length + (m - 1) ≤ 140 := by
            have := List.length_filter_le (fun x : Cd × Int => decide (x.1.head? = some q2)) ls
            unfold subP
            simp only [List.length_cons, List.length_map]
            omega
          refine s_pushX (K := K) (Pd := FitK (m - 1) (1 + 3 * plen (subP q2 b ls))) (e7 _ _ (e6 _ _ htr5)) (ev_var rfl) (ex_callG (eg_one (ev_var rfl)) fun vs8 H8 e8 hp8 Q8 k8 => ?_) (by rw [hts.len, List.length_map, htl]; have := congrArg List.length hxs5; simp [qs4] at this; omega) fun v8 H8 d8 e8 hd8 hP8 => ?_
          · subst hp8
            refine ⟨sm, ws7, subP q2 b ls, m - 1, rfl, e8 _ _ hsm, hs7'.ex e8, by omega, fun y hy => ?_, by omega, hsubl, fun v H9 t e9 hd9 hf9 hc9 => k8 v H9 _ e9 hd9 ⟨t, rfl, hf9, hc9⟩⟩
            rcases List.mem_cons.mp hy with rfl | hy
            · exact Nat.zero_le _
            · obtain ⟨z, hz, rfl⟩ := List.mem_map.mp hy
              have h1 := hlen z (hls z (List.mem_filter.mp hz).1).2
              show (z.1.drop 1).length ≤ _
              rw [List.length_drop]; omega
          · obtain ⟨t, rfl, hf8, hc8⟩ := hP8
            have htr8 := e8 _ _ (e7 _ _ (e6 _ _ htr5))
            have tk8 := lst_tk (o := .lst (us5 ++ [v8])) htr8
            refine hN _ _ ((ExB.of (e7.trans e8)).upd (by simp)) ⟨_, _, us5 ++ [v8], ts ++ [t], rfl, upd_same, ?_, by simp [htl], fun y hy => ?_, ?_⟩
            · rw [List.map_append]
              exact (((hts.ex e6).ex (e7.trans e8)).keep tk8).snoc (hd8.keep tk8)
            · rcases List.mem_append.mp hy with hy | hy
              · exact hfit y hy
              · simp at hy; subst hy; exact hf8
            · simp only [List.map_append, List.sum_append, List.length_append, List.map_cons, List.map_nil, List.sum_cons, List.sum_nil, List.length_cons, List.length_nil]
              omega
        · obtain ⟨o6, o7, us5, ts, rfl, htr5, hts, htl, hfit, hcnt⟩ := pv
          obtain ⟨t0, t1, t2, t3, rfl⟩ : ∃ t0 t1 t2 t3, ts = [t0, t1, t2, t3] := by
            match ts, htl with
            | [a, b, c, d], _ => exact ⟨a, b, c, d, rfl⟩
          have gt : ∀ (i : Nat) (t : Tr), ([t0, t1, t2, t3])[i]? = some t → EvN K (tOp (rIxL K) (tVar 5) (tC (.int (i : Int)))) [some (.ref p), some vb, some (.ref l), o3, o4, some (.ref tr), o6, o7] H5 (dT t) := fun i t hi => en_ixL (ev_var rfl) (.inl (.inl htr5)) en_int hts (by omega) (by rw [Int.toNat_natCast, List.getElem?_map, hi]; rfl)
          have e05 : Ex H H5 := ex_back (eH.trans e34) (fresh_back (eH.trans e3) nt) e5
          refine s_retX (K := K) (Pd := FitK m (1 + 3 * plen ps)) (ex_callG (eg_conN (gt 0 t0 rfl) (eg_conN (gt 1 t1 rfl) (eg_conN (gt 2 t2 rfl) (eg_conN (gt 3 t3 rfl) eg_nil')))) fun vs8 H8 e8 hp8 Q8 k8 => ?_) fun v H9 d e9 hd9 hP => ?_
          · obtain ⟨w0, r0, rfl, h0, w1, r1, rfl, h1, w2, r2, rfl, h2, w3, r3, rfl, h3, rfl⟩ := hp8
            refine ⟨t0, t1, t2, t3, m - 1, .cons h0 (.cons h1 (.cons h2 (.cons h3 .nil))), hfit t0 (by simp), hfit t1 (by simp), hfit t2 (by simp), hfit t3 (by simp), by omega, fun v H9 t e9 hd9 hf9 hc9 => k8 v H9 _ e9 hd9 ⟨t, rfl, by rw [show m - 1 + 1 = m by omega] at hf9; exact hf9, ?_⟩⟩
            obtain ⟨p1, p2⟩ := plen_four ls fun y hy => (hls y hy).1
            have q0 := subP_plen .q0 b ls; have q1 := subP_plen .q1 b ls; have q2 := subP_plen .q2 b ls; have q3 := subP_plen .q3 b ls
            have hlp : 0 < ls.length := List.length_pos_iff.mpr hlne
            simp only [qs4, List.map_cons, List.map_nil, List.sum_cons, List.sum_nil, List.length_cons, List.length_nil] at hcnt p1 p2
            omega
          · obtain ⟨t, rfl, hf9, hc9⟩ := hP
            exact k v H9 t (e05.trans e9) hd9 hf9 hc9
end
end QW
set_option autoImplicit true
set_option Elab.async false
set_option linter.all false
set_option maxRecDepth 100000
set_option maxHeartbeats 4000000
namespace QW
open PySem PySem.Spec PyProof.Rows L2 Evl QX
open QS (Qd Sd Tr Sq sqr Pt Way)
section
variable {P : Program} {w : World} {K : PySem.W.Frag} {mg : Str → Option Value} {base : Heap} {tM tS : Tok} {aS aF aW : Addr}
theorem rg2_all : ∀ h : Fin 16, (Builtin.Range.small 1 (h.val : Int) 2 = true ∧ Builtin.Range.rangeSize 1 (h.val : Int) 2 = h.val / 2) ∧ (Builtin.Range.small 0 (h.val : Int) 2 = true ∧ Builtin.Range.rangeSize 0 (h.val : Int) 2 = (h.val + 1) / 2) := by decide +kernel
theorem rg2_one {n : Nat} (h : n < 16) : RgC 1 (n : Int) 2 (n / 2) := ⟨by decide, by decide, (rg2_all ⟨n, h⟩).1.1, (rg2_all ⟨n, h⟩).1.2⟩
theorem rg2_nil {n : Nat} (h : n < 16) : RgC 0 (n : Int) 2 ((n + 1) / 2) := ⟨by decide, by decide, (rg2_all ⟨n, h⟩).2.1, (rg2_all ⟨n, h⟩).2.2⟩
theorem ex_colour {σ : L2.St} {H : Hp} {te : TE} {i : Int} (h : EvN K te σ H (.int i)) : EvX K (tCall (sp__law_colour K) [] E0 (tCons te tNil)) σ H (fun d => ∃ j : Int, d = .int j) :=
  ex_callG (eg_conN h eg_nil') fun vs H1 e1 hp Q q => by
    obtain ⟨v, r, rfl, hv, rfl⟩ := hp
    exact ⟨i, v, rfl, hv, fun v' H' j e hd => q v' H' _ e hd ⟨j, rfl⟩⟩
theorem ex_code {σ : L2.St} {H : Hp} {te tf : TE} {i : Int} {n : Nat} (h : EvN K te σ H (.int i)) (h2 : EvN K tf σ H (.int n)) (hn : n ≤ 40) : EvX K (tCall (sp__law_code K) [] E0 (tCons te (tCons tf tNil))) σ H (fun d => ∃ c : Cd, d = dC c ∧ c.length = n) :=
  ex_callG (eg_conN h (eg_conN h2 eg_nil')) fun vs H1 e1 hp Q q => by
    obtain ⟨v, r, rfl, hv, u, s, rfl, hu, rfl⟩ := hp
    exact ⟨i, n, v, u, rfl, hv, hu, hn, fun v' H' c e hd hc => q v' H' _ e hd ⟨c, rfl, hc⟩⟩
theorem EvX.of {σ : L2.St} {H : Hp} {te : TE} {Pd : PyData → Prop} {d : PyData} (h : EvN K te σ H d) (p : Pd d) : EvX K te σ H Pd := h.x p
theorem ex_addS {σ : L2.St} {H : Hp} {ta te : TE} {c : Cd} {n : Nat} (h : EvN K ta σ H (dC c)) (h2 : EvX K te σ H (fun d => ∃ c : Cd, d = dC c ∧ c.length = n)) (hl : c.length + n ≤ 100000) : EvX K (tOp (fun x y H Q => ∃ i j, x = .str i ∧ y = .str j ∧ i.length + j.length ≤ sizeLine ∧ Q (.str (i ++ j)) H) ta te) σ H (fun d => ∃ e : Cd, d = dC e ∧ e.length = c.length + n) := fun H1 a Q q =>
  h.vs H1 a _ fun H2 a2 => h2 H2 (a.trans a2) _ fun v H3 d a3 hd hp => by
    obtain ⟨c2, rfl, hc⟩ := hp
    cases hd with
    | str s => exact ⟨_, _, rfl, rfl, by rw [cs_len, cs_len, hc]; exact Nat.le_trans hl (by decide), q _ _ (dC (c ++ c2)) (a2.trans a3) (by rw [show dC (c ++ c2) = .str (cs c ++ cs c2) by rw [← cs_app]; rfl]; exact .str _) ⟨_, rfl, by rw [List.length_append, hc]⟩⟩
theorem q_join {t : TT} {tu tw tz : TS} {D : Ends} {σ : L2.St} {H : Hp} (R : L2.St → Hp → Prop) (hr : ∀ σ' H', R σ' H' → tz D σ' H') (h : ∀ N : L2.St → Hp → Prop, (∀ σ' H', R σ' H' → N σ' H') → tIfS t tu tw { D with nx := N } σ H) : tSeq (tIfS t tu tw) tz D σ H := h _ hr
abbrev s__law_paints : Stmt := top 52
abbrev N__law_paints : List Str := ["_law_script", "_law_first", "_law_most", "_law_level", "_law_paints_here", "_law_code_here", "_law_at_here", "_law_cell", "_law_keep"]
abbrev P__law_paints : List Str := ["_law_script", "_law_first", "_law_most", "_law_level"]
theorem sc__law_paints : FnScope N__law_paints P__law_paints (defScope s__law_paints) := ⟨rfl, rfl, rfl, by decide +kernel, rfl, by decide +kernel, by decide +kernel⟩
theorem nd__law_paints : N__law_paints.Nodup := sc__law_paints.nd
def sp__law_paints (K : PySem.W.Frag) : Sp := fun vs H Q _ => ∃ (p : Addr) (ns : List Int) (v1 v2 v3 : V) (most level : Nat), vs = [.ref p, v1, v2, v3] ∧ Scr K H p ns ∧ Dn K H v1 (.int 1) ∧ Dn K H v2 (.int most) ∧ Dn K H v3 (.int level) ∧ most ≤ 5 ∧ level ≤ 40 ∧
  ∀ (q : Addr) (H' : Hp) (ws : List V) (ps : List (Cd × Int)), H q = none → Ex H H' → H' q = some (.lst ws) → DnAll K H' ws (ps.map dPc) → ps.length ≤ most → (∀ x ∈ ps, x.1.length ≤ level) → Q (.ref q) H'
theorem ok__law_paints (T : Txt K w mg tM tS aS aF aW) (F : Fd K mg "_law_paints" s__law_paints) (C__law_at : Ca P w K mg base "_law_at" P__law_at 1 (sp__law_at K)) (C__law_colour : Ca P w K mg base "_law_colour" P__law_colour 1 (sp__law_colour K)) (C__law_code : Ca P w K mg base "_law_code" P__law_code 1 (sp__law_code K)) : Ca P w K mg base "_law_paints" P__law_paints 2 (sp__law_paints K) := by
  refine F.mk sc__law_paints (fun _ _ _ _ _ _ us hl => match us, hl with | [_, _, _, _], _ => rfl) (fun vs H Q E ⟨_, _, _, _, _, _, _, e, _⟩ => by rw [e]; rfl) (fun f0 cdv A outer s H vs Q E hr h => ?_)
  obtain ⟨p, ns, v1, v2, v3, most, level, rfl, hs, h1, h2, h3, hm, hL, k⟩ := h
  refine ⟨_, (pss_cons (ps_set (i := 4) nd__law_paints rfl (Or.inl rfl) (pe_lst pa_nil))
      (pss_cons (ps_set (i := 5) nd__law_paints rfl (Or.inl rfl) pe_str)
      (pss_cons (ps_for PassesOwn.never rfl (pi_range3 (by rfl) T.range (pa_cons (pv 1) (pa_cons (pe_callB (call_min2 rfl) (by rfl) T.min b_min (pa_cons (pe_callB call_len_seq (by rfl) T.len b_len (pa_cons (pv 0) pa_nil)) (pa_cons (pe_op op_add (pv 1) (pe_op op_mul pe_int (pv 2))) pa_nil))) (pa_cons pe_int pa_nil)))) (pg_name (i := 6) nd__law_paints rfl (Or.inl rfl)) (pss_cons (ps_set (i := 7) nd__law_paints rfl (Or.inl rfl) (pe_ca C__law_at hr (pa_cons (pv 0) (pa_cons (pv 6) pa_nil))))
      (pss_cons (ps_set (i := 8) nd__law_paints rfl (Or.inl rfl) (pe_op op_mod (pe_op op_fdiv (pv 7) pe_int) (pe_op op_add (pe_callB call_len_str (by rfl) T.len b_len (pa_cons (pv 5) pa_nil)) pe_int)))
      (pss_cons (ps_if (pt_cmpR op_eq (pe_op op_mod (pv 7) pe_int) pe_int (nomark _)) (pss_one (ps_set (i := 5) nd__law_paints rfl (Or.inl rfl) (pe_slice sl_str (pv 5) po_none (po_some (pv 8))))) (pss_one (ps_if (pt_cmpR op_eq (pe_op op_mod (pv 7) pe_int) pe_int (nomark _)) (pss_one (ps_set (i := 5) nd__law_paints rfl (Or.inl rfl) (pe_op op_add_str (pe_op op_add_str (pe_slice sl_str (pv 5) po_none (po_some (pv 8))) (pe_ix ix_str pe_str (pe_op op_mod (pe_op op_fdiv (pv 7) pe_int) pe_int) (fun _ _ => rfl))) (pe_slice sl_str (pv 5) (po_some (pe_op op_add (pv 8) pe_int)) po_none)))) (pss_one (ps_set (i := 5) nd__law_paints rfl (Or.inl rfl) (pe_op op_add_str (pe_slice sl_str (pv 5) po_none (po_some (pv 8))) (pe_ca C__law_code hr (pa_cons (pe_op op_fdiv (pv 7) pe_int) (pa_cons (pe_op op_mod (pe_op op_fdiv (pv 7) pe_int) (pe_op op_add (pv 3) pe_int)) pa_nil)))))))))
      (pss_cons (ps_set (i := 5) nd__law_paints rfl (Or.inl rfl) (pe_slice sl_str (pv 5) po_none (po_some (pv 3))))
      (pss_one (ps_expr (pe_bm PySem.F.plainAttrs_list PySem.F.slot_list_append PySem.F.type_list_append mt_append (pv 4) (pa_cons (pe_tup (pa_cons (pv 5) (pa_cons (pe_ca C__law_colour hr (pa_cons (pe_ca C__law_at hr (pa_cons (pv 0) (pa_cons (pe_op op_add (pv 6) pe_int) pa_nil))) pa_nil)) pa_nil))) pa_nil)))))))))
      (pss_one (ps_ret (pv 4)))))), ?_⟩
  refine q_setL (K := K) (el_lst eg_nil) fun q ws0 H1 nq e1 hq hs0 => ?_
  have hw0 : ws0 = [] := by cases hs0; rfl
  subst hw0
  refine q_set (K := K) (d := dC []) (en_str (s := "")) fun v5 H2 e2 d5 => ?_
  have e02 := e1.trans e2
  have hq2 := e2 _ _ hq
  have hs2 := hs.ex e02
  have hns := hs.2
  have hlen : EvN K (tCB (rLenS K) (tCons (tVar 0) tNil)) [some (.ref p), some v1, some v2, some v3, some (.ref q), some v5, none, none, none] H2 (.int ns.length) := (ei (ev_len (ev_var rfl) hs2.1)).cast (by rw [List.length_map])
  refine q_for (m := [q]) (α := Nat) (enc := fun i => .int (1 + (i : Int) * 2)) (xs := List.range (min ns.length (1 + 2 * most) / 2)) (ei_range3 (lo := 1) (hi := ((min ns.length (1 + 2 * most) : Nat) : Int)) (c := 2) (eg_cons (en_var rfl (h1.ex e02)) (eg_cons ((en_min hlen (en_op0 (en_var rfl (h1.ex e02)) (en_opC en_int (en_var rfl (h2.ex e02)) (.inl ⟨by omega, by omega⟩)))).cast (by congr 1; omega)) (eg_cons en_int eg_nil))) (rg2_one (by omega))) (.one hq2)
    (fun pre σ' H' => ∃ (o6 o7 o8 : Option V) (ws : List V) (vc : V) (c : Cd) (ps : List (Cd × Int)), σ' = [some (.ref p), some v1, some v2, some v3, some (.ref q), some vc, o6, o7, o8] ∧ H' q = some (.lst ws) ∧ DnAll K H' ws (ps.map dPc) ∧ ps.length = pre.length ∧ Dn K H' vc (dC c) ∧ c.length ≤ level ∧ ∀ x ∈ ps, x.1.length ≤ level)
    (fun H3 e3 => ⟨none, none, none, [], v5, [], [], rfl, e3 _ _ hq2, .nil, rfl, d5.ex e3, Nat.zero_le _, fun _ z => nomatch z⟩) (fun pre j post xv σ' H' H'' hxs e pv e' hd N hN => ?_) (fun σ' H' e pv => ?_)
  · obtain ⟨o6, o7, o8, ws, vc, c, ps, rfl, hq', hws, hpl, hc, hcl, hpc⟩ := pv
    obtain ⟨hj, hjn, _⟩ := range_split hxs
    have tk : TKp H2 H'' := (e.tk (.one hq2)).trans (.ex e')
    have hs'' : Scr K H'' p ns := hs.ex ((ex_back e02 nq e).trans e')
    have h3' := (h3.ex e02).keep tk
    refine q_set (en_at (ev_var rfl) hs'' (en_var rfl hd) (by omega)) fun v7 H4 e4 d7 => ?_
    have hc4 := hc.ex (e'.trans e4)
    refine q_set (en_opC (en_opC (en_var rfl d7) en_int ⟨by decide, by decide⟩) (en_op0 ((en_lenS (en_var rfl hc4) (by rw [cs_len]; omega)).cast (by rw [cs_len])) en_int) (by show (0 : Int) < _; omega)) fun v8 H5 e5 d8 => ?_
    have hkz : ∃ kk : Nat, nthI ns (1 + (j : Int) * 2) / 4 % ((c.length : Int) + 1) = (kk : Int) ∧ kk ≤ c.length := by
      have hp : (0 : Int) < (c.length : Int) + 1 := by omega
      have a1 := Int.emod_nonneg (nthI ns (1 + (j : Int) * 2) / 4) (b := (c.length : Int) + 1) (by omega)
      have a2 := Int.emod_lt_of_pos (nthI ns (1 + (j : Int) * 2) / 4) hp
      exact ⟨(nthI ns (1 + (j : Int) * 2) / 4 % ((c.length : Int) + 1)).toNat, by omega, by omega⟩
    obtain ⟨kk, hkk, hkl⟩ := hkz
    rw [hkk] at d8
    have e45 := e4.trans e5
    have hc5 := hc.ex (e'.trans e45)
    have d75 := d7.ex e5
    refine q_join (fun σ6 H6 => ∃ (v6 : V) (c6 : Cd), σ6 = [some (.ref p), some v1, some v2, some v3, some (.ref q), some v6, some xv, some v7, some v8] ∧ Ex H5 H6 ∧ Dn K H6 v6 (dC c6) ∧ c6.length ≤ 1000) (fun σ6 H6 hR => ?_) (fun N' hN' => ?_)
    · obtain ⟨v6, c6, rfl, e6, d6, hl6⟩ := hR
      refine q_set (en_cut (lo := none) (hi := some ((level : Nat) : Int)) (en_var rfl d6) eo_none (eo_some ((en_var rfl (h3'.ex (e45.trans e6))) : EvN K _ _ _ _).vi) (by rw [cs_len]; omega)) fun v9 H7 e7 d9 => ?_
      obtain ⟨c9, hc9, hl9, hn9⟩ := cut_any c6 none (some ((level : Nat) : Int))
      rw [hc9] at d9
      have e47 := (e45.trans e6).trans e7
      have hq7 := e47 _ _ (e' _ _ hq')
      refine s_pushX (K := K) hq7 (ev_var rfl) (ex_pair (EvX.of (d := dC c9) (Pd := fun d => d = dC c9) (en_var rfl d9) rfl) fun H8 e8 => ex_colour (en_at (ev_var rfl) (hs''.ex (e47.trans e8)) (en_op0 (en_var rfl (hd.ex (e47.trans e8))) en_int) (by omega))) (by rw [hws.len, List.length_map]; omega) fun v10 H8 d10 e8 hd10 hp10 => ?_
      obtain ⟨_, _, rfl, rfl, jj, rfl⟩ := hp10
      have tk8 := lst_tk (o := .lst (ws ++ [v10])) (e8 _ _ hq7)
      refine hN _ _ ((ExB.of (e47.trans e8)).upd (by simp)) ⟨_, _, _, ws ++ [v10], v9, c9, ps ++ [(c9, jj)], rfl, upd_same, ?_, by simp [hpl], (d9.ex e8).keep tk8, hn9 level rfl rfl, fun y hy => ?_⟩
      · rw [List.map_append]
        exact ((hws.ex (e'.trans (e47.trans e8))).keep tk8).snoc (hd10.keep tk8)
      · rcases List.mem_append.mp hy with hy | hy
        · exact hpc y hy
        · simp at hy; subst hy; exact hn9 level rfl rfl
    · have cutA : ∀ H6, Ex H5 H6 → EvN K (tSl rSlS (tVar 5) tNoPart (tPart (tVar 8))) [some (.ref p), some v1, some v2, some v3, some (.ref q), some vc, some xv, some v7, some v8] H6 (dC (c.take kk)) := fun H6 e6 =>
        (en_cut (lo := none) (hi := some ((kk : Nat) : Int)) (en_var rfl (hc5.ex e6)) eo_none (eo_some ((en_var rfl (d8.ex e6)) : EvN K _ _ _ _).vi) (by rw [cs_len]; omega)).cast (by rw [cut_to _ _ hkl]; rfl)
      have hkt : (c.take kk).length ≤ 40 := by rw [List.length_take]; omega
      refine s_if (et_n (en_eqI (en_opC (en_var rfl d75) en_int (by decide)) en_int)) (fun g H6 e6 => ?_) (fun g H6 e6 => ?_)
      · exact s_setN (cutA H6 e6) fun v6 H7 e7 d6 => hN' _ _ ⟨v6, _, rfl, e6.trans e7, d6, by omega⟩
      · refine s_if (et_n (en_eqI (en_opC (en_var rfl (d75.ex e6)) en_int (by decide)) en_int)) (fun g H7 e7 => ?_) (fun g H7 e7 => ?_)
        · obtain ⟨qd, hqd⟩ := qd_of (nthI ns (1 + (j : Int) * 2) / 164)
          obtain ⟨c9, hc9, hl9, _⟩ := cut_any c (some ((kk : Int) + 1)) none
          have e67 := e6.trans e7
          refine s_setN (EvN.cast (e := dC (c.take kk ++ [qd] ++ c9)) (en_addS (en_addS (cutA H7 e67) (en_dig hqd (en_opC (en_opC (en_var rfl (d75.ex e67)) en_int ⟨by decide, by decide⟩) en_int (by decide))) (by rw [cs_len, cs_len]; simp; omega)) (en_cut (lo := some ((kk : Int) + 1)) (hi := none) (en_var rfl (hc5.ex e67)) (eo_some ((en_op0 (en_var rfl (d8.ex e67)) en_int) : EvN K _ _ _ _).vi) eo_none (by rw [cs_len]; omega)) (by rw [← cs_app, hc9, cs_len, cs_len]; simp; omega)) (by rw [← cs_app, hc9, ← cs_app]; rfl)) fun v6 H8 e8 d6 => hN' _ _ ⟨v6, _, rfl, e67.trans e8, d6, by simp; omega⟩
        · have e67 := e6.trans e7
          have hz : ∃ zz : Nat, nthI ns (1 + (j : Int) * 2) / 7 % ((level : Int) + 1) = (zz : Int) ∧ zz ≤ 40 := by
            have a1 := Int.emod_nonneg (nthI ns (1 + (j : Int) * 2) / 7) (b := (level : Int) + 1) (by omega)
            have a2 := Int.emod_lt_of_pos (nthI ns (1 + (j : Int) * 2) / 7) (b := (level : Int) + 1) (by omega)
            exact ⟨(nthI ns (1 + (j : Int) * 2) / 7 % ((level : Int) + 1)).toNat, by omega, by omega⟩
          obtain ⟨zz, hzz, hzl⟩ := hz
          have hm2 : EvN K (tOp (rI (fun _ j => 0 < j) fun i j => .int (i % j)) (tOp (rI CDiv fun i j => .int (i / j)) (tVar 7) (tC (.int 7))) (tOp (rI0 fun i j => .int (i + j)) (tVar 3) (tC (.int 1)))) [some (.ref p), some v1, some v2, some v3, some (.ref q), some vc, some xv, some v7, some v8] H7 (.int zz) := (en_opC (en_opC (en_var rfl (d75.ex e67)) en_int ⟨by decide, by decide⟩) (en_op0 (en_var rfl (h3'.ex (e45.trans e67))) en_int) (by show (0 : Int) < _; omega)).cast (by rw [hzz])
          refine s_setX (ex_addS (n := zz) (cutA H7 e67) (ex_code (en_opC (en_var rfl (d75.ex e67)) en_int ⟨by decide, by decide⟩) hm2 hzl) (by omega)) fun v6 H8 d6 e8 hd6 hp6 => ?_
          obtain ⟨c6, rfl, hc6⟩ := hp6
          exact hN' _ _ ⟨v6, c6, rfl, e67.trans e8, hd6, by omega⟩
  · obtain ⟨o6, o7, o8, ws, vc, c, ps, rfl, hq', hws, hpl, hc, hcl, hpc⟩ := pv
    rw [List.length_range] at hpl
    exact s_ret (ev_var rfl) fun H4 e4 => k q H4 ws ps nq ((ex_back e02 nq e).trans e4) (e4 _ _ hq') (hws.ex e4) (by omega) hpc
end
end QW
set_option autoImplicit true
set_option Elab.async false
set_option linter.all false
set_option maxRecDepth 100000
set_option maxHeartbeats 4000000
namespace QW
open PySem PySem.Spec PyProof.Rows L2 Evl QX
open QS (Qd Sd Tr Sq sqr Pt Way pw)
section
variable {P : Program} {w : World} {K : PySem.W.Frag} {mg : Str → Option Value} {base : Heap} {tM tS : Tok} {aS aF aW : Addr}
theorem en_b2i {σ : L2.St} {H : Hp} {te : TE} {b : Bool} (h : EvN K te σ H (.bool b)) : EvN K (tCB (fun xs H Q => (∃ i, xs = [.int i] ∧ Q (.int i) H) ∨ ∃ k, xs = [.bl k] ∧ Q (.int (if k then 1 else 0)) H) (tCons te tNil)) σ H (.int (if b then 1 else 0)) := fun H1 a Q q =>
  h.vb H1 a _ fun H2 a2 => .inr ⟨b, rfl, q _ H2 a2 (.int _)⟩
theorem en_max3 {σ : L2.St} {H : Hp} {ta tb tc : TE} {i j k : Int} (h : EvN K ta σ H (.int i)) (h' : EvN K tb σ H (.int j)) (h'' : EvN K tc σ H (.int k)) : EvN K (tCB (fun xs H Q => ∃ i j k : Int, xs = [.int i, .int j, .int k] ∧ Q (.int (max (max i j) k)) H) (tCons ta (tCons tb (tCons tc tNil)))) σ H (.int (max (max i j) k)) := fun H1 a Q q =>
  h.vi H1 a _ fun H2 a2 => h'.vi H2 (a.trans a2) _ fun H3 a3 => h''.vi H3 ((a.trans a2).trans a3) _ fun H4 a4 => ⟨i, j, k, rfl, q _ H4 ((a2.trans a3).trans a4) (.int _)⟩
abbrev s__law_met : Stmt := top 62
abbrev N__law_met : List Str := ["_law_one", "_law_two", "_law_across", "_law_down"]
abbrev P__law_met : List Str := ["_law_one", "_law_two"]
theorem sc__law_met : FnScope N__law_met P__law_met (defScope s__law_met) := ⟨rfl, rfl, rfl, by decide +kernel, rfl, by decide +kernel, by decide +kernel⟩
theorem nd__law_met : N__law_met.Nodup := sc__law_met.nd
def sp__law_met (K : PySem.W.Frag) : Sp := spF K (fun x : Sq × Sq => [dSq x.1, dSq x.2]) (fun _ => True) (fun x => .int (QS.met x.1 x.2))
theorem ok__law_met (T : Txt K w mg tM tS aS aF aW) (F : Fd K mg "_law_met" s__law_met) : Ca P w K mg base "_law_met" P__law_met 1 (sp__law_met K) := by
  refine F.mk sc__law_met (fun _ _ _ _ _ _ us hl => match us, hl with | [_, _], _ => rfl) (spF_len fun _ => rfl) (fun f0 cdv A outer s H vs Q E hr h => ?_)
  obtain ⟨⟨X, Y⟩, hv, hc, k⟩ := h
  obtain ⟨va, vb, rfl, h0, h1⟩ := hv.inv2
  simp only at h0 h1 hc k
  refine ⟨_, (pss_cons (ps_set (i := 2) nd__law_met rfl (Or.inl rfl) (pe_op op_sub (pe_callB (call_min2 rfl) (by rfl) T.min b_min (pa_cons (pe_op op_add (pe_ix ix_tup (pv 0) pe_int (fun _ _ => rfl)) (pe_ix ix_tup (pv 0) pe_int (fun _ _ => rfl))) (pa_cons (pe_op op_add (pe_ix ix_tup (pv 1) pe_int (fun _ _ => rfl)) (pe_ix ix_tup (pv 1) pe_int (fun _ _ => rfl))) pa_nil))) (pe_callB (call_max2 rfl) (by rfl) T.max b_max (pa_cons (pe_ix ix_tup (pv 0) pe_int (fun _ _ => rfl)) (pa_cons (pe_ix ix_tup (pv 1) pe_int (fun _ _ => rfl)) pa_nil)))))
      (pss_cons (ps_set (i := 3) nd__law_met rfl (Or.inl rfl) (pe_op op_sub (pe_callB (call_min2 rfl) (by rfl) T.min b_min (pa_cons (pe_op op_add (pe_ix ix_tup (pv 0) pe_int (fun _ _ => rfl)) (pe_ix ix_tup (pv 0) pe_int (fun _ _ => rfl))) (pa_cons (pe_op op_add (pe_ix ix_tup (pv 1) pe_int (fun _ _ => rfl)) (pe_ix ix_tup (pv 1) pe_int (fun _ _ => rfl))) pa_nil))) (pe_callB (call_max2 rfl) (by rfl) T.max b_max (pa_cons (pe_ix ix_tup (pv 0) pe_int (fun _ _ => rfl)) (pa_cons (pe_ix ix_tup (pv 1) pe_int (fun _ _ => rfl)) pa_nil)))))
      (pss_cons (ps_if (PW.pt (pw_or (pt_cmpR op_eq (pv 2) pe_int (nomark _)) (pw_or1 (pt_cmpR op_eq (pv 3) pe_int (nomark _))))) (pss_one (ps_ret (pe_callB (call_max3 rfl) (by rfl) T.max b_max (pa_cons (pv 2) (pa_cons (pv 3) (pa_cons pe_int pa_nil)))))) pss_nil)
      (pss_one (ps_ret pe_int))))), ?_⟩
  have ix : ∀ {v : V} {A : Sq} {n : Nat} {σ : L2.St} {H1 : Hp} (hn : σ[n]? = some (some v)) (hd : Dn K H1 v (dSq A)), EvN K (tOp (rIxT K) (tVar n) (tC (.int 0))) σ H1 (.int A.x) ∧ EvN K (tOp (rIxT K) (tVar n) (tC (.int 1))) σ H1 (.int A.y) ∧ EvN K (tOp (rIxT K) (tVar n) (tC (.int 2))) σ H1 (.int A.w) := fun hn hd => ⟨en_ixT (en_var hn hd) en_int (by decide) rfl, en_ixT (en_var hn hd) en_int (by decide) rfl, en_ixT (en_var hn hd) en_int (by decide) rfl⟩
  obtain ⟨a0, a1, a2⟩ := ix (n := 0) (σ := [some va, some vb, none, none]) rfl h0
  obtain ⟨b0, b1, b2⟩ := ix (n := 1) (σ := [some va, some vb, none, none]) rfl h1
  refine q_set (en_op0 (en_min (en_op0 a0 a2) (en_op0 b0 b2)) (en_max a0 b0)) fun v2 H1 e1 d2 => ?_
  obtain ⟨a0, a1, a2⟩ := ix (n := 0) (σ := [some va, some vb, some v2, none]) rfl (h0.ex e1)
  obtain ⟨b0, b1, b2⟩ := ix (n := 1) (σ := [some va, some vb, some v2, none]) rfl (h1.ex e1)
  refine q_set (en_op0 (en_min (en_op0 a1 a2) (en_op0 b1 b2)) (en_max a1 b1)) fun v3 H2 e2 d3 => ?_
  refine q_when (et_or (et_n (en_eqI (en_var rfl (d2.ex e2)) en_int)) fun _ => et_n (en_eqI (en_var rfl d3) en_int)) (fun g H3 e3 => ?_) (fun g H3 e3 => ?_)
  · refine s_retN (en_max3 (en_var rfl (d2.ex (e2.trans e3))) (en_var rfl (d3.ex e3)) en_int) fun v H4 e4 hd => k v H4 (((e1.trans e2).trans e3).trans e4) ?_
    have g' : QS.across X Y = 0 ∨ QS.downw X Y = 0 := by simp only [QS.across, QS.downw]; simpa using g
    unfold QS.met
    rw [if_pos g']
    exact hd
  · refine s_retN (K := K) en_int fun v H4 e4 hd => k v H4 (((e1.trans e2).trans e3).trans e4) ?_
    have g' : ¬ (QS.across X Y = 0 ∨ QS.downw X Y = 0) := by
      intro z
      have : (decide (QS.across X Y = 0) || decide (QS.downw X Y = 0)) = true := by simpa using z
      rw [show (decide (QS.across X Y = 0) || decide (QS.downw X Y = 0)) = false from g] at this
      cases this
    unfold QS.met
    rw [if_neg g']
    exact hd
abbrev s__law_square : Stmt := top 61
abbrev N__law_square : List Str := ["_law_code_here", "_law_level", "_law_x", "_law_y", "_law_wide", "_law_sign"]
abbrev P__law_square : List Str := ["_law_code_here", "_law_level"]
theorem sc__law_square : FnScope N__law_square P__law_square (defScope s__law_square) := ⟨rfl, rfl, rfl, by decide +kernel, rfl, by decide +kernel, by decide +kernel⟩
theorem nd__law_square : N__law_square.Nodup := sc__law_square.nd
def sp__law_square (K : PySem.W.Frag) : Sp := spF K (fun x : Cd × Nat => [dC x.1, .int x.2]) (fun x => x.1.length ≤ x.2 ∧ x.2 ≤ 41) (fun x => dSq (sqr x.2 0 0 x.1))
theorem ok__law_square (T : Txt K w mg tM tS aS aF aW) (F : Fd K mg "_law_square" s__law_square) : Ca P w K mg base "_law_square" P__law_square 1 (sp__law_square K) := by
  refine F.mk sc__law_square (fun _ _ _ _ _ _ us hl => match us, hl with | [_, _], _ => rfl) (spF_len fun _ => rfl) (fun f0 cdv A outer s H vs Q E hr h => ?_)
  obtain ⟨⟨c, L⟩, hv, ⟨hcl, hL⟩, k⟩ := h
  obtain ⟨va, vb, rfl, h0, h1⟩ := hv.inv2
  simp only at h0 h1 hcl hL k
  refine ⟨_, (pss_cons (ps_set (i := 2) nd__law_square rfl (Or.inl rfl) pe_int)
      (pss_cons (ps_set (i := 3) nd__law_square rfl (Or.inl rfl) pe_int)
      (pss_cons (ps_set (i := 4) nd__law_square rfl (Or.inl rfl) (pe_op op_shl pe_int (pv 1)))
      (pss_cons (ps_for PassesOwn.never rfl (pi_str (pv 0)) (pg_name (i := 5) nd__law_square rfl (Or.inl rfl)) (pss_cons (ps_set (i := 4) nd__law_square rfl (Or.inl rfl) (pe_op op_fdiv (pv 4) pe_int))
      (pss_cons (ps_set (i := 2) nd__law_square rfl (Or.inl rfl) (pe_op op_add (pv 2) (pe_op op_mul (pv 4) (pe_callTy call_int1 (by rfl) T.int b_int (pa_cons (pe_cmpR op_in_sign (pv 5) pe_str rfl) pa_nil)))))
      (pss_one (ps_set (i := 3) nd__law_square rfl (Or.inl rfl) (pe_op op_add (pv 3) (pe_op op_mul (pv 4) (pe_callTy call_int1 (by rfl) T.int b_int (pa_cons (pe_cmpR op_in_sign (pv 5) pe_str rfl) pa_nil)))))))))
      (pss_one (ps_ret (pe_tup (pa_cons (pv 2) (pa_cons (pv 3) (pa_cons (pv 4) pa_nil)))))))))), ?_⟩
  refine q_set (K := K) en_int fun vx H1 e1 dx => ?_
  refine q_set (K := K) en_int fun vy H2 e2 dy => ?_
  refine q_set (en_opC en_int (en_var rfl (h1.ex (e1.trans e2))) ⟨by omega, by omega, by decide⟩) fun vw H3 e3 dw => ?_
  have e03 := (e1.trans e2).trans e3
  have hit : EvIt K (iStr (tVar 0)) [some va, some vb, some vx, some vy, some vw, none] H3 [] (c.map fun q => .str (cs [q])) := by
    have := ei_str (K := K) (m := []) (s := cs c) (tl := tVar 0) (σ := [some va, some vb, some vx, some vy, some vw, none]) (en_var rfl (h0.ex e03))
    rw [signs_cs] at this
    exact this
  refine q_for (K := K) (m := []) (α := Qd) (enc := fun q => .str (cs [q])) (xs := c) hit .nil
    (fun pre σ' H' => ∃ (v2 v3 v4 : V) (o5 : Option V) (X Y : Int), σ' = [some va, some vb, some v2, some v3, some v4, o5] ∧ Dn K H' v2 (.int X) ∧ Dn K H' v3 (.int Y) ∧ Dn K H' v4 (.int (pw (L - pre.length))) ∧ sqr L 0 0 c = sqr (L - pre.length) X Y (c.drop pre.length))
    (fun H4 e4 => ⟨vx, vy, vw, none, 0, 0, rfl, dx.ex ((e2.trans e3).trans e4), dy.ex (e3.trans e4), by have := dw.ex e4; rw [Int.one_mul, Int.toNat_natCast] at this; exact this, rfl⟩) (fun pre q post xv σ' H' H'' hxs e pv e' hd N hN => ?_) (fun σ' H' e pv => ?_)
  · obtain ⟨v2, v3, v4, o5, X, Y, rfl, d2, d3, d4, hq⟩ := pv
    have hpl : pre.length < c.length := by rw [hxs]; simp
    have hdrop : c.drop pre.length = q :: post := by rw [hxs]; simp
    have hdrop2 : c.drop (pre.length + 1) = post := by rw [← List.drop_drop, hdrop]; rfl
    have hpw : pw (L - pre.length) / 2 = pw (L - (pre.length + 1)) := by
      rw [show L - pre.length = (L - (pre.length + 1)) + 1 by omega]
      unfold pw
      rw [Int.pow_succ]; omega
    refine q_set (en_opC (en_var rfl (d4.ex e')) en_int ⟨by decide, by decide⟩) fun v5 H4 e4 d5 => ?_
    rw [hpw] at d5
    refine q_set (en_op0 (en_var rfl (d2.ex (e'.trans e4))) (en_opC (en_var rfl d5) (en_b2i (en_inS (c := dg q) (u := "13") (en_var rfl (hd.ex e4)) en_str)) (.inr ⟨by split <;> omega, by split <;> omega⟩))) fun v6 H5 e5 d6 => ?_
    refine s_setN (en_op0 (en_var rfl (d3.ex (e'.trans (e4.trans e5)))) (en_opC (en_var rfl (d5.ex e5)) (en_b2i (en_inS (c := dg q) (u := "23") (en_var rfl (hd.ex (e4.trans e5))) en_str)) (.inr ⟨by split <;> omega, by split <;> omega⟩))) fun v7 H6 e6 d7 => ?_
    refine hN _ _ (.of ((e4.trans e5).trans e6)) ⟨v6, v7, v5, _, _, _, rfl, d6.ex e6, d7, by rw [List.length_append, List.length_singleton]; exact d5.ex (e5.trans e6), ?_⟩
    rw [hq, hdrop, List.length_append, List.length_singleton, hdrop2, show L - pre.length = (L - (pre.length + 1)) + 1 by omega, QS.sqr_cons]
    have bX : (if decide (dg q ∈ ("13" : Str).cps.toList) = true then (1 : Int) else 0) = q.bx := by cases q <;> decide +kernel
    have bY : (if decide (dg q ∈ ("23" : Str).cps.toList) = true then (1 : Int) else 0) = q.bY := by cases q <;> decide +kernel
    rw [bX, bY, Int.mul_comm q.bx, Int.mul_comm q.bY]
  · obtain ⟨v2, v3, v4, o5, X, Y, rfl, d2, d3, d4, hq⟩ := pv
    rw [List.drop_length, QS.sqr_nil] at hq
    refine s_retN (en_tup (eg_cons (en_var rfl d2) (eg_cons (en_var rfl d3) (eg_cons (en_var rfl d4) eg_nil)))) fun v H4 e4 hd4 => k v H4 ((e03.trans e.ex).trans e4) ?_
    rw [hq]
    exact hd4
end
end QW
set_option autoImplicit true
set_option Elab.async false
set_option linter.all false
set_option maxRecDepth 100000
set_option maxHeartbeats 4000000
namespace QW
open PySem PySem.Spec PyProof.Rows L2 Evl QX
open QS (Qd Sd Tr Sq sqr Pt Way pw)
section
variable {P : Program} {w : World} {K : PySem.W.Frag} {mg : Str → Option Value} {base : Heap} {tM tS : Tok} {aS aF aW : Addr}
theorem el_catV {σ : L2.St} {H : Hp} {ta te : TE} {l : Addr} {us : List V} {ps qs : List PyData} (ha : Ev ta σ H (.ref l)) (hl : H l = some (.lst us)) (hu : DnAll K H us ps) (h2 : EvLs K te σ H qs) (hlen : ps.length + qs.length ≤ 10000000) : EvLs K (tOp rCat ta te) σ H (ps ++ qs) := fun H1 a Q q =>
  ha H1 a _ fun H2 a2 => h2 H2 (a.trans a2) _ fun r ws H3 nr a3 hr hw => ⟨l, r, us, ws, rfl, rfl, a3 _ _ (a2 _ _ (a _ _ hl)), hr, by rw [hu.len, hw.len]; exact Nat.le_trans hlen (by decide), fun p hp => q p _ _ (fresh_back (a2.trans a3) hp) ((a2.trans a3).trans (Ex.new hp)) upd_same (((hu.ex ((a.trans a2).trans a3)).app hw).ex (Ex.new hp))⟩
theorem el_slTo {σ : L2.St} {H : Hp} {ta te : TE} {l : Addr} {us : List V} {ds : List PyData} {n : Nat} (ha : Ev ta σ H (.ref l)) (hl : H l = some (.lst us)) (hu : DnAll K H us ds) (hn : EvN K te σ H (.int (n : Int))) (hle : n ≤ ds.length) : EvLs K (tSl (rSlL K) ta tNoPart (tPart te)) σ H (ds.take n) := fun H1 a Q q =>
  el_sl (K := K) ha eo_none (eo_some hn.vi) (sq_of hl) H1 a _ fun p H2 np e hp => q p _ H2 np e hp (by
    unfold cutV
    rw [HT.sIx_none, HT.sIx_nat, hu.len, Nat.min_eq_left (by omega), List.drop_zero, Nat.sub_zero]
    exact (hu.ex (a.trans e)).take n)
theorem idx_split {α : Type} {xs : List α} {pre post : List (Nat × α)} {a : Nat × α} (h : (xs.mapIdx fun i x => (i, x)) = pre ++ a :: post) : a.1 = pre.length ∧ xs = pre.map (·.2) ++ a.2 :: post.map (·.2) := by
  have h1 := congrArg (List.map (·.2)) h
  rw [List.map_append, List.map_cons] at h1
  have h2 : (xs.mapIdx fun i x => (i, x)).map (·.2) = xs := by
    apply List.ext_getElem?; intro i; rw [List.getElem?_map, List.getElem?_mapIdx]; cases xs[i]? <;> rfl
  rw [h2] at h1
  refine ⟨?_, h1⟩
  have h3 := congrArg (fun l : List (Nat × α) => l[pre.length]?) h
  simp only [List.getElem?_mapIdx] at h3
  rw [List.getElem?_append_right (Nat.le_refl _), Nat.sub_self, List.getElem?_cons_zero] at h3
  cases hx : xs[pre.length]? with
  | none => rw [hx] at h3; cases h3
  | some z => rw [hx] at h3; cases h3; rfl
theorem numbered_map {α : Type} (xs : List α) (f : α → PyData) : numbered (xs.map f) = (xs.mapIdx fun i x => (i, x)).map fun p => .tuple [.int (p.1 : Nat), f p.2] := by
  unfold numbered
  apply List.ext_getElem?; intro i
  rw [List.getElem?_mapIdx, List.getElem?_map, List.getElem?_map, List.getElem?_mapIdx]
  cases xs[i]? <;> rfl
abbrev s__law_rim : Stmt := top 64
abbrev N__law_rim : List Str := ["_law_land_here", "_law_many", "_law_k", "_law_square_here", "_law_other"]
abbrev P__law_rim : List Str := ["_law_land_here"]
theorem sc__law_rim : FnScope N__law_rim P__law_rim (defScope s__law_rim) := ⟨rfl, rfl, rfl, by decide +kernel, rfl, by decide +kernel, by decide +kernel⟩
theorem nd__law_rim : N__law_rim.Nodup := sc__law_rim.nd
def sp__law_rim (K : PySem.W.Frag) : Sp := fun vs H Q _ => ∃ (p : Addr) (ws : List V) (S : List Sq), vs = [.ref p] ∧ H p = some (.lst ws) ∧ DnAll K H ws (S.map dSq) ∧ S.length ≤ 2000 ∧ ∀ v H', Ex H H' → Dn K H' v (.int (QS.lrim [] S)) → Q v H'
theorem ok__law_rim (T : Txt K w mg tM tS aS aF aW) (F : Fd K mg "_law_rim" s__law_rim) (C__law_met : Ca P w K mg base "_law_met" P__law_met 1 (sp__law_met K)) : Ca P w K mg base "_law_rim" P__law_rim 2 (sp__law_rim K) := by
  refine F.mk sc__law_rim (fun _ _ _ _ _ _ us hl => match us, hl with | [_], _ => rfl) (fun vs H Q E ⟨_, _, _, e, _⟩ => by rw [e]; rfl) (fun f0 cdv A outer s H vs Q E hr h => ?_)
  obtain ⟨p, ws, S, rfl, hp, hs, hn, k⟩ := h
  refine ⟨_, (pss_cons (ps_set (i := 1) nd__law_rim rfl (Or.inl rfl) pe_int)
      (pss_cons (ps_for PassesOwn.never rfl (pi_enum (by rfl) T.enumerate (pa_cons (pv 0) pa_nil)) (pg_tup (by rfl) (pgs_cons (pg_name (i := 2) nd__law_rim rfl (Or.inl rfl)) (pgs_cons (pg_name (i := 3) nd__law_rim rfl (Or.inl rfl)) pgs_nil))) (pss_cons (ps_set (i := 1) nd__law_rim rfl (Or.inl rfl) (pe_op op_add (pv 1) (pe_op op_mul pe_int (pe_ix ix_tup (pv 3) pe_int (fun _ _ => rfl)))))
      (pss_one (ps_for PassesOwn.never rfl (pi_list (pe_slice sl_list (pv 0) po_none (po_some (pv 2)))) (pg_name (i := 4) nd__law_rim rfl (Or.inl rfl)) (pss_one (ps_set (i := 1) nd__law_rim rfl (Or.inl rfl) (pe_op op_sub (pv 1) (pe_op op_mul pe_int (pe_ca C__law_met hr (pa_cons (pv 3) (pa_cons (pv 4) pa_nil)))))))))))
      (pss_one (ps_ret (pv 1))))), ?_⟩
  refine q_set (K := K) en_int fun v1 H1 e1 d1 => ?_
  have hit := ei_enumL (K := K) (ta := tVar 0) (σ := [some (.ref p), some v1, none, none, none]) (m := []) (ev_var rfl) (e1 _ _ hp) (hs.ex e1) (by simp)
  rw [numbered_map] at hit
  refine q_for (m := []) (α := Nat × Sq) (enc := fun x => .tuple [.int (x.1 : Nat), dSq x.2]) (xs := S.mapIdx fun i x => (i, x)) hit .nil
    (fun pre σ' H' => ∃ (z : Int) (v : V) (o2 o3 o4 : Option V), σ' = [some (.ref p), some v, o2, o3, o4] ∧ Dn K H' v (.int z) ∧ QS.lrim [] S = z + QS.lrim (pre.map (·.2)) (S.drop pre.length))
    (fun H2 e2 => ⟨0, v1, none, none, none, rfl, d1.ex e2, by simp⟩) (fun pre x post xv σ' H' H'' hxs e pv e' hd N hN => ?_) (fun σ' H' e pv => ?_)
  · obtain ⟨z, v, o2, o3, o4, rfl, hz, hq⟩ := pv
    obtain ⟨hi, hS⟩ := idx_split hxs
    obtain ⟨i, A⟩ := x
    simp only at hi hS hd
    subst hi
    have eH : Ex H H'' := e1.trans (e.ex.trans e')
    refine g_two hd fun w2 w3 d2 d3 => ?_
    refine q_set (en_op0 (en_var rfl (hz.ex e')) (en_opC en_int (en_ixT (ds := [.int A.x, .int A.y, .int A.w]) (d := .int A.w) (en_var rfl d3) en_int (by decide) rfl) (.inl ⟨by decide, by decide⟩))) fun v4 H4 e4 d4 => ?_
    have hpl : pre.length ≤ S.length := by rw [hS]; simp
    have htk : (S.map dSq).take pre.length = (pre.map (·.2)).map dSq := by
      rw [← List.map_take]; congr 1
      rw [hS, List.take_left' (by simp)]
    have hsl := el_slTo (K := K) (σ := [some (.ref p), some v4, some w2, some w3, o4]) (te := tVar 2) (ta := tVar 0) (n := pre.length) (ev_var rfl) (e4 _ _ (eH _ _ hp)) (hs.ex (eH.trans e4)) (en_var rfl (d2.ex e4)) (by rw [List.length_map]; exact hpl)
    rw [htk] at hsl
    refine s_for (m := []) (α := Sq) (enc := dSq) (xs := List.map (fun x : Nat × Sq => x.2) pre) (ei_new (K := K) hsl) .nil
      (fun pre2 σ' H' => ∃ (v : V) (o4 : Option V), σ' = [some (.ref p), some v, some w2, some w3, o4] ∧ Dn K H' v (.int (z + 4 * A.w - (pre2.map fun B => 2 * QS.met A B).sum)))
      (fun H5 e5 => ⟨v4, o4, rfl, by simpa using d4.ex e5⟩) (fun pre2 B post2 xv2 σ' H5 H6 hxs2 e5 pv e6 hd2 N2 hN2 => ?_) (fun σ' H5 e5 pv => ?_)
    · obtain ⟨v, o4, rfl, hv⟩ := pv
      refine s_setN (en_op0 (en_var rfl (hv.ex e6)) (en_opC en_int (en_call (A, B) (eg_cons (en_var rfl (d3.ex (e4.trans (e5.ex.trans e6)))) (eg_cons (en_var rfl hd2) eg_nil)) trivial) (.inl ⟨by decide, by decide⟩))) fun v7 H7 e7 d7 => hN2 _ _ (.of e7) ⟨v7, _, rfl, ?_⟩
      rw [List.map_append, List.sum_append, List.map_cons, List.map_nil, List.sum_cons, List.sum_nil]
      rw [show z + 4 * A.w - ((pre2.map fun B => 2 * QS.met A B).sum + (2 * QS.met A B + 0)) = z + 4 * A.w - (pre2.map fun B => 2 * QS.met A B).sum - 2 * QS.met A B by omega]
      exact d7
    · obtain ⟨v, o4, rfl, hv⟩ := pv
      refine hN _ _ (.of (e4.trans e5.ex)) ⟨_, v, _, _, o4, rfl, hv, ?_⟩
      have hdr : S.drop pre.length = A :: post.map (·.2) := by rw [hS, List.drop_left' (by simp)]
      have hdr2 : S.drop (pre.length + 1) = post.map (·.2) := by rw [← List.drop_drop, hdr]; rfl
      rw [hq, hdr, List.length_append, List.length_singleton, hdr2, QS.lrim, List.map_append]
      simp only [List.map_cons, List.map_nil]
      omega
  · obtain ⟨z, v, o2, o3, o4, rfl, hz, hq⟩ := pv
    rw [List.length_mapIdx, List.drop_length, QS.lrim] at hq
    refine s_retN (en_var rfl hz) fun v5 H5 e5 d5 => k v5 H5 (e1.trans (e.ex.trans e5)) ?_
    rw [hq, Int.add_zero]; exact d5
end
end QW
set_option autoImplicit true
set_option Elab.async false
set_option linter.all false
set_option maxRecDepth 100000
set_option maxHeartbeats 4000000
namespace QW
open PySem PySem.Spec PyProof.Rows L2 Evl QX
open QS (Qd Sd Tr Sq sqr Pt Way pw)
theorem signs4' : signs "0123" = qs4.map fun q => .str (cs [q]) := rfl
theorem index_q (q : Qd) : Txt.index0 ("0123" : Str) (cs [q]) = some q.num := by cases q <;> decide +kernel
def lvF (c : Cd) (t : Tr) : List (Cd × Int) := (QS.leaves t).map fun x => (c ++ x.1, x.2)
theorem lvF_leaf (c : Cd) (z : Int) : lvF c (.leaf z) = [(c, z)] := by simp [lvF, QS.leaves]
theorem lvF_node (c : Cd) (a b d e : Tr) : lvF c (.node a b d e) = qs4.flatMap fun q => lvF (c ++ [q]) (QS.pick a b d e q) := by
  simp [lvF, QS.leaves, qs4, QS.pick, List.flatMap_cons, List.append_assoc, List.map_map, Function.comp_def]
theorem lvF_len (c : Cd) (t : Tr) : (lvF c t).length = t.count := by rw [lvF, List.length_map, QS.leaves_len]
section
variable {P : Program} {w : World} {K : PySem.W.Frag} {mg : Str → Option Value} {base : Heap} {tM tS : Tok} {aS aF aW : Addr}
theorem en_sindex {σ : L2.St} {H : Hp} {ta te : TE} {q : Qd} (ha : EvN K ta σ H (.str "0123")) (h : EvN K te σ H (.str (cs [q]))) : EvN K (tM1 (fun x xs H Q => ∃ (a b : Str) (n : Nat), x = .str a ∧ xs = [.str b] ∧ Txt.index0 a b = some n ∧ Q (.int n) H) ta te) σ H (.int q.num) := fun H1 a Q k =>
  ha.vs H1 a _ fun H2 a2 => ⟨⟨_, rfl⟩, h.vs H2 (a.trans a2) _ fun H3 a3 => ⟨_, _, q.num, rfl, rfl, index_q q, k _ H3 (a2.trans a3) (.int _)⟩⟩
abbrev s__law_leaves : Stmt := top 60
abbrev N__law_leaves : List Str := ["_law_tree", "_law_code_here", "_law_found", "_law_sign"]
abbrev P__law_leaves : List Str := ["_law_tree", "_law_code_here"]
theorem sc__law_leaves : FnScope N__law_leaves P__law_leaves (defScope s__law_leaves) := ⟨rfl, rfl, rfl, by decide +kernel, rfl, by decide +kernel, by decide +kernel⟩
theorem nd__law_leaves : N__law_leaves.Nodup := sc__law_leaves.nd
def sp__law_leaves (K : PySem.W.Frag) (n : Nat) : Sp := spL K (fun x : Tr × Cd × Nat => [dT x.1, dC x.2.1]) (fun x => QS.Fits x.1 x.2.2 ∧ x.2.2 < n ∧ x.2.1.length + x.2.2 ≤ 41 ∧ x.1.count ≤ 2000) (fun x => (lvF x.2.1 x.1).map dPc)
theorem ok__law_leaves (T : Txt K w mg tM tS aS aF aW) (F : Fd K mg "_law_leaves" s__law_leaves) : ∀ n, Ca P w K mg base "_law_leaves" P__law_leaves n (sp__law_leaves K n)
  | 0 => F.never (fun _ _ _ _ _ _ us hl => match us, hl with | [_, _], _ => rfl) fun vs H Q E ⟨_, _, ⟨_, h, _⟩, _⟩ => by omega
  | n + 1 => by
    have C__law_leaves := ok__law_leaves T F n
    refine F.mk sc__law_leaves (fun _ _ _ _ _ _ us hl => match us, hl with | [_, _], _ => rfl) (spL_len fun _ => rfl) (fun f cdv A outer s H vs Q E hr h => ?_)
    obtain ⟨⟨t, c, m⟩, hv, ⟨hf, hmn, hcm, hcn⟩, k⟩ := h
    obtain ⟨vt, vc, rfl, h0, h1⟩ := hv.inv2
    simp only at h0 h1 hf hmn hcm hcn k
    refine ⟨_, (pss_cons (ps_if (pt_not (pt_val (pe_callB call_isi (by rfl) T.isinstance b_isinstance (pa_cons (pv 0) (pa_cons (pe_bltn (v := .ty "tuple") (by rfl) T.tuple b_tuple rfl) pa_nil))))) (pss_one (ps_ret (pe_lst (pa_cons (pe_tup (pa_cons (pv 1) (pa_cons (pv 0) pa_nil))) pa_nil)))) pss_nil)
      (pss_cons (ps_set (i := 2) nd__law_leaves rfl (Or.inl rfl) (pe_lst pa_nil))
      (pss_cons (ps_for PassesOwn.never rfl (pi_str pe_str) (pg_name (i := 3) nd__law_leaves rfl (Or.inl rfl)) (pss_one (ps_set (i := 2) nd__law_leaves rfl (Or.inl rfl) (pe_op op_cat (pv 2) (pe_caR C__law_leaves hr (pa_cons (pe_ix ix_tup (pv 0) (pe_sindex pe_str (pv 3)) (fun _ _ => rfl)) (pa_cons (pe_op op_add_str (pv 1) (pv 3)) pa_nil)))))))
      (pss_one (ps_ret (pv 2)))))), ?_⟩
    refine q_when (et_not (et_v (en_isN (en_var rfl h0)))) (fun g H1 e1 => ?_) fun g H1 e1 => ?_
    · cases t with
      | node a1 b1 c1 d1 => cases g
      | leaf z =>
        rw [lvF_leaf] at k
        exact s_retLs (el_lst (eg_cons (en_tup (eg_cons (en_var rfl (h1.ex e1)) (eg_cons (en_var rfl (h0.ex e1)) eg_nil))) eg_nil)) fun p ws H2 np e2 hp hs => k p ws H2 (fresh_back e1 np) (e1.trans e2) hp hs
    · cases t with
      | leaf z => cases g
      | node a1 b1 c1 d1 =>
        have hm' : ∃ m', m = m' + 1 := by cases hf; exact ⟨_, rfl⟩
        obtain ⟨m', rfl⟩ := hm'
        have hfp : ∀ q, QS.Fits (QS.pick a1 b1 c1 d1 q) m' := fun q => by cases hf; cases q <;> assumption
        rw [lvF_node] at k
        have hlen4 : (qs4.map fun q => (lvF (c ++ [q]) (QS.pick a1 b1 c1 d1 q)).length).sum ≤ 2000 := by
          simp only [lvF_len, qs4, List.map_cons, List.map_nil, List.sum_cons, List.sum_nil, QS.pick]
          simp only [QS.Tr.count] at hcn; omega
        refine q_setL (K := K) (el_lst eg_nil) fun p ws0 H2 np e2 hp hs0 => ?_
        have hw0 : ws0 = [] := by cases hs0; rfl
        subst hw0
        have e02 := e1.trans e2
        refine q_forV (m := []) (α := Qd) (enc := fun q => .str (cs [q])) (xs := qs4) (by rw [← signs4']; exact ei_str (K := K) en_str) .nil
          (fun Hb pre σ' H' => ∃ (o3 : Option V) (l : Addr) (us : List V), σ' = [some vt, some vc, some (.ref l), o3] ∧ H l = none ∧ H' l = some (.lst us) ∧ DnAll K H' us ((pre.flatMap fun q => lvF (c ++ [q]) (QS.pick a1 b1 c1 d1 q)).map dPc))
          (fun H3 e3 => ⟨none, p, [], rfl, fresh_back e1 np, e3 _ _ hp, .nil⟩) (fun Hb eb pre q post xv σ' H' H'' hxs e pv e' hd N hN => ?_) (fun Hb eb σ' H' e pv => ?_)
        · obtain ⟨o3, l, us, rfl, nl, hl, hus⟩ := pv
          have eH : Ex H H'' := (e02.trans eb).trans (e.ex.trans e')
          have hle : (pre.flatMap fun q => lvF (c ++ [q]) (QS.pick a1 b1 c1 d1 q)).length + (lvF (c ++ [q]) (QS.pick a1 b1 c1 d1 q)).length ≤ 2000 := by
            rw [hxs, List.map_append, List.sum_append, List.map_cons, List.sum_cons] at hlen4
            rw [List.length_flatMap]; omega
          have hcq : (QS.pick a1 b1 c1 d1 q).count ≤ 2000 := by
            have := lvF_len (c ++ [q]) (QS.pick a1 b1 c1 d1 q)
            omega
          refine s_setLs (el_catV (ev_var rfl) (e' _ _ hl) (hus.ex e') (el_call (K := K) (QS.pick a1 b1 c1 d1 q, c ++ [q], m') (eg_cons (en_pick (en_var rfl (h0.ex eH)) (en_sindex en_str (en_var rfl hd))) (eg_cons (EvN.cast (en_addS (en_var rfl (h1.ex eH)) (en_var rfl hd) (by rw [cs_len, cs_len]; simp; omega)) (by rw [← cs_app]; rfl)) eg_nil)) ⟨hfp q, (by show m' < n; omega), (by show (c ++ [q]).length + m' ≤ 41; simp; omega), hcq⟩) (by rw [List.length_map, List.length_map]; simp only; omega)) fun l2 us2 H4 nl2 e4 hl2 hs2 => hN _ _ (.of (e.ex.trans (e'.trans e4))) ⟨_, l2, us2, rfl, fresh_back eH nl2, hl2, ?_⟩
          rw [List.flatMap_append, List.flatMap_cons, List.flatMap_nil, List.append_nil, List.map_append]
          exact hs2
        · obtain ⟨o3, l, us, rfl, nl, hl, hus⟩ := pv
          exact s_ret (ev_var rfl) fun H4 e4 => k l us H4 nl (((e02.trans eb).trans e.ex).trans e4) (e4 _ _ hl) (hus.ex e4)
end
end QW
set_option autoImplicit true
set_option Elab.async false
set_option linter.all false
set_option maxRecDepth 100000
set_option maxHeartbeats 4000000
namespace QW
open PySem PySem.Spec PyProof.Rows L2 Evl QX
open QS (Qd Sd Tr Sq sqr Pt Way pw lastD psum csum)
section
variable {K : PySem.W.Frag} {σ : L2.St} {H : Hp} {tl : TE} {g : TG} {tu tz : TS} {D : Ends} {p : Addr} {vs : List V}
theorem s_forR (h : Ev tl σ H (.ref p)) (hp : H p = some (.lst vs)) (Pv : Nat → L2.St → Hp → Prop) (h0 : ∀ H1, Ex H H1 → Pv 0 σ H1)
    (hs : ∀ i x σ' H', vs[i]? = some x → Ex H H' → Pv i σ' H' → ∀ N : L2.St → Hp → Prop, (∀ σ3 H3, Ex H' H3 → Pv (i + 1) σ3 H3 → N σ3 H3) →
      g x σ' H' fun σ2 H2 => tu { D with nx := N, ct := N, bk := D.nx } σ2 H2)
    (hd : ∀ σ' H', Ex H H' → Pv vs.length σ' H' → D.nx σ' H') : tFor (iList K tl) g tu D σ H :=
  h H (Ex.refl H) _ fun H2 a2 => by
    have e2 : H2 p = some (.lst vs) := a2 p _ hp
    refine ⟨p, rfl, ⟨vs, .inl (.inl e2)⟩, ?_⟩
    refine for_it (walk_list (K := K) (a := p) (xs := vs)) (fun i σ' H' => Ex H2 H' ∧ Pv i σ' H') ⟨Ex.refl _, h0 H2 a2⟩ (fun i σ' H' _ q => .inl (.inl (q.1 _ _ e2))) (fun i x σ' H' H'' hi q y => ?_) (fun σ' H' q => ?_)
    · obtain ⟨rfl, y⟩ := y
      exact hs i x σ' _ y (a2.trans q.1) q.2 _ fun σ3 H3 e3 p3 => ⟨q.1.trans e3, p3⟩
    · exact hd σ' H' (a2.trans q.1) q.2
theorem q_forR (h : Ev tl σ H (.ref p)) (hp : H p = some (.lst vs)) (Pv : Nat → L2.St → Hp → Prop) (h0 : ∀ H1, Ex H H1 → Pv 0 σ H1)
    (hs : ∀ i x σ' H', vs[i]? = some x → Ex H H' → Pv i σ' H' → ∀ N : L2.St → Hp → Prop, (∀ σ3 H3, Ex H' H3 → Pv (i + 1) σ3 H3 → N σ3 H3) →
      g x σ' H' fun σ2 H2 => tu { D with nx := N, ct := N, bk := tz D } σ2 H2)
    (hd : ∀ σ' H', Ex H H' → Pv vs.length σ' H' → tz D σ' H') : tSeq (tFor (iList K tl) g tu) tz D σ H := s_forR (D := { D with nx := tz D }) h hp Pv h0 hs hd
end
theorem prev_get {α : Type} (x : α) (r : List α) {k : Nat} (h : k < (x :: r).length) : (x :: r)[prevIx (x :: r).length k]? = some (lastD ((x :: r).take k) (lastD r x)) := by
  unfold prevIx
  cases k with
  | zero => rw [if_pos rfl, List.length_cons, Nat.add_sub_cancel, lastD_get]; rfl
  | succ j =>
    rw [if_neg (by omega), Nat.add_sub_cancel]
    have hj : j < (x :: r).length := by omega
    rw [List.take_add_one, List.getElem?_eq_getElem hj, QS.lastD_app]
    rfl
theorem psum_take {g : Pt → Pt → Int} {l : List Pt} {a y : Pt} {k : Nat} (h : l[k]? = some y) : psum g a (l.take (k + 1)) = psum g a (l.take k) + g (lastD (l.take k) a) y := by
  rw [List.take_add_one, h, QS.psum_app]
  simp [psum]
theorem lvl_at {l : List Pt} {a y : Pt} {k : Nat} (hl : QS.Lvl a l) (h : l[k]? = some y) : QS.level (lastD (l.take k) a) y := by
  have hk : k < l.length := (List.getElem?_eq_some_iff.mp h).1
  have e : l = l.take k ++ y :: l.drop (k + 1) := by
    have h2 := List.getElem?_eq_getElem hk
    rw [h] at h2
    rw [Option.some.inj h2, List.getElem_cons_drop, List.take_append_drop]
  rw [e] at hl
  have h3 := (QS.Lvl.app.mp hl).2.1
  exact h3
theorem abs_nat (i : Int) : (if i < 0 then -i else i) = (i.natAbs : Int) := by omega
section
variable {P : Program} {w : World} {K : PySem.W.Frag} {mg : Str → Option Value} {base : Heap} {tM tS : Tok} {aS aF aW : Addr}
theorem en_abs {σ : L2.St} {H : Hp} {ta : TE} {i : Int} (h : EvN K ta σ H (.int i)) : EvN K (tCB (fun xs H Q => ∃ i, xs = [.int i] ∧ Q (.int (if i < 0 then -i else i)) H) (tCons ta tNil)) σ H (.int (i.natAbs : Int)) := fun H1 a Q q =>
  h.vi H1 a _ fun H2 a2 => ⟨i, rfl, by rw [abs_nat]; exact q _ H2 a2 (.int _)⟩
def PtB (P : Pt) : Prop := (-(2 ^ 64) < P.1 ∧ P.1 < 2 ^ 64) ∧ (-(2 ^ 64) < P.2 ∧ P.2 < 2 ^ 64)
def RgB (R : List (List Pt)) : Prop := ∀ r ∈ R, r ≠ [] ∧ QS.CLvl r ∧ r.length ≤ 100000000 ∧ ∀ P ∈ r, PtB P
abbrev s__law_sums : Stmt := top 65
abbrev N__law_sums : List Str := ["_law_found", "_law_twice_here", "_law_far", "_law_ring", "_law_k", "_law_one", "_law_other"]
abbrev P__law_sums : List Str := ["_law_found"]
theorem sc__law_sums : FnScope N__law_sums P__law_sums (defScope s__law_sums) := ⟨rfl, rfl, rfl, by decide +kernel, rfl, by decide +kernel, by decide +kernel⟩
theorem nd__law_sums : N__law_sums.Nodup := sc__law_sums.nd
def sp__law_sums (K : PySem.W.Frag) : Sp := fun vs H Q _ => ∃ (p : Addr) (xs : List V) (R : List (List Pt)), vs = [.ref p] ∧ H p = some (.lst xs) ∧ RL K H xs R ∧ RgB R ∧ ∀ v H', Ex H H' → Dn K H' v (.tuple [.int (R.map (csum QS.cross)).sum, .int (R.map (csum QS.far)).sum]) → Q v H'
theorem ok__law_sums (T : Txt K w mg tM tS aS aF aW) (F : Fd K mg "_law_sums" s__law_sums) : Ca P w K mg base "_law_sums" P__law_sums 1 (sp__law_sums K) := by
  refine F.mk sc__law_sums (fun _ _ _ _ _ _ us hl => match us, hl with | [_], _ => rfl) (fun vs H Q E ⟨_, _, _, e, _⟩ => by rw [e]; rfl) (fun f0 cdv A outer s H vs Q E hr h => ?_)
  obtain ⟨p, xs, R, rfl, hp, hR, hB, k⟩ := h
  refine ⟨_, (pss_cons (ps_set (i := 1) nd__law_sums rfl (Or.inl rfl) pe_int)
      (pss_cons (ps_set (i := 2) nd__law_sums rfl (Or.inl rfl) pe_int)
      (pss_cons (ps_for PassesOwn.never rfl (pi_list (pv 0)) (pg_name (i := 3) nd__law_sums rfl (Or.inl rfl)) (pss_one (ps_for PassesOwn.never rfl (pi_range1 (by rfl) T.range (pa_cons (pe_callB call_len_seq (by rfl) T.len b_len (pa_cons (pv 3) pa_nil)) pa_nil)) (pg_name (i := 4) nd__law_sums rfl (Or.inl rfl)) (pss_cons (ps_set (i := 5) nd__law_sums rfl (Or.inl rfl) (pe_ix ix_list (pv 3) (pe_op op_sub (pv 4) pe_int) (fun _ _ => rfl)))
      (pss_cons (ps_set (i := 6) nd__law_sums rfl (Or.inl rfl) (pe_ix ix_list (pv 3) (pv 4) (fun _ _ => rfl)))
      (pss_cons (ps_if (PW.pt (pw_and (pt_cmpR op_ne (pe_ix ix_tup (pv 5) pe_int (fun _ _ => rfl)) (pe_ix ix_tup (pv 6) pe_int (fun _ _ => rfl)) (nomark _)) (pw_and1 (pt_cmpR op_ne (pe_ix ix_tup (pv 5) pe_int (fun _ _ => rfl)) (pe_ix ix_tup (pv 6) pe_int (fun _ _ => rfl)) (nomark _))))) (pss_one (ps_ret (pe_tup (pa_cons pe_int (pa_cons pe_int pa_nil))))) pss_nil)
      (pss_cons (ps_set (i := 1) nd__law_sums rfl (Or.inl rfl) (pe_op op_sub (pe_op op_add (pv 1) (pe_op op_mul (pe_ix ix_tup (pv 5) pe_int (fun _ _ => rfl)) (pe_ix ix_tup (pv 6) pe_int (fun _ _ => rfl)))) (pe_op op_mul (pe_ix ix_tup (pv 6) pe_int (fun _ _ => rfl)) (pe_ix ix_tup (pv 5) pe_int (fun _ _ => rfl)))))
      (pss_one (ps_set (i := 2) nd__law_sums rfl (Or.inl rfl) (pe_op op_add (pe_op op_add (pv 2) (pe_callB call_abs (by rfl) T.abs b_abs (pa_cons (pe_op op_sub (pe_ix ix_tup (pv 5) pe_int (fun _ _ => rfl)) (pe_ix ix_tup (pv 6) pe_int (fun _ _ => rfl))) pa_nil))) (pe_callB call_abs (by rfl) T.abs b_abs (pa_cons (pe_op op_sub (pe_ix ix_tup (pv 5) pe_int (fun _ _ => rfl)) (pe_ix ix_tup (pv 6) pe_int (fun _ _ => rfl))) pa_nil))))))))))))
      (pss_one (ps_ret (pe_tup (pa_cons (pv 1) (pa_cons (pv 2) pa_nil)))))))), ?_⟩
  refine q_set (K := K) en_int fun v1 H1 e1 d1 => ?_
  refine q_set (K := K) en_int fun v2 H2 e2 d2 => ?_
  have e02 := e1.trans e2
  refine q_forR (ev_var rfl) (e02 _ _ hp)
    (fun i σ' H' => ∃ (a b : V) (o3 o4 o5 o6 : Option V), σ' = [some (.ref p), some a, some b, o3, o4, o5, o6] ∧ Dn K H' a (.int ((R.take i).map (csum QS.cross)).sum) ∧ Dn K H' b (.int ((R.take i).map (csum QS.far)).sum))
    (fun H3 e3 => ⟨v1, v2, none, none, none, none, rfl, by simpa using d1.ex (e2.trans e3), by simpa using d2.ex e3⟩) (fun i x σ' H3 hx e3 pv N hN => ?_) (fun σ' H3 e3 pv => ?_)
  · obtain ⟨a, b, o3, o4, o5, o6, rfl, da, db⟩ := pv
    have hiR : i < R.length := by rw [← hR.len]; exact (List.getElem?_eq_some_iff.mp hx).1
    obtain ⟨r, hr'⟩ : ∃ r, R[i]? = some r := ⟨_, List.getElem?_eq_getElem hiR⟩
    obtain ⟨q, us, rfl, hq, hus⟩ := (hR.ex (e02.trans e3)).get hx hr'
    obtain ⟨hne, hlv, hrl, hpb⟩ := hB r (List.mem_of_getElem? hr')
    obtain ⟨y, r', rfl⟩ : ∃ y r', r = y :: r' := by
      cases r with
      | nil => exact absurd rfl hne
      | cons y r' => exact ⟨y, r', rfl⟩
    have hlv' : QS.Lvl (lastD r' y) (y :: r') := by have := hlv y hne; exact this
    generalize hc : (y :: r') = r at *
    generalize hl : lastD r' y = a0 at *
    show tFor _ _ _ _ _ _
    have hlen : EvN K (tCB (rLenS K) (tCons (tVar 3) tNil)) [some (.ref p), some a, some b, some (.ref q), o4, o5, o6] H3 (.int r.length) := (en_lenL (ev_var rfl) hq).cast (by rw [hus.len, List.length_map])
    refine s_for (m := []) (α := Nat) (enc := fun i => .int (0 + (i : Int))) (xs := List.range r.length) (ei_range1 (n := (r.length : Int)) (eg_cons hlen eg_nil) (by omega) (by omega)) .nil
      (fun pre σ' H' => ∃ (a b : V) (o4 o5 o6 : Option V), σ' = [some (.ref p), some a, some b, some (.ref q), o4, o5, o6] ∧ Dn K H' a (.int (((R.take i).map (csum QS.cross)).sum + psum QS.cross a0 (r.take pre.length))) ∧ Dn K H' b (.int (((R.take i).map (csum QS.far)).sum + psum QS.far a0 (r.take pre.length))))
      (fun H4 e4 => ⟨a, b, o4, o5, o6, rfl, by simpa [psum] using da.ex e4, by simpa [psum] using db.ex e4⟩) (fun pre j post xv σ' H4 H5 hxs e4 pv e5 hd N2 hN2 => ?_) (fun σ' H4 e4 pv => ?_)
    · obtain ⟨a, b, o4, o5, o6, rfl, da, db⟩ := pv
      obtain ⟨hj, hjn, _⟩ := range_split hxs
      rw [Int.zero_add] at hd
      have e35 : Ex H3 H5 := e4.ex.trans e5
      obtain ⟨Y, hY⟩ : ∃ Y, r[j]? = some Y := ⟨_, List.getElem?_eq_getElem hjn⟩
      have hX : r[prevIx r.length j]? = some (lastD (r.take j) a0) := by rw [← hc, ← hl]; exact prev_get y r' (by rw [hc]; exact hjn)
      generalize hXe : lastD (r.take j) a0 = X at hX
      have hbY := hpb Y (List.mem_of_getElem? hY)
      have hbX := hpb X (List.mem_of_getElem? hX)
      have hlev : QS.level X Y := by rw [← hXe]; exact lvl_at hlv' hY
      refine q_set (en_prev (K := K) (i := j) (d := dPt X) (ev_var rfl) (sq_of (e35 _ _ hq)) (en_op0 (en_var rfl hd) en_int) (hus.ex e35) (by rw [List.length_map]; exact hjn) (by rw [List.length_map, List.getElem?_map, hX]; rfl)) fun v5 H6 e6 d5 => ?_
      refine q_set (en_ixL (K := K) (d := dPt Y) (ev_var rfl) (sq_of (e6 _ _ (e35 _ _ hq))) (en_var rfl (hd.ex e6)) (hus.ex (e35.trans e6)) (by omega) (by rw [Int.toNat_natCast, List.getElem?_map, hY]; rfl)) fun v6 H7 e7 d6 => ?_
      have ix : ∀ {v : V} {Z : Pt} {n : Nat} {σ : L2.St} {H1 : Hp} (hn : σ[n]? = some (some v)) (hd : Dn K H1 v (dPt Z)), EvN K (tOp (rIxT K) (tVar n) (tC (.int 0))) σ H1 (.int Z.1) ∧ EvN K (tOp (rIxT K) (tVar n) (tC (.int 1))) σ H1 (.int Z.2) := fun hn hd => ⟨en_ixT (en_var hn hd) en_int (by decide) rfl, en_ixT (en_var hn hd) en_int (by decide) rfl⟩
      have e57 := e6.trans e7
      obtain ⟨a1, a2⟩ := ix (n := 5) (σ := [some (.ref p), some a, some b, some (.ref q), some xv, some v5, some v6]) rfl (d5.ex e7)
      obtain ⟨b1, b2⟩ := ix (n := 6) (σ := [some (.ref p), some a, some b, some (.ref q), some xv, some v5, some v6]) rfl d6
      refine q_no (et_is (et_and (et_n (en_neI a1 b1)) fun _ => et_n (en_neI a2 b2)) ?_) fun H8 e8 => ?_
      · rcases hlev with z | z <;> simp [z]
      obtain ⟨a1, a2⟩ := ix (n := 5) (σ := [some (.ref p), some a, some b, some (.ref q), some xv, some v5, some v6]) rfl (d5.ex (e7.trans e8))
      obtain ⟨b1, b2⟩ := ix (n := 6) (σ := [some (.ref p), some a, some b, some (.ref q), some xv, some v5, some v6]) rfl (d6.ex e8)
      have e58 := e57.trans e8
      refine q_set (en_op0 (en_op0 (en_var rfl (da.ex (e5.trans e58))) (en_opC a1 b2 (.inl hbX.1))) (en_opC b1 a2 (.inl hbY.1))) fun v9 H9 e9 d9 => ?_
      obtain ⟨a1, a2⟩ := ix (n := 5) (σ := [some (.ref p), some v9, some b, some (.ref q), some xv, some v5, some v6]) rfl (d5.ex ((e7.trans e8).trans e9))
      obtain ⟨b1, b2⟩ := ix (n := 6) (σ := [some (.ref p), some v9, some b, some (.ref q), some xv, some v5, some v6]) rfl (d6.ex (e8.trans e9))
      refine s_setN (en_op0 (en_op0 (en_var rfl (db.ex (e5.trans (e58.trans e9)))) (en_abs (en_op0 a1 b1))) (en_abs (en_op0 a2 b2))) fun v10 H10 e10 d10 => hN2 _ _ (.of ((e58.trans e9).trans e10)) ⟨v9, v10, _, _, _, rfl, ?_, ?_⟩
      · rw [List.length_append, List.length_singleton, ← hj, psum_take hY, hXe]
        rw [← hj] at d9
        rw [show ∀ z u : Int, z + (u + QS.cross X Y) = z + u + X.1 * Y.2 - Y.1 * X.2 from fun z u => by unfold QS.cross; omega]
        exact d9.ex e10
      · rw [List.length_append, List.length_singleton, ← hj, psum_take hY, hXe]
        rw [← hj] at d10
        rw [show ∀ z u : Int, z + (u + QS.far X Y) = z + u + ((X.1 - Y.1).natAbs : Int) + ((X.2 - Y.2).natAbs : Int) from fun z u => by unfold QS.far; omega]
        exact d10
    · obtain ⟨a, b, o4, o5, o6, rfl, da, db⟩ := pv
      rw [List.length_range, List.take_of_length_le (Nat.le_refl _)] at da db
      refine hN _ _ e4.ex ⟨a, b, _, _, _, _, rfl, ?_, ?_⟩
      · rw [List.take_add_one, hr', List.map_append, List.sum_append]
        rw [show ((some r).toList.map (csum QS.cross)).sum = psum QS.cross a0 r by rw [← hc, ← hl]; simp [csum]]
        exact da
      · rw [List.take_add_one, hr', List.map_append, List.sum_append]
        rw [show ((some r).toList.map (csum QS.far)).sum = psum QS.far a0 r by rw [← hc, ← hl]; simp [csum]]
        exact db
  · obtain ⟨a, b, o3, o4, o5, o6, rfl, da, db⟩ := pv
    rw [hR.len, List.take_of_length_le (Nat.le_refl _)] at da db
    exact s_retN (en_tup (eg_cons (en_var rfl da) (eg_cons (en_var rfl db) eg_nil))) fun v H4 e4 hd => k v H4 ((e02.trans e3).trans e4) hd
end
end QW
set_option autoImplicit true
set_option Elab.async false
set_option linter.all false
set_option maxRecDepth 100000
set_option maxHeartbeats 4000000
namespace QW
open PySem PySem.Spec PyProof.Rows L2 Evl QX
open QS (Qd Sd Tr Sq sqr Pt Way pw)
theorem ex_back2 {H H3 H' : Hp} {p q : Addr} (e0 : Ex H H3) (n : H p = none) (n2 : H q = none) (e : ExB [p, q] H3 H') : Ex H H' := fun a o h => e a o (fun z => by
  simp at z
  rcases z with z | z
  · subst z; rw [n] at h; cases h
  · subst z; rw [n2] at h; cases h) (e0 a o h)
theorem sq_shaped (A : Sq) : SeqAt.shaped (dSq A) = true := by
  simp [SeqAt.shaped, dSq, PyData.canLay0, PyData.canLayAll0, PyData.depth, PyData.depthAll]
theorem sq_eqv (A B : Sq) : PyData.eqv (dSq A) (dSq B) = decide (A = B) := by
  obtain ⟨x, y, w⟩ := A
  obtain ⟨x', y', w'⟩ := B
  have e : ∀ i j : Int, PyData.eqv (.int i) (.int j) = decide (i = j) := fun i j => by
    unfold PyData.eqv; first | rfl | simp [PyData.num?] | skip
  simp only [dSq, PyData.eqv, PyData.eqvAll, e, Bool.and_true]
  rw [Bool.eq_iff_iff]
  simp
section
variable {P : Program} {w : World} {K : PySem.W.Frag} {mg : Str → Option Value} {base : Heap} {tM tS : Tok} {aS aF aW : Addr}
abbrev s__law_land : Stmt := top 63
abbrev N__law_land : List Str := ["_law_told", "_law_level", "_law_start", "_law_squares", "_law_land_here", "_law_rest", "_law_at_here", "_law_later", "_law_square_here", "_law_code_here", "_law_colour_here"]
abbrev P__law_land : List Str := ["_law_told", "_law_level", "_law_start"]
theorem sc__law_land : FnScope N__law_land P__law_land (defScope s__law_land) := ⟨rfl, rfl, rfl, by decide +kernel, rfl, by decide +kernel, by decide +kernel⟩
theorem nd__law_land : N__law_land.Nodup := sc__law_land.nd
def sp__law_land (K : PySem.W.Frag) : Sp := fun vs H Q _ => ∃ (p : Addr) (ws : List V) (ps : List (Cd × Int)) (v1 v2 : V) (L : Nat) (c0 : Cd × Int), vs = [.ref p, v1, v2] ∧ H p = some (.lst ws) ∧ DnAll K H ws (ps.map dPc) ∧ Dn K H v1 (.int L) ∧ Dn K H v2 (dPc c0) ∧ L ≤ 40 ∧ (∀ x ∈ ps, x.1.length ≤ L) ∧ c0.1.length ≤ L ∧ ps.length ≤ 2000 ∧
  ∀ (q : Addr) (us : List V) (H' : Hp), H q = none → Ex H H' → H' q = some (.lst us) → DnAll K H' us ((QS.lawLand ps L c0).map dSq) → (QS.lawLand ps L c0).length ≤ ps.length + 1 → Q (.ref q) H'
theorem ok__law_land (T : Txt K w mg tM tS aS aF aW) (F : Fd K mg "_law_land" s__law_land) (C__law_square : Ca P w K mg base "_law_square" P__law_square 1 (sp__law_square K)) (C__law_met : Ca P w K mg base "_law_met" P__law_met 1 (sp__law_met K)) : Ca P w K mg base "_law_land" P__law_land 2 (sp__law_land K) := by
  refine F.mk sc__law_land (fun _ _ _ _ _ _ us hl => match us, hl with | [_, _, _], _ => rfl) (fun vs H Q E ⟨_, _, _, _, _, _, _, e, _⟩ => by rw [e]; rfl) (fun f0 cdv A outer s H vs Q E hr h => ?_)
  obtain ⟨p, ws, ps, v1, v2, L, c0, rfl, hp, hs, h1, h2, hL, hps, hc0, hn, k⟩ := h
  have hu64 := hr.units
  refine ⟨_, (pss_cons (ps_setLc (i := 3) (own := [("_law_code_here", 9), ("_law_colour_here", 10)]) (g := gTup K 2 (gCons (gName 9) (gCons (gName 10) gNil))) (tt := tTest (tOp rEq (tVar 10) (tOp (rIxT K) (tVar 2) (tC (.int 1))))) (te := tCall (sp__law_square K) [] E0 (tCons (tVar 9) (tCons (tVar 1) tNil))) (by rfl) nd__law_land rfl rfl (sw_true rfl rfl rfl (by decide +kernel)) (pi_list (pv 0)) (blkOk_by (own := [("_law_code_here", 9), ("_law_colour_here", 10)]) (N := N__law_land) (sc := defScope s__law_land) (by decide +kernel)) (fun _ _ _ _ _ => (pg_tup (by rfl) (pgs_cons (pg_name (i := 9) (nd__law_land) rfl (Or.inl rfl)) (pgs_cons (pg_name (i := 10) (nd__law_land) rfl (Or.inl rfl)) pgs_nil)))) (fun _ _ _ _ _ => pts_one (pt_cmpR op_eq (pv 10) (pe_ix ix_tup (pv 2) pe_int (fun _ _ => rfl)) (nomark _))) (fun _ _ _ _ _ => (pe_ca C__law_square hr (pa_cons (pv 9) (pa_cons (pv 1) pa_nil)))))
      (pss_cons (ps_set (i := 4) nd__law_land rfl (Or.inr rfl) (pe_lst (pa_cons (pe_ca C__law_square hr (pa_cons (pe_ix ix_tup (pv 2) pe_int (fun _ _ => rfl)) (pa_cons (pv 1) pa_nil))) pa_nil)))
      (pss_cons (ps_setLc (i := 5) (own := [("_law_square_here", 8)]) (tt := tTest (tOp (rNeD K) (tVar 8) (tOp (rIxL K) (tVar 4) (tC (.int 0))))) (te := tVar 8) (by rfl) nd__law_land rfl rfl (sw_true rfl rfl rfl (by decide +kernel)) (pi_list (pv 3)) (blkOk_by (own := [("_law_square_here", 8)]) (N := N__law_land) (sc := defScope s__law_land) (by decide +kernel)) (fun _ _ _ _ _ => (pg_name (i := 8) (nd__law_land) rfl (Or.inl rfl))) (fun _ _ _ _ _ => pts_one (pt_cmpR (op_neD hu64) (pv 8) (pe_ix ix_list (pv 4) pe_int (fun _ _ => rfl)) (nomark _))) (fun _ _ _ _ _ => (pv 8)))
      (pss_cons (ps_set (i := 6) nd__law_land rfl (Or.inl rfl) pe_int)
      (pss_cons (ps_while PassesOwn.never (pt_cmpR op_lt (pv 6) (pe_callB call_len_seq (by rfl) T.len b_len (pa_cons (pv 4) pa_nil)) (nomark _)) (pss_cons (ps_set (i := 7) nd__law_land rfl (Or.inl rfl) (pe_lst pa_nil))
      (pss_cons (ps_for PassesOwn.never rfl (pi_list (pv 5)) (pg_name (i := 8) nd__law_land rfl (Or.inl rfl)) (pss_one (ps_if (pt_cmpR op_gt (pe_ca C__law_met hr (pa_cons (pe_ix ix_list (pv 4) (pv 6) (fun _ _ => rfl)) (pa_cons (pv 8) pa_nil))) pe_int (nomark _)) (pss_one (ps_expr (pe_bm PySem.F.plainAttrs_list PySem.F.slot_list_append PySem.F.type_list_append mt_append (pv 4) (pa_cons (pv 8) pa_nil)))) (pss_one (ps_expr (pe_bm PySem.F.plainAttrs_list PySem.F.slot_list_append PySem.F.type_list_append mt_append (pv 7) (pa_cons (pv 8) pa_nil)))))))
      (pss_cons (ps_set (i := 5) nd__law_land rfl (Or.inl rfl) (pv 7))
      (pss_one (ps_set (i := 6) nd__law_land rfl (Or.inl rfl) (pe_op op_add (pv 6) pe_int)))))))
      (pss_one (ps_ret (pv 4)))))))), ?_⟩
  have hsq := el_lc (K := K) (σ := [some (.ref p), some v1, some v2, none, none, none, none, none, none, none, none]) (H := H) (wi := iList K (tVar 0)) (g := gTup K 2 (gCons (gName 9) (gCons (gName 10) gNil))) (tt := tTest (tOp rEq (tVar 10) (tOp (rIxT K) (tVar 2) (tC (.int 1)))))
    (te := tCall (sp__law_square K) [] E0 (tCons (tVar 9) (tCons (tVar 1) tNil))) (vs := [9, 10]) (xs := ps) (enc := dPc) (fun x => decide (x.2 = c0.2)) (fun x => dSq (sqr L 0 0 x.1)) (ei_list (ev_var rfl) hp hs (by simp)) (by omega)
    (fun x y H'' hx ex hy M hM => g_two hy fun w1 w2 d1 d2 => by
      refine hM _ rfl (et_n (en_eqI (en_var rfl d2) (en_ixT (ds := [dC c0.1, .int c0.2]) (en_var rfl (h2.ex ex)) en_int (by decide) rfl))) fun _ => ?_
      exact en_call (x.1, L) (eg_cons (en_var rfl d1) (eg_cons (en_var rfl (h1.ex ex)) eg_nil)) ⟨hps x hx, by show L ≤ 41; omega⟩)
  refine q_setL hsq fun a ws1 H1 na e1 ha hs1 => ?_
  refine q_setL (K := K) (el_lst (eg_cons (en_call (c0.1, L) (eg_cons (en_ixT (ds := [dC c0.1, .int c0.2]) (en_var rfl (h2.ex e1)) en_int (by decide) rfl) (eg_cons (en_var rfl (h1.ex e1)) eg_nil)) ⟨hc0, by show L ≤ 41; omega⟩) eg_nil)) fun q ws2 H2 nq e2 hq hs2 => ?_
  have ha2 := e2 _ _ ha
  have hf : ((ps.filter fun x => decide (x.2 = c0.2)).map fun x => dSq (sqr L 0 0 x.1)) = ((ps.filter fun x => decide (x.2 = c0.2)).map fun x => sqr L 0 0 x.1).map dSq := by rw [List.map_map]; rfl
  rw [hf] at hs1
  have hlen0 : ((ps.filter fun x => decide (x.2 = c0.2)).map fun x => sqr L 0 0 x.1).length ≤ ps.length := by rw [List.length_map]; exact List.length_filter_le _ _
  have hland : QS.lawLand ps L c0 = QS.lgo (ps.length + 1) 0 [sqr L 0 0 c0.1] (((ps.filter fun x => decide (x.2 = c0.2)).map fun x => sqr L 0 0 x.1).filter fun B => decide (B ≠ sqr L 0 0 c0.1)) := rfl
  generalize hsqs : ((ps.filter fun x => decide (x.2 = c0.2)).map fun x => sqr L 0 0 x.1) = sqs at hs1 hlen0 hland
  have hlc := el_lc (K := K) (σ := [some (.ref p), some v1, some v2, some (.ref a), some (.ref q), none, none, none, none, none, none]) (H := H2) (wi := iList K (tVar 3)) (g := gName 8) (tt := tTest (tOp (rNeD K) (tVar 8) (tOp (rIxL K) (tVar 4) (tC (.int 0)))))
    (te := tVar 8) (vs := [8]) (xs := sqs) (enc := dSq) (fun B => decide (B ≠ sqr L 0 0 c0.1)) dSq (ei_list (ev_var rfl) ha2 (hs1.ex e2) (by simp)) (by omega)
    (fun B y H'' hx ex hy M hM => by
      refine hM _ rfl (et_is (et_n (en_neD (en_var rfl hy) (en_ixL (ds := [dSq (sqr L 0 0 c0.1)]) (d := dSq (sqr L 0 0 c0.1)) (ev_var rfl) (sq_of (ex _ _ hq)) en_int (hs2.ex ex) (by decide) rfl) (sq_shaped _) (sq_shaped _))) (by rw [sq_eqv]; simp)) fun _ => ?_
      exact en_var rfl hy)
  refine q_setL hlc fun r ws3 H3 nr e3 hrr hs3 => ?_
  refine q_set (K := K) en_int fun v6 H4 e4 d6 => ?_
  have e24 := e3.trans e4
  have e02 := e1.trans e2
  have nqH : H q = none := fresh_back e1 nq
  have hrest0 : (sqs.filter fun B => decide (B ≠ sqr L 0 0 c0.1)).length ≤ ps.length := Nat.le_trans (List.length_filter_le _ _) hlen0
  refine q_while (fun m σ' H' => ∃ (i : Nat) (land rest : List Sq) (ws us : List V) (r : Addr) (vi : V) (o7 o8 : Option V), σ' = [some (.ref p), some v1, some v2, some (.ref a), some (.ref q), some (.ref r), some vi, o7, o8, none, none] ∧ Ex H H' ∧ r ≠ q ∧ H' q = some (.lst ws) ∧ DnAll K H' ws (land.map dSq) ∧ H' r = some (.lst us) ∧ DnAll K H' us (rest.map dSq) ∧ Dn K H' vi (.int (i : Nat)) ∧
      land.length + rest.length ≤ ps.length + 1 ∧ i + m = ps.length + 1 ∧ QS.lgo m i land rest = QS.lawLand ps L c0) (ps.length + 1)
    ⟨0, [sqr L 0 0 c0.1], _, ws2, ws3, r, v6, none, none, rfl, e02.trans e24, (fun z => by rw [z, hq] at nr; cases nr), e24 _ _ hq, hs2.ex e24, e4 _ _ hrr, hs3.ex e4, d6, by show 1 + _ ≤ _; omega, by omega, hland.symm⟩ fun m σ' H' pv => ?_
  obtain ⟨i, land, rest, ws', us', r', vi, o7, o8, rfl, eH, hrq, hq', hws, hr', hus, hi, hsum, him, hgo⟩ := pv
  have hwl : ws'.length = land.length := by rw [hws.len, List.length_map]
  refine ⟨decide ((i : Int) < (ws'.length : Int)), et_n (en_cmp (en_var rfl hi) (en_lenL (ev_var rfl) hq')), fun g H5 e5 => ?_, fun g H5 e5 => ?_⟩
  · have g' : i < land.length := by rw [← hwl]; have := of_decide_eq_true g; omega
    obtain ⟨m, rfl⟩ : ∃ m', m = m' + 1 := ⟨m - 1, by omega⟩
    obtain ⟨A, hA⟩ : ∃ A, land[i]? = some A := ⟨_, List.getElem?_eq_getElem g'⟩
    refine ⟨_, fun σ2 H2 h => ⟨m, by omega, h⟩, ?_⟩
    refine q_setL (K := K) (el_lst eg_nil) fun l ws0 H6 nl e6 hl hs0 => ?_
    have hw0 : ws0 = [] := by cases hs0; rfl
    subst hw0
    have e56 := e5.trans e6
    have hlq : l ≠ q := fun z => by rw [z, e5 _ _ hq'] at nl; cases nl
    have hlr : l ≠ r' := fun z => by rw [z, e5 _ _ hr'] at nl; cases nl
    have mu : Mu [q, l] H6 := .cons (e56 _ _ hq') (fun _ z => nomatch z) (.cons hl (fun _ z => nomatch z) .nil)
    have hfl := fun (pre : List Sq) => QS.filter_len (fun B => decide (QS.met A B > 0)) pre
    refine q_for (m := [q, l]) (α := Sq) (enc := dSq) (xs := rest) (ei_list (ev_var rfl) (e56 _ _ hr') (hus.ex e56) (by simp; exact ⟨hrq, Ne.symm hlr⟩)) mu
      (fun pre σ' H' => ∃ (o8 : Option V) (w1 w2 : List V), σ' = [some (.ref p), some v1, some v2, some (.ref a), some (.ref q), some (.ref r'), some vi, some (.ref l), o8, none, none] ∧ H' q = some (.lst w1) ∧ DnAll K H' w1 ((land ++ pre.filter fun B => decide (QS.met A B > 0)).map dSq) ∧ H' l = some (.lst w2) ∧ DnAll K H' w2 ((pre.filter fun B => !decide (QS.met A B > 0)).map dSq))
      (fun H7 e7 => ⟨o8, ws', [], rfl, e7 _ _ (e56 _ _ hq'), by simpa using hws.ex (e56.trans e7), e7 _ _ hl, .nil⟩) (fun pre B post xv σ' H7 H8 hxs e7 pv e8 hd N hN => ?_) (fun σ' H7 e7 pv => ?_)
    · obtain ⟨o8, w1, w2, rfl, hq7, hw1, hl7, hw2⟩ := pv
      have hpl : pre.length < rest.length := by rw [hxs]; simp
      have hlc1 := hfl pre
      have hget : (land ++ pre.filter fun B => decide (QS.met A B > 0))[i]? = some A := by rw [List.getElem?_append_left g', hA]
      have tk : TKp H6 H8 := (e7.tk mu).trans (.ex e8)
      have hi8 := (hi.ex e56).keep tk
      refine s_if (et_n (en_cmp (en_call (A, B) (eg_cons (en_ixL (d := dSq A) (ev_var rfl) (sq_of (e8 _ _ hq7)) (en_var rfl hi8) (hw1.ex e8) (by omega) (by rw [Int.toNat_natCast, List.getElem?_map, hget]; rfl)) (eg_cons (en_var rfl hd) eg_nil)) trivial) en_int)) (fun g H9 e9 => ?_) (fun g H9 e9 => ?_)
      · have hq9 := e9 _ _ (e8 _ _ hq7)
        refine s_push (K := K) (d := dSq B) hq9 (ev_var rfl) (en_var rfl (hd.ex e9)) (by rw [hw1.len, List.length_map, List.length_append]; omega) fun v10 H10 e10 d10 => ?_
        have tk10 := lst_tk (o := .lst (w1 ++ [v10])) (e10 _ _ hq9)
        have e8x := e8.trans (e9.trans e10)
        refine hN _ _ ((ExB.of (e9.trans e10)).upd (by simp)) ⟨_, w1 ++ [v10], w2, rfl, upd_same, ?_, by rw [upd_ne hlq]; exact e8x _ _ hl7, ?_⟩
        · rw [List.filter_append, List.filter_cons_of_pos (by simpa using g), List.filter_nil, ← List.append_assoc, List.map_append]
          exact ((hw1.ex e8x).keep tk10).snoc (d10.keep tk10)
        · rw [List.filter_append, List.filter_cons_of_neg (by simpa using g), List.filter_nil, List.append_nil]
          exact (hw2.ex e8x).keep tk10
      · have hl9 := e9 _ _ (e8 _ _ hl7)
        refine s_push (K := K) (d := dSq B) hl9 (ev_var rfl) (en_var rfl (hd.ex e9)) (by rw [hw2.len, List.length_map]; omega) fun v10 H10 e10 d10 => ?_
        have tk10 := lst_tk (o := .lst (w2 ++ [v10])) (e10 _ _ hl9)
        have e8x := e8.trans (e9.trans e10)
        refine hN _ _ ((ExB.of (e9.trans e10)).upd (by simp)) ⟨_, w1, w2 ++ [v10], rfl, by rw [upd_ne (Ne.symm hlq)]; exact e8x _ _ hq7, ?_, upd_same, ?_⟩
        · rw [List.filter_append, List.filter_cons_of_neg (by simpa using g), List.filter_nil, List.append_nil]
          exact (hw1.ex e8x).keep tk10
        · rw [List.filter_append, List.filter_cons_of_pos (by simpa using g), List.filter_nil, List.map_append]
          exact ((hw2.ex e8x).keep tk10).snoc (d10.keep tk10)
    · obtain ⟨o8, w1, w2, rfl, hq7, hw1, hl7, hw2⟩ := pv
      have eH7 : Ex H H7 := ex_back2 (eH.trans e56) nqH (fresh_back (eH.trans e5) nl) e7
      have hi7 := (hi.ex e56).keep (e7.tk mu)
      have hall := hfl rest
      refine q_asg (ev_var rfl) fun H8 e8 => ?_
      refine s_setN (K := K) (en_op0 (en_var rfl (hi7.ex e8)) en_int) fun v9 H9 e9 d9 => ⟨i + 1, _, _, w1, w2, l, v9, _, _, rfl, eH7.trans (e8.trans e9), hlq, (e8.trans e9) _ _ hq7, hw1.ex (e8.trans e9), (e8.trans e9) _ _ hl7, hw2.ex (e8.trans e9), d9, ?_, by omega, ?_⟩
      · rw [List.length_append]; omega
      · rw [← hgo, QS.lgo, hA]
  · have g' : ¬ i < land.length := by rw [← hwl]; have := of_decide_eq_false g; omega
    have hge : QS.lgo m i land rest = land := by
      cases m with
      | zero => rfl
      | succ m => rw [QS.lgo, List.getElem?_eq_none (by omega)]
    rw [hge] at hgo
    exact s_ret (ev_var rfl) fun H6 e6 => k q ws' H6 nqH (eH.trans (e5.trans e6)) (e6 _ _ (e5 _ _ hq')) (by rw [← hgo]; exact hws.ex (e5.trans e6)) (by rw [← hgo]; omega)
end
end QW
set_option autoImplicit true
set_option Elab.async false
set_option linter.all false
set_option maxRecDepth 100000
set_option maxHeartbeats 4000000
namespace QW
open PySem PySem.Spec PyProof.Rows L2 Evl QX
open QS (Qd Sd Tr Sq sqr Pt Way pw)
/-- rows of data: lists of lists -/
def RG {α : Type} (enc : α → PyData) (K : PySem.W.Frag) (H : Hp) (xs : List V) (R : List (List α)) : Prop := Paired (fun (v : V) (ps : List α) => ∃ a ws, v = .ref a ∧ H a = some (.lst ws) ∧ DnAll K H ws (ps.map enc)) xs R
section
variable {α : Type} {enc : α → PyData}
theorem RG.keep {K : PySem.W.Frag} {H H' : Hp} {m : List Addr} (e : ExB m H H') (t : TKp H H') : ∀ {xs : List V} {R : List (List α)}, RG enc K H xs R → (∀ a ∈ m, V.ref a ∉ xs) → RG enc K H' xs R
  | _, _, .nil, _ => .nil
  | x :: xs, _, .cons r q, h => by
    obtain ⟨a, ws, rfl, h1, h2⟩ := r
    exact .cons ⟨a, ws, rfl, e a _ (fun z => h a z (by simp)) h1, h2.keep t⟩ (RG.keep e t q fun b hb z => h b hb (List.mem_cons_of_mem _ z))
theorem RG.ex {K : PySem.W.Frag} {H H' : Hp} (e : Ex H H') {xs : List V} {R : List (List α)} (h : RG enc K H xs R) : RG enc K H' xs R := RG.keep (m := []) (.of e) (.ex e) h fun _ h => nomatch h
theorem RG.len {K : PySem.W.Frag} {H : Hp} : ∀ {xs : List V} {R : List (List α)}, RG enc K H xs R → xs.length = R.length
  | _, _, .nil => rfl
  | _, _, .cons _ q => congrArg (· + 1) (RG.len q)
theorem RG.get {K : PySem.W.Frag} {H : Hp} : ∀ {xs : List V} {R : List (List α)} {i : Nat} {ps : List α}, RG enc K H xs R → R[i]? = some ps → ∃ a ws, xs[i]? = some (.ref a) ∧ H a = some (.lst ws) ∧ DnAll K H ws (ps.map enc)
  | _, _, _, _, .nil, h => by simp at h
  | _, _, 0, _, .cons r _, h => by
    simp at h; subst h
    obtain ⟨a, ws, rfl, h1, h2⟩ := r
    exact ⟨a, ws, rfl, h1, h2⟩
  | _, _, i + 1, _, .cons _ q, h => RG.get (i := i) q (by simpa using h)
theorem RG.snoc {K : PySem.W.Frag} {H : Hp} {v : V} {ps : List α} (r : ∃ a ws, v = .ref a ∧ H a = some (.lst ws) ∧ DnAll K H ws (ps.map enc)) : ∀ {xs : List V} {R : List (List α)}, RG enc K H xs R → RG enc K H (xs ++ [v]) (R ++ [ps])
  | _, _, .nil => .cons r .nil
  | _, _, .cons a q => .cons a (RG.snoc r q)
theorem RG.mem {K : PySem.W.Frag} {H : Hp} {a : Addr} : ∀ {xs : List V} {R : List (List α)}, RG enc K H xs R → V.ref a ∈ xs → ∃ ws, H a = some (.lst ws)
  | _, _, .nil, h => nomatch h
  | _, _, .cons r q, h => by
    obtain ⟨b, ws, rfl, h1, h2⟩ := r
    rcases List.mem_cons.mp h with h | h
    · cases h; exact ⟨ws, h1⟩
    · exact RG.mem q h
end
section
variable {K : PySem.W.Frag} {σ : L2.St} {H : Hp} {ta te tb tc : TE}
theorem ev_ixR {p : Addr} {vs : List V} {i : Int} {v : V} (ha : Ev ta σ H (.ref p)) (hp : H p = some (.lst vs)) (hb : EvN K tb σ H (.int i)) (h0 : 0 ≤ i) (hi : vs[i.toNat]? = some v) : Ev (tOp (rIxL K) ta tb) σ H v := ev_op ha hb.vi (rv_ixL (sq_of hp) (atI_of h0 hi))
theorem el_slX {l : Addr} {us : List V} {ds : List PyData} {n m : Nat} (ha : Ev ta σ H (.ref l)) (hl : H l = some (.lst us)) (hu : DnAll K H us ds) (hn : EvN K tb σ H (.int (n : Int))) (hm : EvN K tc σ H (.int (m : Int))) (h1 : n ≤ m) (hle : m ≤ ds.length) : EvLs K (tSl (rSlL K) ta (tPart tb) (tPart tc)) σ H ((ds.drop n).take (m - n)) := fun H1 a Q q =>
  el_sl (K := K) ha (eo_some hn.vi) (eo_some hm.vi) (sq_of hl) H1 a _ fun p H2 np e hp => q p _ H2 np e hp (by
    unfold cutV
    rw [HT.sIx_nat, HT.sIx_nat, hu.len, Nat.min_eq_left (by omega), Nat.min_eq_left (by omega)]
    exact ((hu.ex (a.trans e)).drop n).take (m - n))
end
theorem two_at {α : Type} {l : List α} {i : Nat} {a b : α} (h1 : l[i]? = some a) (h2 : l[i + 1]? = some b) : (l.drop i).take (i + 2 - i) = [a, b] := by
  obtain ⟨h3, h4⟩ := List.getElem?_eq_some_iff.mp h1
  obtain ⟨h5, h6⟩ := List.getElem?_eq_some_iff.mp h2
  rw [show i + 2 - i = 2 by omega, List.drop_eq_getElem_cons h3, List.drop_eq_getElem_cons h5, h4, h6]
  rfl
theorem dR_map {K : PySem.W.Frag} {H : Hp} : True := trivial
/-- rows of trees of one size -/
def TRows (j c n : Nat) (R : List (List Tr)) : Prop := R.length = n ∧ ∀ r ∈ R, r.length = n ∧ ∀ t ∈ r, QS.Fits t j ∧ t.count ≤ c
section
variable {P : Program} {w : World} {K : PySem.W.Frag} {mg : Str → Option Value} {base : Heap} {tM tS : Tok} {aS aF aW : Addr}
abbrev s__law_tree_of_rows : Stmt := top 57
abbrev N__law_tree_of_rows : List Str := ["_law_rows", "_law_above", "_law_y", "_law_row", "_law_x", "_law_some"]
abbrev P__law_tree_of_rows : List Str := ["_law_rows"]
theorem sc__law_tree_of_rows : FnScope N__law_tree_of_rows P__law_tree_of_rows (defScope s__law_tree_of_rows) := ⟨rfl, rfl, rfl, by decide +kernel, rfl, by decide +kernel, by decide +kernel⟩
theorem nd__law_tree_of_rows : N__law_tree_of_rows.Nodup := sc__law_tree_of_rows.nd
def sp__law_tree_of_rows (K : PySem.W.Frag) : Sp := fun vs H Q _ => ∃ (p : Addr) (xs : List V) (R : List (List Tr)) (n : Nat), vs = [.ref p] ∧ H p = some (.lst xs) ∧ RG dT K H xs R ∧ n ≤ 3 ∧ TRows 0 1 (2 ^ n) R ∧
  ∀ (v : V) (H' : Hp) (t : Tr), Ex H H' → Dn K H' v (dT t) → QS.Fits t n → t.count ≤ 4 ^ n → Q v H'
theorem ok__law_tree_of_rows (T : Txt K w mg tM tS aS aF aW) (F : Fd K mg "_law_tree_of_rows" s__law_tree_of_rows) (C__law_tree_of : Ca P w K mg base "_law_tree_of" P__law_tree_of 1 (sp__law_tree_of K)) : Ca P w K mg base "_law_tree_of_rows" P__law_tree_of_rows 2 (sp__law_tree_of_rows K) := by
  refine F.mk sc__law_tree_of_rows (fun _ _ _ _ _ _ us hl => match us, hl with | [_], _ => rfl) (fun vs H Q E ⟨_, _, _, _, e, _⟩ => by rw [e]; rfl) (fun f0 cdv A outer s H vs Q E hr h => ?_)
  obtain ⟨p, xs, R, n, rfl, hp, hR, hn, hT, k⟩ := h
  refine ⟨_, (pss_cons (ps_while PassesOwn.never (pt_cmpR op_gt (pe_callB call_len_seq (by rfl) T.len b_len (pa_cons (pv 0) pa_nil)) pe_int (nomark _)) (pss_cons (ps_set (i := 1) nd__law_tree_of_rows rfl (Or.inl rfl) (pe_lst pa_nil))
      (pss_cons (ps_for PassesOwn.never rfl (pi_range3 (by rfl) T.range (pa_cons pe_int (pa_cons (pe_callB call_len_seq (by rfl) T.len b_len (pa_cons (pv 0) pa_nil)) (pa_cons pe_int pa_nil)))) (pg_name (i := 2) nd__law_tree_of_rows rfl (Or.inl rfl)) (pss_cons (ps_set (i := 3) nd__law_tree_of_rows rfl (Or.inl rfl) (pe_lst pa_nil))
      (pss_cons (ps_for PassesOwn.never rfl (pi_range3 (by rfl) T.range (pa_cons pe_int (pa_cons (pe_callB call_len_seq (by rfl) T.len b_len (pa_cons (pv 0) pa_nil)) (pa_cons pe_int pa_nil)))) (pg_name (i := 4) nd__law_tree_of_rows rfl (Or.inl rfl)) (pss_cons (ps_set (i := 5) nd__law_tree_of_rows rfl (Or.inl rfl) (pe_op op_cat (pe_slice sl_list (pe_ix ix_list (pv 0) (pv 2) (fun _ _ => rfl)) (po_some (pv 4)) (po_some (pe_op op_add (pv 4) pe_int))) (pe_slice sl_list (pe_ix ix_list (pv 0) (pe_op op_add (pv 2) pe_int) (fun _ _ => rfl)) (po_some (pv 4)) (po_some (pe_op op_add (pv 4) pe_int)))))
      (pss_one (ps_expr (pe_bm PySem.F.plainAttrs_list PySem.F.slot_list_append PySem.F.type_list_append mt_append (pv 3) (pa_cons (pe_ca C__law_tree_of hr (pa_cons (pe_ix ix_list (pv 5) pe_int (fun _ _ => rfl)) (pa_cons (pe_ix ix_list (pv 5) pe_int (fun _ _ => rfl)) (pa_cons (pe_ix ix_list (pv 5) pe_int (fun _ _ => rfl)) (pa_cons (pe_ix ix_list (pv 5) pe_int (fun _ _ => rfl)) pa_nil))))) pa_nil))))))
      (pss_one (ps_expr (pe_bm PySem.F.plainAttrs_list PySem.F.slot_list_append PySem.F.type_list_append mt_append (pv 1) (pa_cons (pv 3) pa_nil)))))))
      (pss_one (ps_set (i := 0) nd__law_tree_of_rows rfl (Or.inl rfl) (pv 1))))))
      (pss_one (ps_ret (pe_ix ix_list (pe_ix ix_list (pv 0) pe_int (fun _ _ => rfl)) pe_int (fun _ _ => rfl))))), ?_⟩
  refine q_while (fun m σ' H' => ∃ (r : Addr) (xs : List V) (R : List (List Tr)) (j : Nat) (o1 o2 o3 o4 o5 : Option V), σ' = [some (.ref r), o1, o2, o3, o4, o5] ∧ Ex H H' ∧ H' r = some (.lst xs) ∧ RG dT K H' xs R ∧ j + m = n ∧ TRows j (4 ^ j) (2 ^ m) R) n
    ⟨p, xs, R, 0, none, none, none, none, none, rfl, Ex.refl _, hp, hR, by omega, by simpa using hT⟩ fun m σ' H' pv => ?_
  obtain ⟨r, xs, R, j, o1, o2, o3, o4, o5, rfl, eH, hr0, hRR, hjm, hTR⟩ := pv
  have hxl : xs.length = 2 ^ m := by rw [hRR.len]; exact hTR.1
  refine ⟨decide ((1 : Int) < (xs.length : Int)), et_n (en_cmp (en_lenL (ev_var rfl) hr0) en_int), fun g H5 e5 => ?_, fun g H5 e5 => ?_⟩
  · have g' : 1 < xs.length := by have := of_decide_eq_true g; omega
    obtain ⟨m, rfl⟩ : ∃ m', m = m' + 1 := ⟨m - 1, by
      cases m with
      | zero => rw [hxl] at g'; simp at g'
      | succ m => rfl⟩
    have hxl2 : xs.length = 2 * 2 ^ m := by rw [hxl, Nat.pow_succ]; omega
    have hm8 : 2 ^ m ≤ 4 := by
      have : m ≤ 2 := by omega
      exact Nat.le_trans (Nat.pow_le_pow_right (by omega) this) (by decide)
    refine ⟨_, fun σ2 H2 h => ⟨m, by omega, h⟩, ?_⟩
    refine q_setL (K := K) (el_lst eg_nil) fun a ws0 H6 na e6 ha hs0 => ?_
    have hw0 : ws0 = [] := by cases hs0; rfl
    subst hw0
    have e56 := e5.trans e6
    have hra : r ≠ a := fun z => by rw [← z, e5 _ _ hr0] at na; cases na
    have rg : RgC 0 (xs.length : Int) 2 (2 ^ m) := by have := rg2_nil (n := xs.length) (by omega); rw [show (xs.length + 1) / 2 = 2 ^ m by omega] at this; exact this
    refine q_for (m := [a]) (α := Nat) (enc := fun i => .int (0 + (i : Int) * 2)) (xs := List.range (2 ^ m)) (ei_range3 (lo := 0) (hi := (xs.length : Int)) (c := 2) (eg_cons en_int (eg_cons (en_lenL (ev_var rfl) (e56 _ _ hr0)) (eg_cons en_int eg_nil))) rg) (.one ha)
      (fun pre σ' H' => ∃ (ys : List V) (R' : List (List Tr)) (o2 o3 o4 o5 : Option V), σ' = [some (.ref r), some (.ref a), o2, o3, o4, o5] ∧ H' a = some (.lst ys) ∧ RG dT K H' ys R' ∧ V.ref a ∉ ys ∧ R'.length = pre.length ∧ ∀ r ∈ R', r.length = 2 ^ m ∧ ∀ t ∈ r, QS.Fits t (j + 1) ∧ t.count ≤ 4 ^ (j + 1))
      (fun H7 e7 => ⟨[], [], o2, o3, o4, o5, rfl, e7 _ _ ha, .nil, by simp, rfl, fun _ z => nomatch z⟩) (fun pre i post xv σ' H7 H8 hxs e7 pv e8 hd N hN => ?_) (fun σ' H7 e7 pv => ?_)
    · obtain ⟨ys, R', o2, o3, o4, o5, rfl, ha7, hR7, hay, hRl, hRt⟩ := pv
      obtain ⟨hi, hin, _⟩ := range_split hxs
      have tk : TKp H6 H8 := (e7.tk (.one ha)).trans (.ex e8)
      have hr8 : H8 r = some (.lst xs) := e8 _ _ (e7 _ _ (by simpa using hra) (e56 _ _ hr0))
      have hRR8 : RG dT K H8 xs R := ((hRR.ex e56).keep e7 (e7.tk (.one ha)) fun b hb z => by
        simp at hb; subst hb
        obtain ⟨ws, hw⟩ := hRR.mem z
        rw [e5 _ _ hw] at na; cases na).ex e8
      obtain ⟨r1, hr1⟩ : ∃ r1, R[2 * i]? = some r1 := ⟨_, List.getElem?_eq_getElem (by rw [← hRR.len]; omega)⟩
      obtain ⟨r2, hr2⟩ : ∃ r2, R[2 * i + 1]? = some r2 := ⟨_, List.getElem?_eq_getElem (by rw [← hRR.len]; omega)⟩
      obtain ⟨hl1, ht1⟩ := hTR.2 r1 (List.mem_of_getElem? hr1)
      obtain ⟨hl2, ht2⟩ := hTR.2 r2 (List.mem_of_getElem? hr2)
      have hpow : 2 ^ (m + 1) = 2 * 2 ^ m := by rw [Nat.pow_succ]; omega
      refine q_setL (K := K) (el_lst eg_nil) fun l ws0 H9 nl e9 hl hs0 => ?_
      have hw0 : ws0 = [] := by cases hs0; rfl
      subst hw0
      have hr9 := e9 _ _ hr8
      have hlr : r ≠ l := fun z => by rw [← z, hr8] at nl; cases nl
      have hla : a ≠ l := fun z => by rw [← z, e8 _ _ ha7] at nl; cases nl
      refine q_for (m := [l]) (α := Nat) (enc := fun i => .int (0 + (i : Int) * 2)) (xs := List.range (2 ^ m)) (ei_range3 (lo := 0) (hi := (xs.length : Int)) (c := 2) (eg_cons en_int (eg_cons (en_lenL (ev_var rfl) hr9) (eg_cons en_int eg_nil))) rg) (.one hl)
        (fun pre2 σ' H' => ∃ (us : List V) (ts : List Tr) (o4 o5 : Option V), σ' = [some (.ref r), some (.ref a), some xv, some (.ref l), o4, o5] ∧ H' l = some (.lst us) ∧ DnAll K H' us (ts.map dT) ∧ ts.length = pre2.length ∧ ∀ t ∈ ts, QS.Fits t (j + 1) ∧ t.count ≤ 4 ^ (j + 1))
        (fun H10 e10 => ⟨[], [], o4, o5, rfl, e10 _ _ hl, .nil, rfl, fun _ z => nomatch z⟩) (fun pre2 i2 post2 xv2 σ' H10 H11 hxs2 e10 pv e11 hd2 N2 hN2 => ?_) (fun σ' H10 e10 pv => ?_)
      · obtain ⟨us, ts, o4, o5, rfl, hl10, hts, htl, htt⟩ := pv
        obtain ⟨hi2, hin2, _⟩ := range_split hxs2
        have tk9 : TKp H9 H11 := (e10.tk (.one hl)).trans (.ex e11)
        have hr11 : H11 r = some (.lst xs) := e11 _ _ (e10 _ _ (by simpa using hlr) hr9)
        have hRR11 : RG dT K H11 xs R := ((hRR8.ex e9).keep e10 (e10.tk (.one hl)) fun b hb z => by
          simp at hb; subst hb
          obtain ⟨ws, hw⟩ := hRR8.mem z
          rw [hw] at nl; cases nl).ex e11
        have hd11 : Dn K H11 xv (.int (0 + (i : Int) * 2)) := (hd.ex e9).keep tk9
        obtain ⟨a1, w1, hx1, hw1, hd1⟩ := hRR11.get hr1
        obtain ⟨a2, w2, hx2, hw2, hd2'⟩ := hRR11.get hr2
        have gt : ∀ (rr : List Tr), rr.length = 2 ^ (m + 1) → ∀ q, q < 2 * 2 ^ m → ∃ t, rr[q]? = some t ∧ t ∈ rr := fun rr h q hq => ⟨_, List.getElem?_eq_getElem (by omega), List.getElem_mem _⟩
        obtain ⟨t0, h0, m0⟩ := gt r1 hl1 (2 * i2) (by omega)
        obtain ⟨t1, h1, m1⟩ := gt r1 hl1 (2 * i2 + 1) (by omega)
        obtain ⟨t2, h2, m2⟩ := gt r2 hl2 (2 * i2) (by omega)
        obtain ⟨t3, h3, m3⟩ := gt r2 hl2 (2 * i2 + 1) (by omega)
        have ixr : ∀ {tb : TE} {z : Int} {v : V} (σ : L2.St), σ[0]? = some (some (.ref r)) → EvN K tb σ H11 (.int z) → 0 ≤ z → xs[z.toNat]? = some v → Ev (tOp (rIxL K) (tVar 0) tb) σ H11 v := fun σ hs hb h0 hv => ev_ixR (ev_var hs) hr11 hb h0 hv
        have sl1 := el_slX (K := K) (σ := [some (.ref r), some (.ref a), some xv, some (.ref l), some xv2, o5]) (tb := tVar 4) (tc := tOp (rI0 fun i j => .int (i + j)) (tVar 4) (tC (.int 2))) (n := 2 * i2) (m := 2 * i2 + 2) (ixr (tb := tVar 2) _ rfl (en_var rfl hd11) (by omega) (by rw [show (0 + (i : Int) * 2).toNat = 2 * i by omega]; exact hx1)) hw1 hd1 ((en_var rfl hd2).cast (by congr 1; omega)) ((en_op0 (en_var rfl hd2) en_int).cast (by congr 1; omega)) (by omega) (by rw [List.length_map, hl1]; omega)
        have sl2 := el_slX (K := K) (σ := [some (.ref r), some (.ref a), some xv, some (.ref l), some xv2, o5]) (tb := tVar 4) (tc := tOp (rI0 fun i j => .int (i + j)) (tVar 4) (tC (.int 2))) (n := 2 * i2) (m := 2 * i2 + 2) (ixr (tb := tOp (rI0 fun i j => .int (i + j)) (tVar 2) (tC (.int 1))) _ rfl (en_op0 (en_var rfl hd11) en_int) (by omega) (by rw [show (0 + (i : Int) * 2 + 1).toNat = 2 * i + 1 by omega]; exact hx2)) hw2 hd2' ((en_var rfl hd2).cast (by congr 1; omega)) ((en_op0 (en_var rfl hd2) en_int).cast (by congr 1; omega)) (by omega) (by rw [List.length_map, hl2]; omega)
        rw [two_at (a := dT t0) (b := dT t1) (by rw [List.getElem?_map, h0]; rfl) (by rw [List.getElem?_map, h1]; rfl)] at sl1
        rw [two_at (a := dT t2) (b := dT t3) (by rw [List.getElem?_map, h2]; rfl) (by rw [List.getElem?_map, h3]; rfl)] at sl2
        refine q_setL (el_cat sl1 sl2 (by simp)) fun sm ws12 H12 ns e12 hsm hs12 => ?_
        have it : ∀ (q : Nat) (t : Tr), ([dT t0, dT t1, dT t2, dT t3])[q]? = some (dT t) → EvN K (tOp (rIxL K) (tVar 5) (tC (.int (q : Int)))) [some (.ref r), some (.ref a), some xv, some (.ref l), some xv2, some (.ref sm)] H12 (dT t) := fun q t hq => en_ixL (ev_var rfl) (sq_of hsm) en_int hs12 (by omega) (by rw [Int.toNat_natCast]; exact hq)
        have hl12 := e12 _ _ (e11 _ _ hl10)
        refine s_pushX (K := K) (Pd := FitK (j + 1) (4 ^ (j + 1))) hl12 (ev_var rfl) (ex_callG (eg_conN (it 0 t0 rfl) (eg_conN (it 1 t1 rfl) (eg_conN (it 2 t2 rfl) (eg_conN (it 3 t3 rfl) eg_nil')))) fun vs8 H13 e13 hp8 Q8 k8 => ?_) (by rw [hts.len, List.length_map, htl]; omega) fun v13 H13 d13 e13 hd13 hP13 => ?_
        · obtain ⟨w0, r0, rfl, g0, w1, r1, rfl, g1, w2, r2, rfl, g2, w3, r3, rfl, g3, rfl⟩ := hp8
          have c0 := ht1 t0 m0; have c1 := ht1 t1 m1; have c2 := ht2 t2 m2; have c3 := ht2 t3 m3
          refine ⟨t0, t1, t2, t3, j, .cons g0 (.cons g1 (.cons g2 (.cons g3 .nil))), c0.1, c1.1, c2.1, c3.1, by omega, fun v H14 t e14 hd14 hf14 hc14 => k8 v H14 _ e14 hd14 ⟨t, rfl, hf14, ?_⟩⟩
          rw [Nat.pow_succ]; omega
        · obtain ⟨t, rfl, hf13, hc13⟩ := hP13
          have hl13 := e13 _ _ hl12
          have tk13 := lst_tk (o := .lst (us ++ [v13])) hl13
          refine hN2 _ _ ((ExB.of (e12.trans e13)).upd (by simp)) ⟨us ++ [v13], ts ++ [t], _, _, rfl, upd_same, ?_, by simp [htl], fun y hy => ?_⟩
          · rw [List.map_append]
            exact ((hts.ex (e11.trans (e12.trans e13))).keep tk13).snoc (hd13.keep tk13)
          · rcases List.mem_append.mp hy with hy | hy
            · exact htt y hy
            · simp at hy; subst hy; exact ⟨hf13, hc13⟩
      · obtain ⟨us, ts, o4, o5, rfl, hl10, hts, htl, htt⟩ := pv
        have e810 : Ex H8 H10 := ex_back e9 nl e10
        have ha10 := e810 _ _ (e8 _ _ ha7)
        rw [List.length_range] at htl
        refine s_app (K := K) ha10 (ev_var rfl) (ev_var rfl) (by rw [hR7.len, hRl]; omega) fun H11 e11 => ?_
        have ha11 := e11 _ _ ha10
        have tk11 := lst_tk (o := .lst (ys ++ [V.ref l])) ha11
        refine hN _ _ ((ExB.of (e810.trans e11)).upd (by simp)) ⟨ys ++ [V.ref l], R' ++ [ts], _, _, _, _, rfl, upd_same, ?_, ?_, by simp [hRl], fun y hy => ?_⟩
        · refine RG.snoc ⟨l, us, rfl, ?_, (hts.ex e11).keep tk11⟩ ?_
          · rw [upd_ne (Ne.symm hla)]; exact e11 _ _ hl10
          · exact (hR7.ex ((e8.trans e810).trans e11)).keep (m := [a]) ((ExB.refl _ _).upd (by simp)) tk11 fun b hb z => by
              simp at hb; subst hb; exact hay z
        · intro z
          rcases List.mem_append.mp z with z | z
          · exact hay z
          · simp at z; exact hla z
        · rcases List.mem_append.mp hy with hy | hy
          · exact hRt y hy
          · simp at hy; subst hy; exact ⟨htl, htt⟩
    · obtain ⟨ys, R', o2, o3, o4, o5, rfl, ha7, hR7, hay, hRl, hRt⟩ := pv
      rw [List.length_range] at hRl
      have eH7 : Ex H H7 := ex_back (eH.trans e56) (fresh_back (eH.trans e5) na) e7
      refine s_asg (ev_var rfl) fun H8 e8 => ⟨a, ys, R', j + 1, _, _, _, _, _, rfl, eH7.trans e8, e8 _ _ ha7, hR7.ex e8, by omega, hRl, hRt⟩
  · have g' : ¬ 1 < xs.length := by have := of_decide_eq_false g; omega
    have hm0 : m = 0 := by
      cases m with
      | zero => rfl
      | succ m =>
        have : 0 < 2 ^ m := Nat.pos_of_ne_zero (by simp)
        rw [hxl, Nat.pow_succ] at g'; omega
    subst hm0
    have hjn : j = n := by omega
    subst hjn
    obtain ⟨r1, hr1⟩ : ∃ r1, R[0]? = some r1 := ⟨_, List.getElem?_eq_getElem (by rw [hTR.1]; simp)⟩
    obtain ⟨hl1, ht1⟩ := hTR.2 r1 (List.mem_of_getElem? hr1)
    obtain ⟨t, ht⟩ : ∃ t, r1[0]? = some t := ⟨_, List.getElem?_eq_getElem (by rw [hl1]; simp)⟩
    obtain ⟨hf, hc⟩ := ht1 t (List.mem_of_getElem? ht)
    obtain ⟨a1, w1, hx1, hw1, hd1⟩ := (hRR.ex e5).get hr1
    exact s_retN (en_ixL (d := dT t) (ev_ixR (ev_var rfl) (e5 _ _ hr0) en_int (by decide) hx1) (sq_of hw1) en_int hd1 (by decide) (by simp [ht])) fun v H6 e6 hd6 => k v H6 t (eH.trans (e5.trans e6)) hd6 hf hc
end
end QW
set_option autoImplicit true
set_option Elab.async false
set_option linter.all false
set_option maxRecDepth 100000
set_option maxHeartbeats 4000000
namespace QW
open PySem PySem.Spec PyProof.Rows L2 Evl QX
open QS (Qd Sd Tr Sq sqr Pt Way pw)
section
variable {K : PySem.W.Frag} {σ : L2.St} {H : Hp} {ta te tb tc : TE} {ds : List PyData} {d : PyData} {i : Int}
theorem en_ixLs (ha : EvLs K ta σ H ds) (hb : EvN K tb σ H (.int i)) (h0 : 0 ≤ i) (hi : ds[i.toNat]? = some d) : EvN K (tOp (rIxL K) ta tb) σ H d := fun H1 a Q q =>
  ha H1 a _ fun p vs H2 np a2 hp hs => hb.vi H2 (a.trans a2) _ fun H3 a3 => by
    obtain ⟨w, h1, h2⟩ := hs.get hi
    exact ⟨p, vs, i, w, rfl, rfl, sq_of (a3 _ _ hp), atI_of h0 h1, q w H3 (a2.trans a3) (h2.ex a3)⟩
end
theorem mod_nat (z : Int) {m : Int} (h : 0 < m) : ∃ n : Nat, z % m = (n : Int) ∧ (n : Int) < m :=
  ⟨(z % m).toNat, by have := Int.emod_nonneg z (b := m) (by omega); omega, by have := Int.emod_lt_of_pos z h; have := Int.emod_nonneg z (b := m) (by omega); omega⟩
section
variable {P : Program} {w : World} {K : PySem.W.Frag} {mg : Str → Option Value} {base : Heap} {tM tS : Tok} {aS aF aW : Addr}
abbrev s__law_grid : Stmt := top 56
abbrev N__law_grid : List Str := ["_law_script", "_law_first", "_law_level", "_law_wide", "_law_share", "_law_few", "_law_rows", "_law_y", "_law_cell", "_law_row", "_law_x", "_law_k", "_law_value"]
abbrev P__law_grid : List Str := ["_law_script", "_law_first", "_law_level"]
theorem sc__law_grid : FnScope N__law_grid P__law_grid (defScope s__law_grid) := ⟨rfl, rfl, rfl, by decide +kernel, rfl, by decide +kernel, by decide +kernel⟩
theorem nd__law_grid : N__law_grid.Nodup := sc__law_grid.nd
def sp__law_grid (K : PySem.W.Frag) : Sp := fun vs H Q _ => ∃ (p : Addr) (ns : List Int) (v1 v2 : V) (n : Nat), vs = [.ref p, v1, v2] ∧ Scr K H p ns ∧ Dn K H v1 (.int 1) ∧ Dn K H v2 (.int n) ∧ n ≤ 3 ∧
  ∀ (q : Addr) (H' : Hp) (xs : List V) (R : List (List Tr)), H q = none → Ex H H' → H' q = some (.lst xs) → RG dT K H' xs R → TRows 0 1 (2 ^ n) R → Q (.ref q) H'
theorem ok__law_grid (T : Txt K w mg tM tS aS aF aW) (F : Fd K mg "_law_grid" s__law_grid) (C__law_at : Ca P w K mg base "_law_at" P__law_at 1 (sp__law_at K)) : Ca P w K mg base "_law_grid" P__law_grid 2 (sp__law_grid K) := by
  refine F.mk sc__law_grid (fun _ _ _ _ _ _ us hl => match us, hl with | [_, _, _], _ => rfl) (fun vs H Q E ⟨_, _, _, _, _, e, _⟩ => by rw [e]; rfl) (fun f0 cdv A outer s H vs Q E hr h => ?_)
  obtain ⟨p, ns, v1, v2, n, rfl, hs, h1, h2, hn, k⟩ := h
  refine ⟨_, (pss_cons (ps_set (i := 3) nd__law_grid rfl (Or.inl rfl) (pe_op op_shl pe_int (pv 2)))
      (pss_cons (ps_set (i := 4) nd__law_grid rfl (Or.inl rfl) (pe_op op_mod (pe_ca C__law_at hr (pa_cons (pv 0) (pa_cons (pv 1) pa_nil))) pe_int))
      (pss_cons (ps_set (i := 5) nd__law_grid rfl (Or.inl rfl) (pe_lst (pa_cons pe_int (pa_cons pe_int (pa_cons (pe_op op_mod (pe_op op_fdiv (pe_ca C__law_at hr (pa_cons (pv 0) (pa_cons (pv 1) pa_nil))) pe_int) pe_int) (pa_cons (pe_op op_mod (pe_op op_fdiv (pe_ca C__law_at hr (pa_cons (pv 0) (pa_cons (pv 1) pa_nil))) pe_int) pe_int) pa_nil))))))
      (pss_cons (ps_set (i := 6) nd__law_grid rfl (Or.inl rfl) (pe_lst pa_nil))
      (pss_cons (ps_for PassesOwn.never rfl (pi_range1 (by rfl) T.range (pa_cons (pv 3) pa_nil)) (pg_name (i := 7) nd__law_grid rfl (Or.inl rfl)) (pss_cons (ps_set (i := 8) nd__law_grid rfl (Or.inl rfl) (pe_op op_add (pe_ca C__law_at hr (pa_cons (pv 0) (pa_cons (pe_op op_add (pe_op op_add (pv 1) pe_int) (pe_op op_fdiv (pv 7) pe_int)) pa_nil))) (pe_op op_mul pe_int (pe_op op_mod (pv 7) pe_int))))
      (pss_cons (ps_set (i := 9) nd__law_grid rfl (Or.inl rfl) (pe_lst pa_nil))
      (pss_cons (ps_for PassesOwn.never rfl (pi_range1 (by rfl) T.range (pa_cons (pv 3) pa_nil)) (pg_name (i := 10) nd__law_grid rfl (Or.inl rfl)) (pss_cons (ps_set (i := 11) nd__law_grid rfl (Or.inl rfl) (pe_op op_fdiv (pv 10) (pe_op op_add pe_int (pe_op op_mod (pv 4) pe_int))))
      (pss_cons (ps_set (i := 12) nd__law_grid rfl (Or.inl rfl) (pe_op op_mul (pe_op op_add (pe_op op_add (pe_op op_add (pe_op op_mod (pv 8) pe_int) (pe_op op_mul pe_int (pv 11))) (pe_op op_mul (pe_op op_mul pe_int (pv 11)) (pv 11))) pe_int) pe_int))
      (pss_cons (ps_set (i := 12) nd__law_grid rfl (Or.inl rfl) (pe_op op_fdiv (pe_op op_mod (pe_op op_mul (pe_op op_add (pe_op op_fdiv (pe_op op_mod (pv 12) pe_int) pe_int) (pv 11)) pe_int) pe_int) pe_int))
      (pss_one (ps_expr (pe_bm PySem.F.plainAttrs_list PySem.F.slot_list_append PySem.F.type_list_append mt_append (pv 9) (pa_cons (pe_ix ix_list (pv 5) (pe_op op_mod (pv 12) (pe_ix ix_list (pe_lst (pa_cons pe_int (pa_cons pe_int (pa_cons pe_int (pa_cons pe_int (pa_cons pe_int pa_nil)))))) (pv 4) (fun _ _ => rfl))) (fun _ _ => rfl)) pa_nil))))))))
      (pss_one (ps_expr (pe_bm PySem.F.plainAttrs_list PySem.F.slot_list_append PySem.F.type_list_append mt_append (pv 6) (pa_cons (pv 9) pa_nil))))))))
      (pss_one (ps_ret (pv 6)))))))), ?_⟩
  have hn8 : 2 ^ n ≤ 8 := Nat.le_trans (Nat.pow_le_pow_right (by omega) hn) (by decide)
  refine q_set (en_opC en_int (en_var rfl h2) ⟨by omega, by omega, by decide⟩) fun v3 H1 e1 d3 => ?_
  rw [show (1 : Int) * 2 ^ ((n : Int)).toNat = ((2 ^ n : Nat) : Int) by rw [Int.toNat_natCast]; simp] at d3
  generalize hW : 2 ^ n = W at hn8 d3 k
  obtain ⟨sh, hsh, hsh5⟩ := mod_nat (nthI ns 1) (m := 5) (by decide)
  refine q_set (EvN.cast (en_opC (en_at (ev_var rfl) (hs.ex e1) (en_var rfl (h1.ex e1)) (by decide)) en_int (by decide)) (by rw [hsh])) fun v4 H2 e2 d4 => ?_
  have e02 := e1.trans e2
  have at1 := en_at (K := K) (ta := tVar 0) (te := tVar 1) (σ := [some (.ref p), some v1, some v2, some v3, some v4, none, none, none, none, none, none, none, none]) (ev_var rfl) (hs.ex e02) (en_var rfl (h1.ex e02)) (by decide)
  refine q_setL (K := K) (el_lst (eg_cons en_int (eg_cons en_int (eg_cons (en_opC (en_opC at1 en_int ⟨by decide, by decide⟩) en_int (by decide)) (eg_cons (en_opC (en_opC at1 en_int ⟨by decide, by decide⟩) en_int (by decide)) eg_nil))))) fun fw fws H3 nf e3 hf hfs => ?_
  refine q_setL (K := K) (el_lst eg_nil) fun a ws0 H4 na e4 ha hs0 => ?_
  have hw0 : ws0 = [] := by cases hs0; rfl
  subst hw0
  have e03 := e02.trans e3
  have e04 := e03.trans e4
  have naH := fresh_back e03 na
  refine q_for (m := [a]) (α := Nat) (enc := fun i => .int (0 + (i : Int))) (xs := List.range W) (ei_range1 (n := ((W : Nat) : Int)) (eg_cons (en_var rfl (d3.ex ((e2.trans e3).trans e4))) eg_nil) (by omega) (by omega)) (.one ha)
    (fun pre σ' H' => ∃ (ys : List V) (R' : List (List Tr)) (o7 o8 o9 o10 o11 o12 : Option V), σ' = [some (.ref p), some v1, some v2, some v3, some v4, some (.ref fw), some (.ref a), o7, o8, o9, o10, o11, o12] ∧ H' a = some (.lst ys) ∧ RG dT K H' ys R' ∧ V.ref a ∉ ys ∧ R'.length = pre.length ∧ ∀ r ∈ R', r.length = W ∧ ∀ t ∈ r, QS.Fits t 0 ∧ t.count ≤ 1)
    (fun H7 e7 => ⟨[], [], none, none, none, none, none, none, rfl, e7 _ _ ha, .nil, by simp, rfl, fun _ z => nomatch z⟩) (fun pre i post xv σ' H7 H8 hxs e7 pv e8 hd N hN => ?_) (fun σ' H7 e7 pv => ?_)
  · obtain ⟨ys, R', o7, o8, o9, o10, o11, o12, rfl, ha7, hR7, hay, hRl, hRt⟩ := pv
    obtain ⟨hi, hin, _⟩ := range_split hxs
    rw [Int.zero_add] at hd
    have eH8 : Ex H H8 := (ex_back e04 naH e7).trans e8
    have e38 : Ex H3 H8 := (ex_back e4 na e7).trans e8
    refine q_set (en_op0 (en_at (ev_var rfl) (hs.ex eH8) (en_op0 (en_op0 (en_var rfl (h1.ex eH8)) en_int) (en_opC (en_var rfl hd) en_int ⟨by decide, by decide⟩)) (by omega)) (en_opC en_int (en_opC (en_var rfl hd) en_int (by decide)) (.inl ⟨by decide, by decide⟩))) fun v8 H9 e9 d9 => ?_
    refine q_setL (K := K) (el_lst eg_nil) fun l ws0 H10 nl e10 hl hs0 => ?_
    have hw0 : ws0 = [] := by cases hs0; rfl
    subst hw0
    have e810' := e9.trans e10
    have hla : a ≠ l := fun z => by rw [← z, (e8.trans e9) _ _ ha7] at nl; cases nl
    have nl8 : H8 l = none := fresh_back e9 nl
    refine q_for (m := [l]) (α := Nat) (enc := fun i => .int (0 + (i : Int))) (xs := List.range W) (ei_range1 (n := ((W : Nat) : Int)) (eg_cons (en_var rfl (d3.ex (((e2.trans e3).trans (ex_back e4 na e7)).trans (e8.trans e810')))) eg_nil) (by omega) (by omega)) (.one hl)
      (fun pre2 σ' H' => ∃ (us : List V) (ts : List Tr) (o10 o11 o12 : Option V), σ' = [some (.ref p), some v1, some v2, some v3, some v4, some (.ref fw), some (.ref a), some xv, some v8, some (.ref l), o10, o11, o12] ∧ H' l = some (.lst us) ∧ DnAll K H' us (ts.map dT) ∧ ts.length = pre2.length ∧ ∀ t ∈ ts, QS.Fits t 0 ∧ t.count ≤ 1)
      (fun H11 e11 => ⟨[], [], o10, o11, o12, rfl, e11 _ _ hl, .nil, rfl, fun _ z => nomatch z⟩) (fun pre2 i2 post2 xv2 σ' H11 H12 hxs2 e11 pv e12 hd2 N2 hN2 => ?_) (fun σ' H11 e11 pv => ?_)
    · obtain ⟨us, ts, o10, o11, o12, rfl, hl11, hts, htl, htt⟩ := pv
      obtain ⟨hi2, hin2, _⟩ := range_split hxs2
      rw [Int.zero_add] at hd2
      have e812 : Ex H8 H12 := (ex_back e810' nl8 e11).trans e12
      have e312 := e38.trans e812
      obtain ⟨s3, hs3, hs3l⟩ := mod_nat (sh : Int) (m := 3) (by decide)
      have d4' := d4.ex (e3.trans e312)
      refine q_set (en_opC (en_var rfl hd2) (en_op0 en_int (EvN.cast (en_opC (en_var rfl d4') en_int (by decide)) (by rw [hs3]))) ⟨by omega, by omega⟩) fun v11 H13 e13 d13 => ?_
      have hk : ∃ kk : Nat, ((i2 : Int) / (1 + (s3 : Int))) = (kk : Int) ∧ kk ≤ 8 := ⟨i2 / (1 + s3), by simp, Nat.le_trans (Nat.div_le_self _ _) (by omega)⟩
      obtain ⟨kk, hkk, hkl⟩ := hk
      rw [hkk] at d13
      refine q_set (en_opC (en_op0 (en_op0 (en_op0 (en_opC (en_var rfl ((((d9.ex e10).keep (e11.tk (.one hl))).ex e12).ex e13)) en_int (by decide)) (en_opC en_int (en_var rfl d13) (.inl ⟨by decide, by decide⟩))) (en_opC (en_opC en_int (en_var rfl d13) (.inl ⟨by decide, by decide⟩)) (en_var rfl d13) (.inr ⟨by omega, by omega⟩))) en_int) en_int (.inr ⟨by decide, by decide⟩)) fun v12 H14 e14 d14 => ?_
      refine q_set (en_opC (en_opC (en_opC (en_op0 (en_opC (en_opC (en_var rfl d14) en_int (by decide)) en_int ⟨by decide, by decide⟩) (en_var rfl (d13.ex e14))) en_int (.inr ⟨by decide, by decide⟩)) en_int (by decide)) en_int ⟨by decide, by decide⟩) fun v12 H15 e15 d15 => ?_
      have e1215 := (e13.trans e14).trans e15
      obtain ⟨mm, hmm, hm4⟩ : ∃ mm : Nat, ([.int 2, .int 2, .int 3, .int 4, .int 4] : List PyData)[((sh : Nat) : Int).toNat]? = some (.int (mm : Nat)) ∧ (0 < mm ∧ mm ≤ 4) := by
        rw [Int.toNat_natCast]
        have : sh < 5 := by omega
        match sh, this with
        | 0, _ => exact ⟨2, rfl, by decide⟩
        | 1, _ => exact ⟨2, rfl, by decide⟩
        | 2, _ => exact ⟨3, rfl, by decide⟩
        | 3, _ => exact ⟨4, rfl, by decide⟩
        | 4, _ => exact ⟨4, rfl, by decide⟩
      have hl12 := e12 _ _ hl11
      have hl15 := e1215 _ _ hl12
      refine s_pushX (K := K) (Pd := fun d => ∃ z : Int, d = .int z) hl15 (ev_var rfl) ?_ (by rw [hts.len, List.length_map, htl]; omega) fun v16 H16 d16 e16 hd16 hP16 => ?_
      · generalize (((((((nthI ns (1 + 1 + (i : Int) / 2) + 7 * ((i : Int) % 2)) % 999983 + 31 * (kk : Int) + 7 * (kk : Int) * (kk : Int) + 3) * 48271) % 2147483647) / 7 + (kk : Int)) * 69621) % 2147483629) / 11 = zz at d15
        obtain ⟨z, hz, hzl⟩ := mod_nat zz (m := (mm : Int)) (by omega)
        obtain ⟨u, hu⟩ : ∃ u : Int, ([.int 0, .int 1, .int (nthI ns 1 / 5 % 36), .int (nthI ns 1 / 180 % 36)] : List PyData)[((z : Nat) : Int).toNat]? = some (.int u) := by
          rw [Int.toNat_natCast]
          have : z < 4 := by omega
          match z, this with
          | 0, _ => exact ⟨_, rfl⟩
          | 1, _ => exact ⟨_, rfl⟩
          | 2, _ => exact ⟨_, rfl⟩
          | 3, _ => exact ⟨_, rfl⟩
        have d415 := d4'.ex e1215
        exact (en_ixL (d := .int u) (ev_var rfl) (sq_of (e1215 _ _ (e312 _ _ hf))) (EvN.cast (en_opC (en_var rfl d15) (en_ixLs (el_lst (eg_cons en_int (eg_cons en_int (eg_cons en_int (eg_cons en_int (eg_cons en_int eg_nil)))))) (en_var rfl d415) (by omega) hmm) (by show (0 : Int) < _; omega)) (by rw [hz])) (hfs.ex (e312.trans e1215)) (by omega) hu).x ⟨u, rfl⟩
      · obtain ⟨z, rfl⟩ := hP16
        have hl16 := e16 _ _ hl15
        have tk16 := lst_tk (o := .lst (us ++ [v16])) hl16
        refine hN2 _ _ ((ExB.of (e1215.trans e16)).upd (by simp)) ⟨us ++ [v16], ts ++ [.leaf z], _, _, _, rfl, upd_same, ?_, by simp [htl], fun y hy => ?_⟩
        · rw [List.map_append]
          exact ((hts.ex (e12.trans (e1215.trans e16))).keep tk16).snoc (hd16.keep tk16)
        · rcases List.mem_append.mp hy with hy | hy
          · exact htt y hy
          · simp at hy; subst hy; exact ⟨.leaf _ _, by simp [QS.Tr.count]⟩
    · obtain ⟨us, ts, o10, o11, o12, rfl, hl11, hts, htl, htt⟩ := pv
      have e811 : Ex H8 H11 := ex_back e810' nl8 e11
      have ha11 := e811 _ _ (e8 _ _ ha7)
      rw [List.length_range] at htl
      refine s_app (K := K) ha11 (ev_var rfl) (ev_var rfl) (by rw [hR7.len, hRl]; omega) fun H12 e12 => ?_
      have ha12 := e12 _ _ ha11
      have tk12 := lst_tk (o := .lst (ys ++ [V.ref l])) ha12
      refine hN _ _ ((ExB.of (e811.trans e12)).upd (by simp)) ⟨ys ++ [V.ref l], R' ++ [ts], _, _, _, _, _, _, rfl, upd_same, ?_, ?_, by simp [hRl], fun y hy => ?_⟩
      · refine RG.snoc ⟨l, us, rfl, ?_, (hts.ex e12).keep tk12⟩ ?_
        · rw [upd_ne (Ne.symm hla)]; exact e12 _ _ hl11
        · exact (hR7.ex ((e8.trans e811).trans e12)).keep (m := [a]) ((ExB.refl _ _).upd (by simp)) tk12 fun b hb z => by
            simp at hb; subst hb; exact hay z
      · intro z
        rcases List.mem_append.mp z with z | z
        · exact hay z
        · simp at z; exact hla z
      · rcases List.mem_append.mp hy with hy | hy
        · exact hRt y hy
        · simp at hy; subst hy; exact ⟨htl, htt⟩
  · obtain ⟨ys, R', o7, o8, o9, o10, o11, o12, rfl, ha7, hR7, hay, hRl, hRt⟩ := pv
    rw [List.length_range] at hRl
    exact s_ret (ev_var rfl) fun H8 e8 => k a H8 ys R' naH ((ex_back e04 naH e7).trans e8) (e8 _ _ ha7) (hR7.ex e8) ⟨hRl, hRt⟩
end
end QW
set_option autoImplicit true
set_option Elab.async false
set_option linter.all false
set_option maxRecDepth 100000
set_option maxHeartbeats 4000000
namespace QW
open PySem PySem.Spec PyProof.Rows L2 Evl QX
open QS (Qd Sd Tr Sq sqr Pt Way pw)
def ShOk (d : PyData) : Prop := ∃ (L : Nat) (t : Tr), d = dSh L t ∧ L ≤ 40 ∧ QS.Fits t L ∧ t.count ≤ 1000
theorem most_ix (L : Nat) (h : L ≤ 40) : ∃ most : Nat, ([.int 5, .int 2, .int 1] : List PyData)[((if decide ((L : Int) > 8) = true then (1 : Int) else 0) + (if decide ((L : Int) > 20) = true then (1 : Int) else 0)).toNat]? = some (.int (most : Nat)) ∧ most * L ≤ 40 ∧ most ≤ 5 ∧ 0 ≤ ((if decide ((L : Int) > 8) = true then (1 : Int) else 0) + (if decide ((L : Int) > 20) = true then (1 : Int) else 0)) := by
  by_cases h1 : (L : Int) > 8
  · by_cases h2 : (L : Int) > 20
    · exact ⟨1, by simp [h1, h2], by omega, by omega, by simp [h1, h2]⟩
    · exact ⟨2, by simp [h1, h2], by omega, by omega, by simp [h1, h2]⟩
  · have h2 : ¬ (L : Int) > 20 := by omega
    exact ⟨5, by simp [h1, h2], by omega, by omega, by simp [h1, h2]⟩
section
variable {P : Program} {w : World} {K : PySem.W.Frag} {mg : Str → Option Value} {base : Heap} {tM tS : Tok} {aS aF aW : Addr}
/-- the tree by paints -/
theorem ex_treeBy {σ : L2.St} {H : Hp} {te : TE} {ps : List (Cd × Int)} {m n : Nat} (h : EvG (tCons te tNil) σ H fun vs H' => ∃ p ws, vs = [.ref p] ∧ H' p = some (.lst ws) ∧ DnAll K H' ws (ps.map dPc)) (hmn : m < n) (hl : ∀ x ∈ ps, x.1.length ≤ m) (hm : m ≤ 40) (hn : ps.length + m ≤ 140) (hp : plen ps ≤ 300) :
    EvX K (tCall (sp__law_tree_by K n) [] E0 (tCons te tNil)) σ H (FitK m 1000) :=
  ex_callG h fun vs H1 e1 hp Q q => by
    obtain ⟨p, ws, rfl, h1, h2⟩ := hp
    exact ⟨p, ws, ps, m, rfl, h1, h2, hmn, hl, hm, hn, fun v H' t e hd hf hc => q v H' _ e hd ⟨t, rfl, hf, by omega⟩⟩
abbrev s__law_sheet_by_digits : Stmt := top 58
abbrev N__law_sheet_by_digits : List Str := ["_law_cell", "_law_rest", "_law_level", "_law_many", "_law_base", "_law_rows", "_law_y", "_law_row", "_law_x", "_law_paints_here", "_law_k", "_law_code_here", "_law_size", "_law_colour_here", "_law_j"]
abbrev P__law_sheet_by_digits : List Str := ["_law_cell"]
theorem sc__law_sheet_by_digits : FnScope N__law_sheet_by_digits P__law_sheet_by_digits (defScope s__law_sheet_by_digits) := ⟨rfl, rfl, rfl, by decide +kernel, rfl, by decide +kernel, by decide +kernel⟩
theorem nd__law_sheet_by_digits : N__law_sheet_by_digits.Nodup := sc__law_sheet_by_digits.nd
def sp__law_sheet_by_digits (K : PySem.W.Frag) : Sp := fun vs H Q _ => ∃ (v : V) (z : Int), vs = [v] ∧ Dn K H v (.int z) ∧ ∀ v' H' d, Ex H H' → Dn K H' v' d → ShOk d → Q v' H'
theorem ok__law_sheet_by_digits (T : Txt K w mg tM tS aS aF aW) (F : Fd K mg "_law_sheet_by_digits" s__law_sheet_by_digits) (C__law_tree_of_rows : Ca P w K mg base "_law_tree_of_rows" P__law_tree_of_rows 2 (sp__law_tree_of_rows K)) (C__law_tree_by : Ca P w K mg base "_law_tree_by" P__law_tree_by 42 (sp__law_tree_by K 41)) : Ca P w K mg base "_law_sheet_by_digits" P__law_sheet_by_digits 43 (sp__law_sheet_by_digits K) := by
  refine F.mk sc__law_sheet_by_digits (fun _ _ _ _ _ _ us hl => match us, hl with | [_], _ => rfl) (fun vs H Q E ⟨_, _, e, _⟩ => by rw [e]; rfl) (fun f0 cdv A outer s H vs Q E hr h => ?_)
  obtain ⟨v0, z, rfl, h0, k⟩ := h
  refine ⟨_, (pss_cons (ps_set (i := 1) nd__law_sheet_by_digits rfl (Or.inl rfl) (pe_op op_fdiv (pv 0) pe_int))
      (pss_cons (ps_if (pt_cmpR op_eq (pe_op op_mod (pv 0) pe_int) pe_int (nomark _)) (pss_cons (ps_set (i := 2) nd__law_sheet_by_digits rfl (Or.inl rfl) (pe_op op_mod (pv 1) pe_int))
      (pss_cons (ps_set (i := 3) nd__law_sheet_by_digits rfl (Or.inl rfl) (pe_ix ix_tup (pe_tup (pa_cons pe_int (pa_cons pe_int (pa_cons pe_int (pa_cons pe_int pa_nil))))) (pe_op op_mod (pe_op op_fdiv (pv 1) pe_int) pe_int) (fun _ _ => rfl)))
      (pss_cons (ps_set (i := 4) nd__law_sheet_by_digits rfl (Or.inl rfl) (pe_op op_mod (pe_op op_fdiv (pv 1) pe_int) pe_int))
      (pss_cons (ps_set (i := 1) nd__law_sheet_by_digits rfl (Or.inl rfl) (pe_op op_fdiv (pv 1) pe_int))
      (pss_cons (ps_set (i := 5) nd__law_sheet_by_digits rfl (Or.inl rfl) (pe_lst pa_nil))
      (pss_cons (ps_for PassesOwn.never rfl (pi_range1 (by rfl) T.range (pa_cons (pe_op op_shl pe_int (pv 2)) pa_nil)) (pg_name (i := 6) nd__law_sheet_by_digits rfl (Or.inl rfl)) (pss_cons (ps_set (i := 7) nd__law_sheet_by_digits rfl (Or.inl rfl) (pe_lst pa_nil))
      (pss_cons (ps_for PassesOwn.never rfl (pi_range1 (by rfl) T.range (pa_cons (pe_op op_shl pe_int (pv 2)) pa_nil)) (pg_name (i := 8) nd__law_sheet_by_digits rfl (Or.inl rfl)) (pss_cons (ps_expr (pe_bm PySem.F.plainAttrs_list PySem.F.slot_list_append PySem.F.type_list_append mt_append (pv 7) (pa_cons (pe_op op_mod (pe_op op_add (pv 4) (pe_op op_mod (pv 1) (pv 3))) pe_int) pa_nil)))
      (pss_one (ps_set (i := 1) nd__law_sheet_by_digits rfl (Or.inl rfl) (pe_op op_fdiv (pv 1) (pv 3))))))
      (pss_one (ps_expr (pe_bm PySem.F.plainAttrs_list PySem.F.slot_list_append PySem.F.type_list_append mt_append (pv 5) (pa_cons (pv 7) pa_nil)))))))
      (pss_one (ps_ret (pe_tup (pa_cons (pv 2) (pa_cons (pe_ca C__law_tree_of_rows hr (pa_cons (pv 5) pa_nil)) pa_nil))))))))))) pss_nil)
      (pss_cons (ps_set (i := 2) nd__law_sheet_by_digits rfl (Or.inl rfl) (pe_op op_mod (pv 1) pe_int))
      (pss_cons (ps_set (i := 4) nd__law_sheet_by_digits rfl (Or.inl rfl) (pe_op op_mod (pe_op op_fdiv (pv 1) pe_int) pe_int))
      (pss_cons (ps_set (i := 1) nd__law_sheet_by_digits rfl (Or.inl rfl) (pe_op op_fdiv (pv 1) pe_int))
      (pss_cons (ps_set (i := 9) nd__law_sheet_by_digits rfl (Or.inl rfl) (pe_lst (pa_cons (pe_tup (pa_cons pe_str (pa_cons (pv 4) pa_nil))) pa_nil)))
      (pss_cons (ps_for PassesOwn.never rfl (pi_range1 (by rfl) T.range (pa_cons (pe_ix ix_list (pe_lst (pa_cons pe_int (pa_cons pe_int (pa_cons pe_int pa_nil)))) (pe_op op_add (pe_callTy call_int1 (by rfl) T.int b_int (pa_cons (pe_cmpR op_gt (pv 2) pe_int (nomark _)) pa_nil)) (pe_callTy call_int1 (by rfl) T.int b_int (pa_cons (pe_cmpR op_gt (pv 2) pe_int (nomark _)) pa_nil))) (fun _ _ => rfl)) pa_nil)) (pg_name (i := 10) nd__law_sheet_by_digits rfl (Or.inl rfl)) (pss_cons (ps_set (i := 11) nd__law_sheet_by_digits rfl (Or.inl rfl) pe_str)
      (pss_cons (ps_set (i := 12) nd__law_sheet_by_digits rfl (Or.inl rfl) (pe_op op_mod (pv 1) (pe_op op_add (pv 2) pe_int)))
      (pss_cons (ps_set (i := 13) nd__law_sheet_by_digits rfl (Or.inl rfl) (pe_op op_mod (pe_op op_fdiv (pv 1) (pe_op op_add (pv 2) pe_int)) pe_int))
      (pss_cons (ps_set (i := 1) nd__law_sheet_by_digits rfl (Or.inl rfl) (pe_op op_fdiv (pv 1) (pe_op op_add (pe_op op_mul pe_int (pv 2)) pe_int)))
      (pss_cons (ps_for PassesOwn.never rfl (pi_range1 (by rfl) T.range (pa_cons (pv 12) pa_nil)) (pg_name (i := 14) nd__law_sheet_by_digits rfl (Or.inl rfl)) (pss_cons (ps_set (i := 11) nd__law_sheet_by_digits rfl (Or.inl rfl) (pe_op op_add_str (pv 11) (pe_ix ix_str pe_str (pe_op op_mod (pv 1) pe_int) (fun _ _ => rfl))))
      (pss_one (ps_set (i := 1) nd__law_sheet_by_digits rfl (Or.inl rfl) (pe_op op_fdiv (pv 1) pe_int)))))
      (pss_one (ps_expr (pe_bm PySem.F.plainAttrs_list PySem.F.slot_list_append PySem.F.type_list_append mt_append (pv 9) (pa_cons (pe_tup (pa_cons (pv 11) (pa_cons (pv 13) pa_nil))) pa_nil))))))))))
      (pss_one (ps_ret (pe_tup (pa_cons (pv 2) (pa_cons (pe_ca C__law_tree_by hr (pa_cons (pv 9) pa_nil)) pa_nil)))))))))))), ?_⟩
  refine q_set (en_opC (en_var rfl h0) en_int ⟨by decide, by decide⟩) fun v1 H1 e1 d1 => ?_
  refine q_when (et_n (en_eqI (en_opC (en_var rfl (h0.ex e1)) en_int (by decide)) en_int)) (fun g H2 e2 => ?_) (fun g H2 e2 => ?_)
  · have e02 := e1.trans e2
    obtain ⟨n, hn, hn4⟩ := mod_nat (z / 2) (m := 4) (by decide)
    refine q_set (EvN.cast (en_opC (en_var rfl (d1.ex e2)) en_int (by decide)) (by rw [hn])) fun v2 H3 e3 d2 => ?_
    obtain ⟨q4, hq4, hq4l⟩ := mod_nat (z / 2 / 4) (m := 4) (by decide)
    obtain ⟨mm, hmm, hm0, hm36⟩ : ∃ mm : Nat, ([.int 2, .int 3, .int 4, .int 36] : List PyData)[((q4 : Nat) : Int).toNat]? = some (.int (mm : Nat)) ∧ 0 < mm ∧ mm ≤ 36 := by
      rw [Int.toNat_natCast]
      have : q4 < 4 := by omega
      match q4, this with
      | 0, _ => exact ⟨2, rfl, by decide, by decide⟩
      | 1, _ => exact ⟨3, rfl, by decide, by decide⟩
      | 2, _ => exact ⟨4, rfl, by decide, by decide⟩
      | 3, _ => exact ⟨36, rfl, by decide, by decide⟩
    have d13 := d1.ex (e2.trans e3)
    refine q_set (en_ixT (d := .int (mm : Nat)) (en_tup (eg_cons en_int (eg_cons en_int (eg_cons en_int (eg_cons en_int eg_nil))))) (EvN.cast (en_opC (en_opC (en_var rfl d13) en_int ⟨by decide, by decide⟩) en_int (by decide)) (by rw [hq4])) (by omega) hmm) fun v3 H4 e4 d3 => ?_
    refine q_set (en_opC (en_opC (en_var rfl (d13.ex e4)) en_int ⟨by decide, by decide⟩) en_int (by decide)) fun v4 H5 e5 d4 => ?_
    have e45 := e4.trans e5
    refine q_set (en_opC (en_var rfl (d13.ex e45)) en_int ⟨by decide, by decide⟩) fun v5 H6 e6 d5 => ?_
    have e46 := e45.trans e6
    have e03 := e02.trans e3
    refine q_setL (K := K) (el_lst eg_nil) fun a ws0 H7 na e7 ha hs0 => ?_
    have hw0 : ws0 = [] := by cases hs0; rfl
    subst hw0
    have e06 := e03.trans e46
    have e07 := e06.trans e7
    have naH := fresh_back e06 na
    have hn8 : 2 ^ n ≤ 8 := Nat.le_trans (Nat.pow_le_pow_right (by omega) (show n ≤ 3 by omega)) (by decide)
    have hpw : (1 : Int) * 2 ^ ((n : Int)).toNat = ((2 ^ n : Nat) : Int) := by rw [Int.toNat_natCast]; simp
    generalize hW : 2 ^ n = W at hn8 hpw
    have d27 := d2.ex (e46.trans e7)
    have d37 := d3.ex ((e5.trans e6).trans e7)
    have d47 := d4.ex (e6.trans e7)
    refine q_for (m := [a]) (α := Nat) (enc := fun i => .int (0 + (i : Int))) (xs := List.range W) (ei_range1 (n := ((W : Nat) : Int)) (eg_cons (EvN.cast (en_opC en_int (en_var rfl d27) ⟨by omega, by omega, by decide⟩) (by rw [hpw])) eg_nil) (by omega) (by omega)) (.one ha)
      (fun pre σ' H' => ∃ (ys : List V) (R' : List (List Tr)) (o6 o7 o8 : Option V) (vr : V) (zr : Int), σ' = [some v0, some vr, some v2, some v3, some v4, some (.ref a), o6, o7, o8, none, none, none, none, none, none] ∧ Dn K H' vr (.int zr) ∧ H' a = some (.lst ys) ∧ RG dT K H' ys R' ∧ V.ref a ∉ ys ∧ R'.length = pre.length ∧ ∀ r ∈ R', r.length = W ∧ ∀ t ∈ r, QS.Fits t 0 ∧ t.count ≤ 1)
      (fun H8 e8 => ⟨[], [], none, none, none, v5, _, rfl, d5.ex (e7.trans e8), e8 _ _ ha, .nil, by simp, rfl, fun _ z => nomatch z⟩) (fun pre i post xv σ' H8 H9 hxs e8 pv e9 hd N hN => ?_) (fun σ' H8 e8 pv => ?_)
    · obtain ⟨ys, R', o6, o7, o8, vr, zr, rfl, hzr, ha7, hR7, hay, hRl, hRt⟩ := pv
      obtain ⟨hi, hin, _⟩ := range_split hxs
      have tk : TKp H7 H9 := (e8.tk (.one ha)).trans (.ex e9)
      refine q_setL (K := K) (el_lst eg_nil) fun l ws0 H10 nl e10 hl hs0 => ?_
      have hw0 : ws0 = [] := by cases hs0; rfl
      subst hw0
      have hla : a ≠ l := fun z => by rw [← z, e9 _ _ ha7] at nl; cases nl
      have d210 := (d27.keep tk).ex e10
      have d310 := (d37.keep tk).ex e10
      have d410 := (d47.keep tk).ex e10
      refine q_for (m := [l]) (α := Nat) (enc := fun i => .int (0 + (i : Int))) (xs := List.range W) (ei_range1 (n := ((W : Nat) : Int)) (eg_cons (EvN.cast (en_opC en_int (en_var rfl d210) ⟨by omega, by omega, by decide⟩) (by rw [hpw])) eg_nil) (by omega) (by omega)) (.one hl)
        (fun pre2 σ' H' => ∃ (us : List V) (ts : List Tr) (o8 : Option V) (vr : V) (zr : Int), σ' = [some v0, some vr, some v2, some v3, some v4, some (.ref a), some xv, some (.ref l), o8, none, none, none, none, none, none] ∧ Dn K H' vr (.int zr) ∧ H' l = some (.lst us) ∧ DnAll K H' us (ts.map dT) ∧ ts.length = pre2.length ∧ ∀ t ∈ ts, QS.Fits t 0 ∧ t.count ≤ 1)
        (fun H11 e11 => ⟨[], [], o8, vr, zr, rfl, hzr.ex (e9.trans (e10.trans e11)), e11 _ _ hl, .nil, rfl, fun _ z => nomatch z⟩) (fun pre2 i2 post2 xv2 σ' H11 H12 hxs2 e11 pv e12 hd2 N2 hN2 => ?_) (fun σ' H11 e11 pv => ?_)
      · obtain ⟨us, ts, o8, vr, zr, rfl, hzr, hl11, hts, htl, htt⟩ := pv
        obtain ⟨hi2, hin2, _⟩ := range_split hxs2
        have tk2 : TKp H10 H12 := (e11.tk (.one hl)).trans (.ex e12)
        have hl12 := e12 _ _ hl11
        refine q_pushX (K := K) (Pd := fun d => ∃ z : Int, d = .int z) hl12 (ev_var rfl) ((en_opC (en_op0 (en_var rfl (d410.keep tk2)) (en_opC (en_var rfl (hzr.ex e12)) (en_var rfl (d310.keep tk2)) (by show (0 : Int) < _; omega))) en_int (by decide)).x ⟨_, rfl⟩) (by rw [hts.len, List.length_map, htl]; omega) fun v16 H16 d16 e16 hd16 hP16 => ?_
        obtain ⟨z16, rfl⟩ := hP16
        have hl16 := e16 _ _ hl12
        have tk16 := lst_tk (o := .lst (us ++ [v16])) hl16
        refine s_setN (K := K) (en_opC (en_var rfl ((hzr.ex (e12.trans e16)).keep tk16)) (en_var rfl (((d310.keep tk2).ex e16).keep tk16)) ⟨by omega, by omega⟩) fun v17 H17 e17 d17 => ?_
        refine hN2 _ _ (((ExB.of e16).upd (by simp)).trans (.of e17)) ⟨us ++ [v16], ts ++ [.leaf z16], _, v17, _, rfl, d17, e17 _ _ upd_same, ?_, by simp [htl], fun y hy => ?_⟩
        · rw [List.map_append]
          exact (((hts.ex (e12.trans e16)).keep tk16).snoc (hd16.keep tk16)).ex e17
        · rcases List.mem_append.mp hy with hy | hy
          · exact htt y hy
          · simp at hy; subst hy; exact ⟨.leaf _ _, by simp [QS.Tr.count]⟩
      · obtain ⟨us, ts, o8, vr, zr, rfl, hzr, hl11, hts, htl, htt⟩ := pv
        have e911 : Ex H9 H11 := ex_back e10 nl e11
        have ha11 := e911 _ _ (e9 _ _ ha7)
        rw [List.length_range] at htl
        refine s_app (K := K) ha11 (ev_var rfl) (ev_var rfl) (by rw [hR7.len, hRl]; omega) fun H12 e12 => ?_
        have ha12 := e12 _ _ ha11
        have tk12 := lst_tk (o := .lst (ys ++ [V.ref l])) ha12
        refine hN _ _ ((ExB.of (e911.trans e12)).upd (by simp)) ⟨ys ++ [V.ref l], R' ++ [ts], _, _, _, vr, zr, rfl, (hzr.ex e12).keep tk12, upd_same, ?_, ?_, by simp [hRl], fun y hy => ?_⟩
        · refine RG.snoc ⟨l, us, rfl, ?_, (hts.ex e12).keep tk12⟩ ?_
          · rw [upd_ne (Ne.symm hla)]; exact e12 _ _ hl11
          · exact (hR7.ex ((e9.trans e911).trans e12)).keep (m := [a]) ((ExB.refl _ _).upd (by simp)) tk12 fun b hb z => by
              simp at hb; subst hb; exact hay z
        · intro z
          rcases List.mem_append.mp z with z | z
          · exact hay z
          · simp at z; exact hla z
        · rcases List.mem_append.mp hy with hy | hy
          · exact hRt y hy
          · simp at hy; subst hy; exact ⟨htl, htt⟩
    · obtain ⟨ys, R', o6, o7, o8, vr, zr, rfl, hzr, ha7, hR7, hay, hRl, hRt⟩ := pv
      rw [List.length_range] at hRl
      have e08 : Ex H H8 := ex_back e07 naH e8
      refine s_retX (ex_pair (EvX.of (Pd := fun d => d = .int (n : Nat)) (en_var rfl (d27.keep (e8.tk (.one ha)))) rfl) fun H9 e9 => ex_callG (Pd := FitK n 1000) (eg_one (ev_var rfl)) fun vs H10 e10 hp Q q => ?_) fun v H9 d e9 hd9 hP => ?_
      · subst hp
        have e810 := e9.trans e10
        refine ⟨a, ys, R', n, rfl, e810 _ _ ha7, hR7.ex e810, by omega, by rw [hW]; exact ⟨hRl, hRt⟩, fun v H' t e hd hf hc => q v H' _ e hd ⟨t, rfl, hf, ?_⟩⟩
        have : 4 ^ n ≤ 64 := Nat.le_trans (Nat.pow_le_pow_right (by omega) (show n ≤ 3 by omega)) (by decide)
        omega
      · obtain ⟨_, _, rfl, rfl, t, rfl, hf, hc⟩ := hP
        exact k v H9 _ (e08.trans e9) hd9 ⟨n, t, rfl, by omega, hf, hc⟩
  · have e02 := e1.trans e2
    obtain ⟨L, hL, hL41⟩ := mod_nat (z / 2) (m := 41) (by decide)
    refine q_set (EvN.cast (en_opC (en_var rfl (d1.ex e2)) en_int (by decide)) (by rw [hL])) fun v2 H3 e3 d2 => ?_
    refine q_set (en_opC (en_opC (en_var rfl (d1.ex (e2.trans e3))) en_int ⟨by decide, by decide⟩) en_int (by decide)) fun v4 H4 e4 d4 => ?_
    refine q_set (en_opC (en_var rfl (d1.ex ((e2.trans e3).trans e4))) en_int ⟨by decide, by decide⟩) fun v5 H5 e5 d5 => ?_
    have e35 := e4.trans e5
    generalize z / 2 / 41 % 36 = bb at d4
    refine q_setL (K := K) (el_lst (eg_cons (en_tup (eg_cons (d := dC []) (en_str (s := "")) (eg_cons (en_var rfl (d4.ex e5)) eg_nil))) eg_nil)) fun p ws0 H6 np e6 hp hs0 => ?_
    have e06 := ((e02.trans e3).trans e35).trans e6
    have npH : H p = none := fresh_back ((e02.trans e3).trans e35) np
    have d26 := d2.ex (e35.trans e6)
    obtain ⟨most, hmx, hmL, hm5, hm0⟩ := most_ix L (by omega)
    refine q_for (m := [p]) (α := Nat) (enc := fun i => .int (0 + (i : Int))) (xs := List.range most) (ei_range1 (n := (most : Int)) (eg_cons (en_ixLs (el_lst (eg_cons en_int (eg_cons en_int (eg_cons en_int eg_nil)))) (en_op0 (en_b2i (en_cmp (en_var rfl d26) en_int)) (en_b2i (en_cmp (en_var rfl d26) en_int))) hm0 hmx) eg_nil) (by omega) (by omega)) (.one hp)
      (fun pre σ' H' => ∃ (o10 o11 o12 o13 o14 : Option V) (vr : V) (zr : Int) (ws : List V) (ps : List (Cd × Int)), σ' = [some v0, some vr, some v2, none, some v4, none, none, none, none, some (.ref p), o10, o11, o12, o13, o14] ∧ H' p = some (.lst ws) ∧ DnAll K H' ws (ps.map dPc) ∧ Dn K H' vr (.int zr) ∧ ps.length = pre.length + 1 ∧ plen ps ≤ pre.length * L ∧ ∀ x ∈ ps, x.1.length ≤ L)
      (fun H7 e7 => ⟨none, none, none, none, none, v5, _, ws0, [([], bb)], rfl, e7 _ _ hp, hs0.ex e7, d5.ex (e6.trans e7), rfl, by simp [plen], by simp⟩) (fun pre i post xv σ' H7 H8 hxs e7 pv e8 hd N hN => ?_) (fun σ' H7 e7 pv => ?_)
    · obtain ⟨o10, o11, o12, o13, o14, vr, zr, ws, ps, rfl, hp7, hws, hzr, hpl, hpn, hpx⟩ := pv
      obtain ⟨hi, hin, _⟩ := range_split hxs
      have d28 : Dn K H8 v2 (.int (L : Nat)) := (d26.keep (e7.tk (.one hp))).ex e8
      refine q_set (K := K) (d := dC []) (en_str (s := "")) fun v11 H9 e9 d11 => ?_
      obtain ⟨sz, hsz, hszl⟩ := mod_nat zr (m := (L : Int) + 1) (by omega)
      refine q_set (EvN.cast (en_opC (en_var rfl (hzr.ex (e8.trans e9))) (en_op0 (en_var rfl (d28.ex e9)) en_int) (by show (0 : Int) < _; omega)) (by rw [hsz])) fun v12 H10 e10 d12 => ?_
      have e810 := e9.trans e10
      refine q_set (en_opC (en_opC (en_var rfl (hzr.ex (e8.trans e810))) (en_op0 (en_var rfl (d28.ex e810)) en_int) ⟨by omega, by omega⟩) en_int (by decide)) fun v13 H11 e11 d13 => ?_
      obtain ⟨cl, hcl'⟩ : ∃ cl : Int, cl = zr / ((L : Int) + 1) % 36 := ⟨_, rfl⟩
      rw [← hcl'] at d13
      have e811 := e810.trans e11
      refine q_set (en_opC (en_var rfl (hzr.ex (e8.trans e811))) (en_op0 (en_opC en_int (en_var rfl (d28.ex e811)) (.inl ⟨by decide, by decide⟩)) en_int) ⟨by omega, by omega⟩) fun v14 H12 e12 d14 => ?_
      have e812 := e811.trans e12
      refine q_for (m := []) (α := Nat) (enc := fun i => .int (0 + (i : Int))) (xs := List.range sz) (ei_range1 (n := (sz : Int)) (eg_cons (en_var rfl (d12.ex (e11.trans e12))) eg_nil) (by omega) (by omega)) .nil
        (fun pre2 σ' H' => ∃ (o14 : Option V) (vr vc : V) (zr : Int) (c : Cd), σ' = [some v0, some vr, some v2, none, some v4, none, none, none, none, some (.ref p), some xv, some vc, some v12, some v13, o14] ∧ Dn K H' vr (.int zr) ∧ Dn K H' vc (dC c) ∧ c.length = pre2.length)
        (fun H13 e13 => ⟨o14, v14, v11, _, [], rfl, d14.ex e13, d11.ex ((e10.trans (e11.trans e12)).trans e13), rfl⟩) (fun pre2 i2 post2 xv2 σ' H13 H14 hxs2 e13 pv e14 hd2 N2 hN2 => ?_) (fun σ' H13 e13 pv => ?_)
      · obtain ⟨o14, vr, vc, zr, c, rfl, hzr, hc, hcl⟩ := pv
        obtain ⟨hi2, hin2, _⟩ := range_split hxs2
        obtain ⟨qd, hqd⟩ := qd_of zr
        refine q_set (EvN.cast (e := dC (c ++ [qd])) (en_addS (en_var rfl (hc.ex e14)) (en_dig hqd (en_opC (en_var rfl (hzr.ex e14)) en_int (by decide))) (by rw [cs_len, cs_len]; simp; omega)) (by rw [← cs_app]; rfl)) fun v15 H15 e15 d15 => ?_
        exact s_setN (en_opC (en_var rfl (hzr.ex (e14.trans e15))) en_int ⟨by decide, by decide⟩) fun v16 H16 e16 d16 => hN2 _ _ (.of (e15.trans e16)) ⟨_, v16, v15, _, c ++ [qd], rfl, d16, d15.ex e16, by simp [hcl]⟩
      · obtain ⟨o14, vr, vc, zr, c, rfl, hzr, hc, hcl⟩ := pv
        rw [List.length_range] at hcl
        have e813 := e812.trans e13.ex
        have hp13 := e813 _ _ (e8 _ _ hp7)
        refine s_push (K := K) (d := dPc (c, cl)) hp13 (ev_var rfl) (en_tup (eg_cons (en_var rfl hc) (eg_cons (en_var rfl (d13.ex (e12.trans e13.ex))) eg_nil))) (by rw [hws.len, List.length_map, hpl]; omega) fun v17 H17 e17 d17 => ?_
        have tk17 := lst_tk (o := .lst (ws ++ [v17])) (e17 _ _ hp13)
        refine hN _ _ ((ExB.of (e813.trans e17)).upd (by simp)) ⟨_, _, _, _, _, vr, zr, ws ++ [v17], ps ++ [(c, cl)], rfl, upd_same, ?_, (hzr.ex e17).keep tk17, by simp [hpl], ?_, fun y hy => ?_⟩
        · rw [List.map_append]
          exact ((hws.ex ((e8.trans e813).trans e17)).keep tk17).snoc (d17.keep tk17)
        · have : plen (ps ++ [(c, cl)]) = plen ps + c.length := by simp [plen]
          rw [List.length_append, List.length_singleton, Nat.add_mul]
          simp only [plen, List.map_append, List.sum_append, List.map_cons, List.map_nil, List.sum_cons, List.sum_nil] at hpn this ⊢
          omega
        · rcases List.mem_append.mp hy with hy | hy
          · exact hpx y hy
          · simp at hy; subst hy; show c.length ≤ L; omega
    · obtain ⟨o10, o11, o12, o13, o14, vr, zr, ws, ps, rfl, hp7, hws, hzr, hpl, hpn, hpx⟩ := pv
      rw [List.length_range] at hpl hpn
      have e07 : Ex H H7 := ex_back ((e02.trans e3).trans (e35.trans e6)) npH e7
      have d27 : Dn K H7 v2 (.int (L : Nat)) := d26.keep (e7.tk (.one hp))
      refine s_retX (ex_pair (EvX.of (Pd := fun d => d = .int (L : Nat)) (en_var rfl d27) rfl) fun H8 e8 => ex_treeBy (ps := ps) (m := L) (fun H9 e9 Q9 q9 => eg_one (te := tVar 9) (v := .ref p) (σ := [some v0, some vr, some v2, none, some v4, none, none, none, none, some (.ref p), o10, o11, o12, o13, o14]) (ev_var rfl) H9 e9 _ fun vs H10 e10 hv => q9 vs H10 e10 ⟨p, ws, hv, (e8.trans (e9.trans e10)) _ _ hp7, hws.ex (e8.trans (e9.trans e10))⟩) (by omega) hpx (by omega) (by omega) (by omega)) fun v H8 d e8 hd8 hP => ?_
      obtain ⟨_, _, rfl, rfl, t, rfl, hf, hc⟩ := hP
      exact k v H8 _ (e07.trans e8) hd8 ⟨L, t, rfl, by omega, hf, hc⟩
end
end QW
set_option autoImplicit true
set_option Elab.async false
set_option linter.all false
set_option maxRecDepth 100000
set_option maxHeartbeats 4000000
namespace QW
open PySem PySem.Spec PyProof.Rows L2 Evl QX
open QS (Qd Sd Tr Sq sqr Pt Way pw)
section
variable {P : Program} {w : World} {K : PySem.W.Frag} {mg : Str → Option Value} {base : Heap} {tM tS : Tok} {aS aF aW : Addr}
theorem q_setC {k : Nat} {sp : Sp} {Pr : List V → Hp → Prop} {σ : L2.St} {H : Hp} {tr : TA} {tz : TS} {D : Ends} (h : EvG tr σ H Pr) (q : ∀ vs H1, Ex H H1 → Pr vs H1 → sp vs H1 (fun v H' => tz D (σ.set k (some v)) H') E0) : tSeq (tAsg (tCall sp [] E0 tr) (gName k)) tz D σ H := h H (Ex.refl H) _ fun vs H1 a hp => by
  rw [List.append_nil]; exact q vs H1 a hp
theorem elx_one {σ : L2.St} {H : Hp} {te : TE} {Pd : PyData → Prop} (h : EvX K te σ H Pd) : ∀ H1, Ex H H1 → ∀ Q : VK, (∀ p v d H2, H1 p = none → Ex H1 H2 → H2 p = some (.lst [v]) → Dn K H2 v d → Pd d → Q (.ref p) H2) → tLst (tCons te tNil) σ H1 Q := fun H1 a Q q =>
  h H1 a _ fun v H2 d a2 hd p => ⟨sz_of (by simp), fun r hr => q r v d _ (fresh_back a2 hr) (a2.trans (Ex.new hr)) upd_same (hd.ex (Ex.new hr)) p⟩
theorem eg_raw {σ : L2.St} {H : Hp} {te : TE} {Pr : List V → Hp → Prop} (h : ∀ H1, Ex H H1 → ∀ Q : VK, (∀ v H2, Ex H1 H2 → Pr [v] H2 → Q v H2) → te σ H1 Q) : EvG (tCons te tNil) σ H Pr := fun H1 a Q q => h H1 a _ fun v H2 a2 hp => q [v] H2 a2 hp
theorem c_call {σ : L2.St} {H H1 : Hp} {tr : TA} {sp : Sp} {Pr : List V → Hp → Prop} {Q : VK} (h : EvG tr σ H Pr) (a : Ex H H1) (q : ∀ vs H2, Ex H1 H2 → Pr vs H2 → sp vs H2 Q E0) : tCall sp [] E0 tr σ H1 Q := h H1 a _ fun vs H2 a2 hp => by
  rw [List.append_nil]; exact q vs H2 a2 hp
theorem c_op {σ : L2.St} {H1 : Hp} {r : R2} {ta tb : TE} {Q : VK} (h : ta σ H1 fun x H2 => tb σ H2 fun y H3 => r x y H3 Q) : tOp r ta tb σ H1 Q := h
theorem ex_treeByE {σ : L2.St} {H : Hp} {te : TE} {m n : Nat} (h : EvG (tCons te tNil) σ H fun vs H' => ∃ (p : Addr) (ws : List V) (ps : List (Cd × Int)), vs = [.ref p] ∧ H' p = some (.lst ws) ∧ DnAll K H' ws (ps.map dPc) ∧ (∀ x ∈ ps, x.1.length ≤ m) ∧ ps.length + m ≤ 140 ∧ plen ps ≤ 300) (hmn : m < n) (hm : m ≤ 40) :
    EvX K (tCall (sp__law_tree_by K n) [] E0 (tCons te tNil)) σ H (FitK m 1000) :=
  ex_callG h fun vs H1 e1 hp Q q => by
    obtain ⟨p, ws, ps, rfl, h1, h2, hl, hn, hp⟩ := hp
    exact ⟨p, ws, ps, m, rfl, h1, h2, hmn, hl, hm, hn, fun v H' t e hd hf hc => q v H' _ e hd ⟨t, rfl, hf, by omega⟩⟩
theorem plen_le {L : Nat} : ∀ {ps : List (Cd × Int)}, (∀ x ∈ ps, x.1.length ≤ L) → plen ps ≤ ps.length * L
  | [], _ => by simp [plen]
  | x :: ps, h => by
    have h1 := plen_le (ps := ps) fun y hy => h y (by simp [hy])
    have h2 := h x (by simp)
    simp only [plen, List.map_cons, List.sum_cons, List.length_cons, Nat.add_mul] at h1 ⊢
    omega
abbrev s__law_sheet : Stmt := top 59
abbrev N__law_sheet : List Str := ["_law_script", "_law_level", "_law_most", "_law_paints_here"]
abbrev P__law_sheet : List Str := ["_law_script"]
theorem sc__law_sheet : FnScope N__law_sheet P__law_sheet (defScope s__law_sheet) := ⟨rfl, rfl, rfl, by decide +kernel, rfl, by decide +kernel, by decide +kernel⟩
theorem nd__law_sheet : N__law_sheet.Nodup := sc__law_sheet.nd
def sp__law_sheet (K : PySem.W.Frag) : Sp := fun vs H Q _ => ∃ (p : Addr) (ns : List Int), vs = [.ref p] ∧ Scr K H p ns ∧ ∀ v' H' d, Ex H H' → Dn K H' v' d → ShOk d → Q v' H'
theorem ok__law_sheet (T : Txt K w mg tM tS aS aF aW) (F : Fd K mg "_law_sheet" s__law_sheet) (C__law_at : Ca P w K mg base "_law_at" P__law_at 1 (sp__law_at K)) (C__law_colour : Ca P w K mg base "_law_colour" P__law_colour 1 (sp__law_colour K)) (C__law_sheet_by_digits : Ca P w K mg base "_law_sheet_by_digits" P__law_sheet_by_digits 43 (sp__law_sheet_by_digits K)) (C__law_tree_of_rows : Ca P w K mg base "_law_tree_of_rows" P__law_tree_of_rows 2 (sp__law_tree_of_rows K)) (C__law_grid : Ca P w K mg base "_law_grid" P__law_grid 2 (sp__law_grid K)) (C__law_paints : Ca P w K mg base "_law_paints" P__law_paints 2 (sp__law_paints K)) (C__law_tree_by : Ca P w K mg base "_law_tree_by" P__law_tree_by 42 (sp__law_tree_by K 41)) : Ca P w K mg base "_law_sheet" P__law_sheet 44 (sp__law_sheet K) := by
  refine F.mk sc__law_sheet (fun _ _ _ _ _ _ us hl => match us, hl with | [_], _ => rfl) (fun vs H Q E ⟨_, _, e, _⟩ => by rw [e]; rfl) (fun f0 cdv A outer s H vs Q E hr h => ?_)
  obtain ⟨p, ns, rfl, hs, k⟩ := h
  refine ⟨_, (pss_cons (ps_if (PW.pt (pw_and (pt_cmpR op_eq (pe_op op_mod (pe_op op_fdiv (pe_ca C__law_at hr (pa_cons (pv 0) (pa_cons pe_int pa_nil))) pe_int) pe_int) pe_int (nomark _)) (pw_and1 (pt_not (pt_chain op_lt op_lt (pe_un un_neg (pe_op op_pow pe_int pe_int)) (pe_ca C__law_at hr (pa_cons (pv 0) (pa_cons pe_int pa_nil))) (pe_op op_pow pe_int pe_int)))))) (pss_one (ps_ret (pe_ca C__law_sheet_by_digits hr (pa_cons (pe_ca C__law_at hr (pa_cons (pv 0) (pa_cons pe_int pa_nil))) pa_nil)))) pss_nil)
      (pss_cons (ps_if (pt_cmpR op_lt (pe_op op_mod (pe_ca C__law_at hr (pa_cons (pv 0) (pa_cons pe_int pa_nil))) pe_int) pe_int (nomark _)) (pss_cons (ps_set (i := 1) nd__law_sheet rfl (Or.inl rfl) (pe_op op_mod (pe_op op_fdiv (pe_ca C__law_at hr (pa_cons (pv 0) (pa_cons pe_int pa_nil))) pe_int) pe_int))
      (pss_one (ps_ret (pe_tup (pa_cons (pv 1) (pa_cons (pe_ca C__law_tree_of_rows hr (pa_cons (pe_ca C__law_grid hr (pa_cons (pv 0) (pa_cons pe_int (pa_cons (pv 1) pa_nil)))) pa_nil)) pa_nil)))))) pss_nil)
      (pss_cons (ps_set (i := 1) nd__law_sheet rfl (Or.inl rfl) (pe_op op_mod (pe_op op_add (pe_ca C__law_at hr (pa_cons (pv 0) (pa_cons pe_int pa_nil))) pe_int) pe_int))
      (pss_cons (ps_if (pt_cmpR op_eq (pe_op op_mod (pe_ca C__law_at hr (pa_cons (pv 0) (pa_cons pe_int pa_nil))) pe_int) pe_int (nomark _)) (pss_one (ps_set (i := 1) nd__law_sheet rfl (Or.inl rfl) (pe_op op_add pe_int (pe_op op_mod (pv 1) pe_int)))) pss_nil)
      (pss_cons (ps_set (i := 2) nd__law_sheet rfl (Or.inl rfl) (pe_ix ix_list (pe_lst (pa_cons pe_int (pa_cons pe_int (pa_cons pe_int pa_nil)))) (pe_op op_add (pe_callTy call_int1 (by rfl) T.int b_int (pa_cons (pe_cmpR op_gt (pv 1) pe_int (nomark _)) pa_nil)) (pe_callTy call_int1 (by rfl) T.int b_int (pa_cons (pe_cmpR op_gt (pv 1) pe_int (nomark _)) pa_nil))) (fun _ _ => rfl)))
      (pss_cons (ps_set (i := 3) nd__law_sheet rfl (Or.inl rfl) (pe_ca C__law_paints hr (pa_cons (pv 0) (pa_cons pe_int (pa_cons (pv 2) (pa_cons (pv 1) pa_nil))))))
      (pss_one (ps_ret (pe_tup (pa_cons (pv 1) (pa_cons (pe_ca C__law_tree_by hr (pa_cons (pe_op op_cat (pe_lst (pa_cons (pe_tup (pa_cons pe_str (pa_cons (pe_ca C__law_colour hr (pa_cons (pe_op op_fdiv (pe_ca C__law_at hr (pa_cons (pv 0) (pa_cons pe_int pa_nil))) pe_int) pa_nil)) pa_nil))) pa_nil)) (pv 3)) pa_nil)) pa_nil))))))))))), ?_⟩
  have at0 : ∀ {σ : L2.St} {H1 : Hp} (e : Ex H H1) (hσ : σ[0]? = some (some (.ref p))) (i : Int) (hi : 0 ≤ i), EvN K (tCall (sp__law_at K) [] E0 (tCons (tVar 0) (tCons (tC (.int i)) tNil))) σ H1 (.int (nthI ns i)) := fun e hσ i hi => en_at (ev_var hσ) (hs.ex e) en_int hi
  refine q_when (et_and (et_n (en_eqI (en_opC (en_opC (at0 (Ex.refl _) rfl 0 (by decide)) en_int ⟨by decide, by decide⟩) en_int (by decide)) en_int)) fun _ => et_not (et_chain (en_neg (en_opC en_int en_int ⟨by decide, by decide, by decide⟩)) (at0 (Ex.refl _) rfl 1 (by decide)) (en_opC en_int en_int ⟨by decide, by decide, by decide⟩))) (fun g H1 e1 => ?_) (fun g H1 e1 => ?_)
  · refine s_retX (K := K) (Pd := ShOk) (ex_callG (eg_conN (at0 e1 rfl 1 (by decide)) eg_nil') fun vs H2 e2 hp Q q => ?_) fun v H2 d e2 hd hP => k v H2 d (e1.trans e2) hd hP
    obtain ⟨v, r, rfl, hv, rfl⟩ := hp
    exact ⟨v, _, rfl, hv, q⟩
  · refine q_when (et_n (en_cmp (en_opC (at0 e1 rfl 0 (by decide)) en_int (by decide)) en_int)) (fun g H2 e2 => ?_) (fun g H2 e2 => ?_)
    · have e02 := e1.trans e2
      obtain ⟨n, hn, hn4⟩ := mod_nat (nthI ns 0 / 10) (m := 4) (by decide)
      refine q_set (EvN.cast (en_opC (en_opC (at0 e02 rfl 0 (by decide)) en_int ⟨by decide, by decide⟩) en_int (by decide)) (by rw [hn])) fun v1 H3 e3 d1 => ?_
      have e03 := e02.trans e3
      refine s_retX (ex_pair (EvX.of (Pd := fun d => d = .int (n : Nat)) (en_var rfl d1) rfl) fun H4 e4 => ex_callG (Pd := FitK n 1000) (Pr := fun vs H' => ∃ (q : Addr) (xs : List V) (R : List (List Tr)), vs = [.ref q] ∧ H' q = some (.lst xs) ∧ RG dT K H' xs R ∧ TRows 0 1 (2 ^ n) R) ?_ fun vs H5 e5 hp Q q => ?_) fun v H4 d e4 hd4 hP => ?_
      · refine eg_raw fun H5 e5 Qa qa => ?_
        refine c_call (H := H4) (eg_conV (te := tVar 0) (σ := [some (.ref p), some v1, none, none]) (ev_var rfl) (eg_conN (K := K) (en_int (i := 1)) (eg_conN (te := tVar 1) (en_var rfl (d1.ex e4)) eg_nil'))) e5 fun vs H6 e6 hp => ?_
        obtain ⟨_, rfl, v7, _, rfl, h7, v8, _, rfl, h8, rfl⟩ := hp
        refine ⟨p, ns, v7, v8, n, rfl, hs.ex (e03.trans (e4.trans (e5.trans e6))), h7, h8, by omega, fun q H' xs R nq e hq hR hT => ?_⟩
        exact qa (.ref q) H' (e6.trans e) ⟨q, xs, R, rfl, hq, hR, hT⟩
      · obtain ⟨q', xs, R, rfl, hq, hR, hT⟩ := hp
        refine ⟨q', xs, R, n, rfl, hq, hR, by omega, hT, fun v H' t e hd hf hc => q v H' _ e hd ⟨t, rfl, hf, ?_⟩⟩
        have : 4 ^ n ≤ 64 := Nat.le_trans (Nat.pow_le_pow_right (by omega) (show n ≤ 3 by omega)) (by decide)
        omega
      · obtain ⟨_, _, rfl, rfl, t, rfl, hf, hc⟩ := hP
        exact k v H4 _ (e03.trans e4) hd4 ⟨n, t, rfl, by omega, hf, hc⟩
    · have e02 := e1.trans e2
      obtain ⟨L0, hL0, hL41⟩ := mod_nat (nthI ns 0 + 3) (m := 41) (by decide)
      refine q_set (EvN.cast (en_opC (en_op0 (at0 e02 rfl 0 (by decide)) en_int) en_int (by decide)) (by rw [hL0])) fun v1 H3 e3 d1 => ?_
      have e03 := e02.trans e3
      refine q_join (fun σ6 H6 => ∃ (v6 : V) (L : Nat), σ6 = [some (.ref p), some v6, none, none] ∧ Ex H3 H6 ∧ Dn K H6 v6 (.int (L : Nat)) ∧ L ≤ 40) (fun σ6 H6 hR => ?_) (fun N' hN' => ?_)
      · obtain ⟨v6, L, rfl, e6, d6, hL⟩ := hR
        obtain ⟨most, hmx, hmL, hm5, hm0⟩ := most_ix L hL
        refine q_set (en_ixLs (d := .int (most : Nat)) (el_lst (eg_cons en_int (eg_cons en_int (eg_cons en_int eg_nil)))) (en_op0 (en_b2i (en_cmp (en_var rfl d6) en_int)) (en_b2i (en_cmp (en_var rfl d6) en_int))) hm0 hmx) fun v2 H7 e7 d2 => ?_
        have e07 := (e03.trans e6).trans e7
        refine q_setC (eg_conV (ev_var rfl) (eg_conN (K := K) (en_int (i := 1)) (eg_conN (en_var rfl d2) (eg_conN (en_var rfl (d6.ex e7)) eg_nil')))) fun vs H8 e8 hp => ?_
        obtain ⟨_, rfl, u1, _, rfl, h1, u2, _, rfl, h2, u3, _, rfl, h3, rfl⟩ := hp
        refine ⟨p, ns, u1, u2, u3, most, L, rfl, hs.ex (e07.trans e8), h1, h2, h3, hm5, hL, fun l H9 ws ps nl e9 hl hws hpl hpx => ?_⟩
        have e09 := e07.trans (e8.trans e9)
        refine s_retX (ex_pair (EvX.of (Pd := fun d => d = .int (L : Nat)) (en_var rfl (d6.ex (e7.trans (e8.trans e9)))) rfl) fun H10 e10 => ex_treeByE (m := L) ?_ (by omega) (by omega)) fun v H10 d e10 hd10 hP => ?_
        · refine eg_raw fun H11 e11 Qa qa => c_op ?_
          have hcol : ∀ H12, Ex H10 H12 → EvN K (tOp (rI CDiv fun i j => .int (i / j)) (tCall (sp__law_at K) [] E0 (tCons (tVar 0) (tCons (tC (.int 0)) tNil))) (tC (.int 41))) [some (.ref p), some v6, some v2, some (.ref l)] H12 (.int (nthI ns 0 / 41)) := fun H12 e12 => en_opC (at0 ((e09.trans e10).trans e12) rfl 0 (by decide)) en_int ⟨by decide, by decide⟩
          refine elx_one (K := K) (Pd := fun z => ∃ d e, z = .tuple [d, e] ∧ d = dC [] ∧ ∃ j : Int, e = .int j) (ex_pair (EvX.of (K := K) (d := dC []) (Pd := fun d => d = dC []) (en_str (s := "")) rfl) fun H12 e12 => ex_colour (hcol H12 e12)) H11 e11 _ fun q v d H12 nq e12 hq hd hP => ?_
          obtain ⟨_, _, rfl, rfl, j, rfl⟩ := hP
          have e912 := (e10.trans e11).trans e12
          refine ⟨.ref l, rfl, q, l, [v], ws, rfl, rfl, hq, e912 _ _ hl, sz_of (by rw [hws.len, List.length_map]; simp; omega), fun r hr => qa (.ref r) _ (e12.trans (Ex.new hr)) ⟨r, v :: ws, ([], j) :: ps, rfl, upd_same, .cons (hd.ex (Ex.new hr)) (hws.ex (e912.trans (Ex.new hr))), fun x hx => ?_, by simp; omega, ?_⟩⟩
          · rcases List.mem_cons.mp hx with rfl | hx
            · exact Nat.zero_le _
            · exact hpx x hx
          · have h4 := plen_le hpx
            have h5 : ps.length * L ≤ most * L := Nat.mul_le_mul_right _ hpl
            have h6 : plen (([], j) :: ps) = plen ps := by simp [plen]
            omega
        · obtain ⟨_, _, rfl, rfl, t, rfl, hf, hc⟩ := hP
          exact k v H10 _ (e09.trans e10) hd10 ⟨L, t, rfl, hL, hf, hc⟩
      · refine s_if (et_n (en_eqI (en_opC (at0 e03 rfl 0 (by decide)) en_int (by decide)) en_int)) (fun g H6 e6 => ?_) (fun g H6 e6 => ?_)
        · obtain ⟨q8, hq8, hq8l⟩ := mod_nat (L0 : Int) (m := 8) (by decide)
          exact s_setN (EvN.cast (e := .int ((1 + q8 : Nat) : Int)) (en_op0 en_int (en_opC (en_var rfl (d1.ex e6)) en_int (by decide))) (by rw [hq8]; congr 1)) fun v7 H7 e7 d7 => hN' _ _ ⟨v7, 1 + q8, rfl, e6.trans e7, d7, by omega⟩
        · exact hN' _ _ ⟨v1, L0, rfl, e6, d1.ex e6, by omega⟩
end
end QW
set_option autoImplicit true
set_option Elab.async false
set_option autoImplicit false
set_option linter.all false
namespace QS
open Qd Sd
theorem turns_sub : ∀ (f : List Key) (d : Sd), (turnsFrom d f).length ≤ f.length ∧ ∀ P ∈ turnsFrom d f, ∃ k ∈ f, k.1 = P
  | [], _ => ⟨Nat.le_refl _, fun P h => nomatch h⟩
  | k :: r, d => by
    obtain ⟨h1, h2⟩ := turns_sub r k.2
    have e : turnsFrom d (k :: r) = (if k.2 ≠ d then [k.1] else []) ++ turnsFrom k.2 r := rfl
    rw [e]
    refine ⟨?_, fun P hP => ?_⟩
    · rw [List.length_append, List.length_cons]
      split <;> simp only [List.length_cons, List.length_nil] <;> omega
    · rcases List.mem_append.mp hP with hP | hP
      · refine ⟨k, by simp, ?_⟩
        split at hP
        · simp at hP; exact hP.symm
        · cases hP
      · obtain ⟨k', h3, h4⟩ := h2 P hP
        exact ⟨k', by simp [h3], h4⟩
theorem turns_sub' (f : List Key) : (turns f).length ≤ f.length ∧ ∀ P ∈ turns f, ∃ k ∈ f, k.1 = P := by
  cases f with
  | nil => exact ⟨Nat.le_refl _, fun P h => nomatch h⟩
  | cons k r => exact turns_sub (k :: r) _
theorem corners_sub (f : List Key) : (cornersOf f).length ≤ f.length ∧ ∀ P ∈ cornersOf f, ∃ k ∈ f, k.1 = P := by
  obtain ⟨h1, h2⟩ := turns_sub' f
  unfold cornersOf
  generalize (turns f).idxOf (minPt (turns f)) = i
  refine ⟨?_, fun P hP => h2 P ?_⟩
  · rw [List.length_append, List.length_drop, List.length_take]; omega
  · rcases List.mem_append.mp hP with hP | hP
    · exact List.mem_of_mem_drop hP
    · exact List.mem_of_mem_take hP
theorem start_bd {s : Sd} {A : Sq} {p : Int × Int} {M : Int} (h1 : 0 ≤ A.x) (h2 : A.x + A.w ≤ M) (h3 : 0 ≤ A.y) (h4 : A.y + A.w ≤ M) (h0 : 0 < A.w) (h5 : lo s A ≤ p.1) (h6 : p.1 < p.2) (h7 : p.2 ≤ hi s A) :
    (0 ≤ (startOf s A p).1 ∧ (startOf s A p).1 ≤ M) ∧ (0 ≤ (startOf s A p).2 ∧ (startOf s A p).2 ≤ M) := by
  cases s <;> simp only [startOf, pt, lo, hi] at * <;> omega
theorem ringsM_bd {t : Tr} {L : Nat} {S : List Code} (hf : Fits t L) (hS : ∀ o ∈ S, isLf t o = true) (hn : S.Nodup) :
    ∀ r ∈ ringsM t L S, r.length ≤ (allWays t L S).length ∧ ∀ P ∈ r, (0 ≤ P.1 ∧ P.1 ≤ pw L) ∧ (0 ≤ P.2 ∧ P.2 ≤ pw L) := fun r hr => by
  have ok := rings_ok hf hS hn
  obtain ⟨f, hf', rfl⟩ := List.mem_map.mp ((List.mergeSort_perm _ _).subset hr)
  obtain ⟨h1, h2⟩ := rings_perm (nx := nx (allWays t L S)) ok.cl ok.inj ok.nd (n := (allWays t L S).length + 1) (by rw [List.length_map]; omega)
  have hsub : ∀ k ∈ f, k ∈ (allWays t L S).map (·.1) := fun k hk => h2.subset (List.mem_flatten.mpr ⟨f, hf', hk⟩)
  have hlen : f.length ≤ (allWays t L S).length := by
    have h3 := h2.length_eq
    rw [List.length_map] at h3
    have h4 : f.length ≤ (ringsGo (nx (allWays t L S)) ((allWays t L S).length + 1) ((allWays t L S).map (·.1)) []).flatten.length := (List.sublist_flatten_of_mem hf').length_le
    omega
  obtain ⟨c1, c2⟩ := corners_sub f
  refine ⟨by omega, fun P hP => ?_⟩
  obtain ⟨k, hk, rfl⟩ := c2 P hP
  obtain ⟨w, hw, rfl⟩ := List.mem_map.mp (hsub k hk)
  obtain ⟨c, hc, s, p, hp, rfl⟩ := mem_allWays.mp hw
  obtain ⟨q1, q2, q3, q4, q5⟩ := sqr_in c L 0 0 (sqr_len hf (hS c hc))
  obtain ⟨p1, p2, p3, _⟩ := (parts_ok hf hS (hS c hc)).p1 p hp
  exact start_bd q1 (by omega) q3 (by omega) q5 p1 p2 p3
end QS
set_option autoImplicit true
set_option Elab.async false
set_option linter.all false
set_option maxRecDepth 100000
set_option maxHeartbeats 4000000
namespace QW
open PySem PySem.Spec PyProof.Rows L2 Evl QX
open QS (Qd Sd Tr Sq sqr Pt Way pw)
def dRg (R : List (List Pt)) : PyData := .list (R.map fun ps => .list (ps.map dPt))
theorem rl_dp {K : PySem.W.Frag} {H : Hp} : ∀ {xs : List V} {R : List (List Pt)}, RL K H xs R → DpAll K H xs (R.map fun ps => .list (ps.map dPt))
  | _, _, .nil => .nil
  | _, _, .cons r q => by
    obtain ⟨a, ws, rfl, h1, h2⟩ := r
    exact .cons (.lst (sq_of h1) h2.dp) (rl_dp q)
theorem rg_lay : ∀ R : List (List Pt), PyData.canLayAll0 (R.map fun ps => .list (ps.map dPt)) = true ∧ PyData.depthAll (R.map fun ps => .list (ps.map dPt)) ≤ 2
  | [] => ⟨rfl, by simp [PyData.depthAll]⟩
  | ps :: R => by
    obtain ⟨h1, h2⟩ := rg_lay R
    obtain ⟨h3, h4⟩ := pts_lay ps
    rw [List.map_cons]
    exact ⟨by simp [PyData.canLayAll0, PyData.canLay0, h1, h3], by simp only [PyData.depthAll, PyData.depth]; omega⟩
theorem rg_shaped (R : List (List Pt)) : SeqAt.shaped (dRg R) = true := by
  obtain ⟨h1, h2⟩ := rg_lay R
  unfold dRg
  simp only [SeqAt.shaped, PyData.canLay0, h1, PyData.depth]
  simp; omega
theorem eqv_pts : ∀ ps : List Pt, PyData.eqvAll (ps.map dPt) (ps.map dPt) = true
  | [] => by simp [PyData.eqvAll]
  | p :: ps => by
    rw [List.map_cons, PyData.eqvAll, eqv_pts ps, eqv_pt]; simp
theorem eqv_rgs : ∀ R : List (List Pt), PyData.eqvAll (R.map fun ps => PyData.list (ps.map dPt)) (R.map fun ps => PyData.list (ps.map dPt)) = true
  | [] => by simp [PyData.eqvAll]
  | p :: R => by
    rw [List.map_cons, PyData.eqvAll, eqv_rgs R, PyData.eqv, eqv_pts]; rfl
theorem eqv_rg (R : List (List Pt)) : PyData.eqv (dRg R) (dRg R) = true := by
  unfold dRg; rw [PyData.eqv, eqv_rgs]
section
variable {K : PySem.W.Frag} {σ : L2.St} {H : Hp}
/-- [[f for a, b in ring] for ring in rings] -/
theorem elR_lc {tl : TE} {g : TG} {tt : TT} {te : TE} {vs : List Nat} {p : Addr} {xs : List V} {R : List (List Pt)} {f : Pt → Pt} (h : Ev tl σ H (.ref p)) (hp : H p = some (.lst xs)) (hR : RL K H xs R) (hl : R.length ≤ 50000)
    (hs : ∀ r a ws H'', r ∈ R → Ex H H'' → H'' a = some (.lst ws) → DnAll K H'' ws (r.map dPt) → ∀ M : L2.St → Hp → Prop, (∀ σ2, wipe σ2 vs = wipe σ vs → EvT tt σ2 H'' true → EvLs K te σ2 H'' ((r.map f).map dPt) → M σ2 H'') → g (.ref a) (wipe σ vs) H'' M) :
    ∀ H1, Ex H H1 → ∀ Q : VK, (∀ D ys H', H1 D = none → Ex H1 H' → H' D = some (.lst ys) → RL K H' ys (R.map (List.map f)) → Q (.ref D) H') → tLc (iList K tl) g tt te vs σ H1 Q := fun H1 a Q q =>
  h H1 a _ fun H2 a2 => by
    have e2 : H2 p = some (.lst xs) := a2 p _ (a p _ hp)
    refine ⟨p, rfl, ⟨xs, .inl (.inl e2)⟩, fun D hD => ?_⟩
    refine lc_it (walk_list (K := K) (a := p) (xs := xs)) (fun i H' => Ex H2 H' ∧ ∃ ws, H' D = some (.lst ws) ∧ RL K H' ws ((R.take i).map (List.map f)) ∧ V.ref D ∉ ws) ⟨Ex.new hD, [], upd_same, .nil, by simp⟩ (fun i H' _ q => .inl (.inl (q.1 _ _ e2))) (fun i x H' H'' hi pv y => ?_) (fun H' pv => ?_)
    · obtain ⟨rfl, y⟩ := y
      obtain ⟨p1, ws, p2, p3, p4⟩ := pv
      have hiR : i < R.length := by rw [← hR.len]; exact hi
      obtain ⟨r, hr⟩ : ∃ r, R[i]? = some r := ⟨_, List.getElem?_eq_getElem hiR⟩
      obtain ⟨a1, us, rfl, h1, h2⟩ := (hR.ex ((a.trans a2).trans p1)).get y hr
      refine hs r a1 us _ (List.mem_of_getElem? hr) ((a.trans a2).trans p1) h1 h2 _ fun σ2 hw ht he => ⟨hw, ht _ (Ex.refl _) _ fun H3 e3 => ?_⟩
      refine iteT (he H3 e3 _ fun l vs' H4 nl e4 hl4 hvs => ⟨ws, e4 D _ (e3 D _ p2), sz_lt (by rw [p3.len, List.length_map, List.length_take]; omega), ?_, ws ++ [.ref l], upd_same, ?_, ?_⟩)
      · exact Ex.mut ((p1.trans e3).trans e4) hD
      · have hDl : l ≠ D := fun z => by rw [z, e3 D _ p2] at nl; cases nl
        have tk : TKp H4 (upd H4 D (.lst (ws ++ [V.ref l]))) := lst_tk (e4 D _ (e3 D _ p2))
        rw [List.take_add_one, hr, List.map_append]
        refine RL.snoc ⟨l, vs', rfl, by rw [upd_ne hDl]; exact hl4, hvs.keep tk⟩ ?_
        exact (p3.ex (e3.trans e4)).keep (m := [D]) ((ExB.refl _ _).upd (by simp)) tk fun b hb z => by
          simp at hb; subst hb; exact p4 z
      · intro z
        rcases List.mem_append.mp z with z | z
        · exact p4 z
        · simp at z; rw [← z, e3 D _ p2] at nl; cases nl
    · obtain ⟨p1, ws, p2, p3, p4⟩ := pv
      rw [hR.len, List.take_of_length_le (Nat.le_refl _)] at p3
      exact q D ws H' (fresh_back a2 hD) (a2.trans p1) p2 p3
end
end QW
set_option autoImplicit true
set_option Elab.async false
set_option linter.all false
set_option maxRecDepth 100000
set_option maxHeartbeats 4000000
namespace QW
open PySem PySem.Spec PyProof.Rows L2 Evl QX
open QS (Qd Sd Tr Sq sqr Pt Way pw)
section
variable {P : Program} {w : World} {K : PySem.W.Frag} {mg : Str → Option Value} {base : Heap} {tM tS : Tok} {aS aF aW : Addr}
theorem et_eqR {σ : L2.St} {H : Hp} {ta tb : TE} {R : List (List Pt)} (h : ∀ H1, Ex H H1 → ∀ Q : VK, (∀ p xs H2, Ex H1 H2 → H2 p = some (.lst xs) → RL K H2 xs R → Q (.ref p) H2) → ta σ H1 Q)
    (h2 : ∀ H1, Ex H H1 → ∀ Q : VK, (∀ p xs H2, Ex H1 H2 → H2 p = some (.lst xs) → RL K H2 xs R → Q (.ref p) H2) → tb σ H1 Q) : EvN K (tOp (rNeD K) ta tb) σ H (.bool false) ∧ EvN K (tOp (rEqD K) ta tb) σ H (.bool true) :=
  ⟨fun H1 a Q q => h H1 a _ fun p xs H2 a2 hp hR => h2 H2 (a.trans a2) _ fun p2 xs2 H3 a3 hp2 hR2 =>
    ⟨dRg R, dRg R, .lst (sq_of (a3 _ _ hp)) (rl_dp (hR.ex a3)), .lst (sq_of hp2) (rl_dp hR2), rg_shaped R, rg_shaped R, by rw [eqv_rg]; exact q _ H3 (a2.trans a3) (.bl _)⟩,
   fun H1 a Q q => h H1 a _ fun p xs H2 a2 hp hR => h2 H2 (a.trans a2) _ fun p2 xs2 H3 a3 hp2 hR2 =>
    ⟨dRg R, dRg R, .lst (sq_of (a3 _ _ hp)) (rl_dp (hR.ex a3)), .lst (sq_of hp2) (rl_dp hR2), rg_shaped R, rg_shaped R, by rw [eqv_rg]; exact q _ H3 (a2.trans a3) (.bl _)⟩⟩
theorem c_rings {σ : L2.St} {H : Hp} {ta tb tc : TE} {x : Nat × Tr × Int × Int × Cd} (h1 : EvN K ta σ H (dSh x.1 x.2.1)) (h2 : EvN K tb σ H (.int x.2.2.1)) (h3 : EvN K tc σ H (.int x.2.2.2.1)) (hp : LeafPreN x) (hc : x.2.1.count ≤ 1000) :
    ∀ H1, Ex H H1 → ∀ Q : VK, (∀ p xs H2, Ex H1 H2 → H2 p = some (.lst xs) → RL K H2 xs (QS.ringsM x.2.1 x.1 (landS x.2.1 x.2.2.2.2)) → Q (.ref p) H2) → tCall (sp_rings K) [] E0 (tCons ta (tCons tb (tCons tc tNil))) σ H1 Q := fun H1 a Q q =>
  c_call (eg_conN h1 (eg_conN h2 (eg_conN h3 eg_nil'))) a fun vs H2 e2 hv => by
    obtain ⟨va, _, rfl, g1, vb, _, rfl, g2, vc, _, rfl, g3, rfl⟩ := hv
    exact ⟨x, va, vb, vc, rfl, g1, g2, g3, hp, hc, fun p xs H' np e hl hR => q p xs H' (e2.trans e) hl hR⟩
abbrev scRing : Scope := { kind := .function, names := [(".0", .local), ("_law_ring", .local)], isGenerator := false, isCoroutine := false }
abbrev s__law_twice : Stmt := top 66
abbrev N__law_twice : List Str := ["_law_sheet_here", "_law_place", "_law_around", "_law_many", "_law_level", "_law_tree", "_law_x", "_law_y", "_law_ring", "_law_a", "_law_b"]
abbrev P__law_twice : List Str := ["_law_sheet_here", "_law_place", "_law_around", "_law_many"]
theorem sc__law_twice : FnScope N__law_twice P__law_twice (defScope s__law_twice) := ⟨rfl, rfl, rfl, by decide +kernel, rfl, by decide +kernel, by decide +kernel⟩
theorem nd__law_twice : N__law_twice.Nodup := sc__law_twice.nd
def sp__law_twice (K : PySem.W.Frag) : Sp := fun vs H Q _ => ∃ (x : Nat × Tr × Int × Int × Cd) (va vb vm : V) (p : Addr) (xs : List V) (land : List Sq), vs = [va, vb, .ref p, vm] ∧ Dn K H va (dSh x.1 x.2.1) ∧ Dn K H vb (.tuple [.int x.2.2.1, .int x.2.2.2.1]) ∧ H p = some (.lst xs) ∧ RL K H xs (QS.ringsM x.2.1 x.1 (landS x.2.1 x.2.2.2.2)) ∧ Dn K H vm (.int (QS.rimP x.2.1 x.1 (landS x.2.1 x.2.2.2.2))) ∧
  LeafPre x ∧ LeafPre (x.1 + 1, x.2.1, 2 * x.2.2.1, 2 * x.2.2.2.1, x.2.2.2.2) ∧ x.2.1.count ≤ 1000 ∧ QS.Good x.2.1 x.1 x.2.2.2.2 (landS x.2.1 x.2.2.2.2) land ∧ RgB (QS.ringsM x.2.1 x.1 (landS x.2.1 x.2.2.2.2)) ∧ (QS.ringsM x.2.1 x.1 (landS x.2.1 x.2.2.2.2)).length ≤ 50000 ∧ (∀ r ∈ QS.ringsM x.2.1 x.1 (landS x.2.1 x.2.2.2.2), r.length ≤ 50000) ∧
  ∀ v H', Ex H H' → Dn K H' v (.bool true) → Q v H'
theorem ok__law_twice (T : Txt K w mg tM tS aS aF aW) (F : Fd K mg "_law_twice" s__law_twice) (C_rim : Ca P w K mg base "rim" P_rim 46 (sp_rim K)) (C_rings : Ca P w K mg base "rings" P_rings 46 (sp_rings K)) : Ca P w K mg base "_law_twice" P__law_twice 47 (sp__law_twice K) := by
  refine F.mk sc__law_twice (fun _ _ _ _ _ _ us hl => match us, hl with | [_, _, _, _], _ => rfl) (fun vs H Q E ⟨_, _, _, _, _, _, _, e, _⟩ => by rw [e]; rfl) (fun f0 cdv A outer s H vs Q E hr h => ?_)
  obtain ⟨⟨L, t, x, y, c⟩, va, vb, vm, p, xs, land, rfl, h0, h1, hp, hR, hm, hpre, hpre2, hcn, hG, hB, hRn, hrn, k⟩ := h
  simp only at h0 h1 hR hm hpre hpre2 hcn hG hB hRn hrn
  have hu64 := hr.units
  refine ⟨_, (pss_cons (ps_asg (pv 0) (pg_tup (by rfl) (pgs_cons (pg_name (i := 4) nd__law_twice rfl (Or.inl rfl)) (pgs_cons (pg_name (i := 5) nd__law_twice rfl (Or.inl rfl)) pgs_nil))))
      (pss_cons (ps_asg (pv 1) (pg_tup (by rfl) (pgs_cons (pg_name (i := 6) nd__law_twice rfl (Or.inl rfl)) (pgs_cons (pg_name (i := 7) nd__law_twice rfl (Or.inl rfl)) pgs_nil))))
      (pss_cons (ps_if (pt_cmpR op_ne (pe_ca C_rim hr (pa_cons (pe_tup (pa_cons (pe_op op_add (pv 4) pe_int) (pa_cons (pv 5) pa_nil))) (pa_cons (pe_op op_mul pe_int (pv 6)) (pa_cons (pe_op op_mul pe_int (pv 7)) pa_nil)))) (pe_op op_mul pe_int (pv 3)) (nomark _)) (pss_one (ps_ret pe_bl)) pss_nil)
      (pss_cons (ps_if (pt_cmpR (op_neD hu64) (pe_ca C_rings hr (pa_cons (pe_tup (pa_cons (pe_op op_add (pv 4) pe_int) (pa_cons (pv 5) pa_nil))) (pa_cons (pe_op op_mul pe_int (pv 6)) (pa_cons (pe_op op_mul pe_int (pv 7)) pa_nil)))) (pe_lc (own := [("_law_ring", 8)]) (te := tLc (iList K (tVar 8)) (gTup K 2 (gCons (gName 9) (gCons (gName 10) gNil))) tYes (tTup (tCons (tOp (rI CMul fun i j => .int (i * j)) (tC (.int 2)) (tVar 9)) (tCons (tOp (rI CMul fun i j => .int (i * j)) (tC (.int 2)) (tVar 10)) tNil))) [9, 10]) rfl nd__law_twice (pi_list (pv 2)) (blkOk_by (own := [("_law_ring", 8)]) (N := N__law_twice) (sc := defScope s__law_twice) (by decide +kernel)) (fun _ _ _ _ _ => (pg_name (i := 8) (nd__law_twice) rfl (Or.inl rfl))) (fun _ _ _ _ _ => pts_nil) (fun _ _ _ _ _ => (pe_lc (own := [("_law_a", 9), ("_law_b", 10)]) (g := gTup K 2 (gCons (gName 9) (gCons (gName 10) gNil))) rfl nd__law_twice (pi_list (pv 8)) (blkOk_by (own := [("_law_a", 9), ("_law_b", 10)]) (N := N__law_twice) (sc := scRing) (by decide +kernel)) (fun _ _ _ _ _ => (pg_tup (by rfl) (pgs_cons (pg_name (i := 9) (nd__law_twice) rfl (Or.inl rfl)) (pgs_cons (pg_name (i := 10) (nd__law_twice) rfl (Or.inl rfl)) pgs_nil)))) (fun _ _ _ _ _ => pts_nil) (fun _ _ _ _ _ => (pe_tup (pa_cons (pe_op op_mul pe_int (pv 9)) (pa_cons (pe_op op_mul pe_int (pv 10)) pa_nil))))))) (nomark _)) (pss_one (ps_ret pe_bl)) pss_nil)
      (pss_one (ps_ret (pe_and (pe_cmpR op_eq (pe_ca C_rim hr (pa_cons (pe_tup (pa_cons (pv 4) (pa_cons (pv 5) pa_nil))) (pa_cons (pv 6) (pa_cons (pv 7) pa_nil)))) (pv 3) (nomark _)) (pe_one (pe_cmpR (op_eqD hu64) (pe_ca C_rings hr (pa_cons (pe_tup (pa_cons (pv 4) (pa_cons (pv 5) pa_nil))) (pa_cons (pv 6) (pa_cons (pv 7) pa_nil)))) (pv 2) (nomark _)))))))))), ?_⟩
  refine q_unpack2 (en_var rfl h0) fun v4 v5 H1 e1 d4 d5 => ?_
  refine q_unpack2 (en_var rfl (h1.ex e1)) fun v6 v7 H2 e2 d6 d7 => ?_
  have e02 := e1.trans e2
  have two : ∀ {te : TE} {σ : L2.St} {H : Hp} {i : Int}, EvN K te σ H (.int i) → EvN K (tOp (rI CMul fun i j => .int (i * j)) (tC (.int 2)) te) σ H (.int (2 * i)) := fun h => en_opC en_int h (.inl ⟨by decide, by decide⟩)
  have sh2 : ∀ {σ : L2.St} {H : Hp}, Ex H2 H → σ[4]? = some (some v4) → σ[5]? = some (some v5) → EvN K (tTup (tCons (tOp (rI0 fun i j => .int (i + j)) (tVar 4) (tC (.int 1))) (tCons (tVar 5) tNil))) σ H (dSh (L + 1) t) := fun e h4 h5 => EvN.cast (en_tup (eg_cons (en_op0 (en_var h4 (d4.ex (e2.trans e))) en_int) (eg_cons (en_var h5 (d5.ex (e2.trans e))) eg_nil))) (by unfold dSh; congr 2)
  refine q_no (et_is (et_n (en_neI (en_call (K := K) (L + 1, t, 2 * x, 2 * y, c) (eg_cons (sh2 (Ex.refl _) rfl rfl) (eg_cons (two (en_var rfl d6)) (eg_cons (two (en_var rfl d7)) eg_nil))) ⟨hpre2, by simp only; omega⟩) (two (en_var rfl (hm.ex e02))))) ?_) fun H3 e3 => ?_
  · simp only [hG.rim2]; simp
  have e03 := e02.trans e3
  refine q_no (et_n (et_eqR (R := QS.ringsM t (L + 1) (landS t c)) (c_rings (x := (L + 1, t, 2 * x, 2 * y, c)) (sh2 e3 rfl rfl) (two (en_var rfl (d6.ex e3))) (two (en_var rfl (d7.ex e3))) ⟨hpre2, by simp only; omega⟩ hcn) ?_).1) fun H4 e4 => ?_
  · intro H5 e5 Q5 q5
    refine elR_lc (K := K) (tl := tVar 2) (σ := [some va, some vb, some (.ref p), some vm, some v4, some v5, some v6, some v7, none, none, none]) (f := QS.dbl) (ev_var rfl) (e03 _ _ hp) (hR.ex e03) hRn (fun r a ws H'' hrr ex ha hws M hM => hM [some va, some vb, some (.ref p), some vm, some v4, some v5, some v6, some v7, some (.ref a), none, none] rfl (fun H1 a Q q => q H1 (Ex.refl _)) ?_) H5 e5 Q5 fun D ys H' nD e hD hRL => q5 D ys H' e hD (by rw [hG.rings2]; exact hRL)
    have hin := el_lc (K := K) (σ := [some va, some vb, some (.ref p), some vm, some v4, some v5, some v6, some v7, some (.ref a), none, none]) (H := H'') (wi := iList K (tVar 8)) (g := gTup K 2 (gCons (gName 9) (gCons (gName 10) gNil))) (tt := tYes) (te := tTup (tCons (tOp (rI CMul fun i j => .int (i * j)) (tC (.int 2)) (tVar 9)) (tCons (tOp (rI CMul fun i j => .int (i * j)) (tC (.int 2)) (tVar 10)) tNil))) (vs := [9, 10]) (xs := r) (enc := dPt) (fun _ => true) (fun q => dPt (QS.dbl q)) (ei_list (ev_var rfl) ha hws (by simp)) (hrn r hrr)
      (fun q x H6 hx ex6 hy M hM => g_two hy fun w1 w2 d1 d2 => by
        refine hM _ rfl (fun H1 a Q q => q H1 (Ex.refl _)) fun _ => ?_
        exact en_tup (eg_cons (two (en_var rfl d1)) (eg_cons (two (en_var rfl d2)) eg_nil)))
    rw [List.filter_eq_self.mpr fun _ _ => rfl] at hin
    rw [List.map_map]
    exact hin
  have e04 := e03.trans e4
  have e24 := e3.trans e4
  have sh1 : EvN K (tTup (tCons (tVar 4) (tCons (tVar 5) tNil))) [some va, some vb, some (.ref p), some vm, some v4, some v5, some v6, some v7, none, none, none] H4 (dSh L t) := en_tup (eg_cons (en_var rfl (d4.ex (e2.trans e24))) (eg_cons (en_var rfl (d5.ex (e2.trans e24))) eg_nil))
  refine s_retN (en_and (en_eqI (en_call (K := K) (L, t, x, y, c) (eg_cons sh1 (eg_cons (en_var rfl (d6.ex e24)) (eg_cons (en_var rfl (d7.ex e24)) eg_nil))) ⟨hpre, by simp only; omega⟩) (en_var rfl (hm.ex e04))) fun _ => (et_eqR (R := QS.ringsM t L (landS t c)) (c_rings (x := (L, t, x, y, c)) sh1 (en_var rfl (d6.ex e24)) (en_var rfl (d7.ex e24)) ⟨hpre, by simp only; omega⟩ hcn) fun H5 e5 Q5 q5 => ⟨_, rfl, q5 p xs H5 (Ex.refl _) ((e04.trans e5) _ _ hp) (hR.ex (e04.trans e5))⟩).2) fun v H5 e5 hd => k v H5 (e04.trans e5) ?_
  simpa using hd
end
end QW
set_option autoImplicit true
set_option Elab.async false
set_option linter.all false
set_option maxRecDepth 100000
set_option maxHeartbeats 4000000
namespace QW
open PySem PySem.Spec PyProof.Rows L2 Evl QX
open QS (Qd Sd Tr Sq sqr Pt Way pw)
theorem leaves_lvF (t : Tr) : lvF [] t = QS.leaves t := by simp [lvF]
theorem fits_mono : ∀ {t : Tr} {n m : Nat}, QS.Fits t n → n ≤ m → QS.Fits t m := by
  intro t n m h
  induction h generalizing m with
  | leaf v n => intro _; exact .leaf _ _
  | node _ _ _ _ a b c d =>
    intro hm
    obtain ⟨k, rfl⟩ : ∃ k, m = k + 1 := ⟨m - 1, by omega⟩
    exact .node (a (by omega)) (b (by omega)) (c (by omega)) (d (by omega))
/-- all that law asks of one draw -/
theorem draw_ok {t : Tr} {L : Nat} {c : Cd} {x y : Int} (hL : L ≤ 40) (hf : QS.Fits t L) (hc : t.count ≤ 1000) (hl : QS.isLf t c = true) (hx : (sqr L 0 0 c).has x y) :
    LeafPreN (L, t, x, y, c) ∧ QS.Good t L c (landS t c) (QS.lawLand (QS.leaves t) L (c, QS.col t c)) ∧ RgB (QS.ringsM t L (landS t c)) := by
  have hG := QS.good hf hl (landS_perm t c)
  obtain ⟨hnd, hls, hlen⟩ := landS_facts hl
  refine ⟨⟨⟨hL, hf, hl, hx⟩, by show t.count ≤ 2000; omega⟩, hG, fun r hr => ?_⟩
  obtain ⟨h1, h2⟩ := QS.ringsM_bd hf hls hnd r hr
  obtain ⟨h3, h4⟩ := hG.lvl r hr
  refine ⟨h3, h4, ?_, fun P hP => ?_⟩
  · have := allWays_len t L (landS t c) (landS t c)
    have e : (landS t c).length * (4 * (t.count + 1)) ≤ 1000 * 4004 := Nat.mul_le_mul (by omega) (by omega)
    unfold QS.allWays at h1
    omega
  · have hp : pw L ≤ 2 ^ 40 := by
      unfold pw
      have h : (2 : Nat) ^ L ≤ 2 ^ 40 := Nat.pow_le_pow_right (by decide) hL
      exact_mod_cast h
    obtain ⟨⟨a, b⟩, c, d⟩ := h2 P hP
    exact ⟨⟨by omega, by omega⟩, by omega, by omega⟩
end QW
set_option autoImplicit true
set_option Elab.async false
set_option linter.all false
set_option maxRecDepth 100000
set_option maxHeartbeats 4000000
namespace QW
open PySem PySem.Spec PyProof.Rows L2 Evl QX
open QS (Qd Sd Tr Sq sqr Pt Way pw)
theorem has_mod (A : Sq) (a b : Int) (h : 0 < A.w) : A.has (A.x + a % A.w) (A.y + b % A.w) := by
  have h1 := Int.emod_nonneg a (Int.ne_of_gt h)
  have h2 := Int.emod_lt_of_pos a h
  have h3 := Int.emod_nonneg b (Int.ne_of_gt h)
  have h4 := Int.emod_lt_of_pos b h
  exact ⟨by omega, by omega, by omega, by omega⟩
theorem has_dbl {A : Sq} {x y : Int} (h : A.has x y) : A.dbl.has (2 * x) (2 * y) := by
  obtain ⟨a, b, c, d⟩ := h
  show 2 * A.x ≤ 2 * x ∧ 2 * x < 2 * A.x + 2 * A.w ∧ 2 * A.y ≤ 2 * y ∧ 2 * y < 2 * A.y + 2 * A.w
  omega
theorem land_w {t : Tr} {L : Nat} {c : Cd} (hL : L ≤ 40) (hf : QS.Fits t L) (h0 : QS.isLf t c = true) : ∀ A ∈ QS.lawLand (QS.leaves t) L (c, QS.col t c), 0 < A.w ∧ A.w ≤ 2 ^ 40 := by
  obtain ⟨Sc, e, _, h2⟩ := QS.lawLand_ok hf h0
  intro A hA
  rw [e] at hA
  obtain ⟨o, ho, rfl⟩ := List.mem_map.mp hA
  have hl := (((h2 o).mp ho).lf h0).1
  obtain ⟨a, b, _, _, d⟩ := QS.sqr_in o L 0 0 (QS.sqr_len hf hl)
  have := pw_le hL
  exact ⟨d, by omega⟩
theorem ringsGo_len {α : Type} [DecidableEq α] (f : α → α) (n : Nat) : ∀ (ks used : List α), (QS.ringsGo f n ks used).length ≤ ks.length
  | [], _ => by simp [QS.ringsGo]
  | k :: ks, used => by
    have h1 := ringsGo_len f n ks used
    have h2 := ringsGo_len f n ks (used ++ QS.ringGo f used n k [])
    rw [QS.ringsGo]
    split
    · simp only [List.length_cons]; omega
    · simp only [List.length_cons]; omega
theorem ringsM_len (t : Tr) (L : Nat) (S : List Cd) : (QS.ringsM t L S).length ≤ S.length * (4 * (t.count + 1)) := by
  have h1 := allWays_len t L S S
  unfold QS.ringsM
  rw [List.length_mergeSort, List.length_map]
  refine Nat.le_trans (ringsGo_len _ _ _ _) ?_
  rw [List.length_map]
  exact h1
theorem eqv_two (a b : Int) : PyData.eqv (.tuple [.int a, .int b]) (.tuple [.int a, .int b]) = true := by
  have e : ∀ i : Int, PyData.eqv (.int i) (.int i) = true := fun i => by
    unfold PyData.eqv; first | rfl | simp
  simp [PyData.eqv, PyData.eqvAll, e]
theorem two_shaped (a b : Int) : SeqAt.shaped (.tuple [.int a, .int b]) = true := by
  simp [SeqAt.shaped, PyData.canLay0, PyData.canLayAll0, PyData.depth, PyData.depthAll]
section
variable {P : Program} {w : World} {K : PySem.W.Frag} {mg : Str → Option Value} {base : Heap} {tM tS : Tok} {aS aF aW : Addr}
theorem ints_of {H : Hp} : ∀ {zs : List Int} {vs : List V}, DnAll K H vs (zs.map .int) → vs = zs.map V.int
  | [], _, h => by cases h; rfl
  | z :: zs, _, h => by
    cases h with
    | cons a b => cases a; rw [ints_of b]; rfl
theorem en_sum {σ : L2.St} {H : Hp} {te : TE} {zs : List Int} (h : EvLs K te σ H (zs.map .int)) : EvN K (tCB (rSum K) (tCons te tNil)) σ H (.int zs.sum) := fun H1 a Q q =>
  h H1 a _ fun p vs H2 np a2 hp hs => ⟨p, zs, rfl, by rw [← ints_of hs]; exact sq_of hp, q _ H2 a2 (.int _)⟩
abbrev s_law : Stmt := top 67
abbrev N_law : List Str := ["_law_script", "_law_sheet_here", "_law_told", "_law_k", "_law_cell", "_law_start", "_law_left", "_law_top", "_law_wide", "_law_land_here", "_law_many", "_law_x", "_law_y", "_law_found", "_law_places", "_law_around", "_law_square_here"]
abbrev P_law : List Str := ["_law_script"]
theorem sc_law : FnScope N_law P_law (defScope s_law) := ⟨rfl, rfl, rfl, by decide +kernel, rfl, by decide +kernel, by decide +kernel⟩
theorem nd_law : N_law.Nodup := sc_law.nd
def sp_law (K : PySem.W.Frag) : Sp := fun vs H Q _ => ∃ (p : Addr) (ns : List Int), vs = [.ref p] ∧ Scr K H p ns ∧ ∀ v H', Dn K H' v (.bool true) → Q v H'
theorem fn_mk {x : Str} {st : Stmt} {N ps : List Str} {k : Nat} {sp : Sp} {f : Addr} {fd : FuncData} (D : FunD K x x (defArgs st) (defBody st) (defScope st) [] [] f fd) (S : FnScope N ps (defScope st)) (len : ∀ vs H Q E, sp vs H Q E → vs.length = ps.length)
    (hbody : ∀ (f : Addr) (cdv : Value) (A : Around) (outer : List Env) (s : Shared) (H : Hp) (vs : List V) (Q : VK) (E : XK), Room k (A.deeper (envOfC x (defScope st) s.heap.objs.size f cdv)) → sp vs H Q E →
      ∃ t, PSs (cxOf CX0 P w K mg base N x (defScope st) f cdv A outer s H E).nox (defBody st) t ∧ t { nx := fun _ H' => Q .non H', rt := Q } (start N vs) H) : FnOk P w K mg base CX0 (k + 1) f fd ps sp :=
  D.ok S len fun cdv A outer s H vs Q E hr hsp => by
    obtain ⟨t, h, q⟩ := hbody f cdv A outer s H vs Q E hr hsp
    exact ⟨t, h.nox, q⟩
theorem ok_law (T : Txt K w mg tM tS aS aF aW) {f : Addr} {fd : FuncData} (F : FunD K "law" "law" (defArgs s_law) (defBody s_law) (defScope s_law) [] [] f fd) (C__law_sheet : Ca P w K mg base "_law_sheet" P__law_sheet 44 (sp__law_sheet K)) (C__law_leaves : Ca P w K mg base "_law_leaves" P__law_leaves 41 (sp__law_leaves K 41)) (C__law_at : Ca P w K mg base "_law_at" P__law_at 1 (sp__law_at K)) (C__law_square : Ca P w K mg base "_law_square" P__law_square 1 (sp__law_square K)) (C__law_land : Ca P w K mg base "_law_land" P__law_land 2 (sp__law_land K)) (C__law_rim : Ca P w K mg base "_law_rim" P__law_rim 2 (sp__law_rim K)) (C_rim : Ca P w K mg base "rim" P_rim 46 (sp_rim K)) (C_rings : Ca P w K mg base "rings" P_rings 46 (sp_rings K)) (C__law_sums : Ca P w K mg base "_law_sums" P__law_sums 1 (sp__law_sums K)) (C__law_twice : Ca P w K mg base "_law_twice" P__law_twice 47 (sp__law_twice K)) : FnOk P w K mg base CX0 48 f fd P_law (sp_law K) := by
  refine fn_mk F sc_law (fun vs H Q E ⟨_, _, e, _⟩ => by rw [e]; rfl) (fun f0 cdv A outer s H vs Q E hr h => ?_)
  obtain ⟨p, ns, rfl, hs, k⟩ := h
  have hu64 := hr.units
  refine ⟨_, (pss_cons (ps_set (i := 1) nd_law rfl (Or.inl rfl) (pe_ca C__law_sheet hr (pa_cons (pv 0) pa_nil)))
      (pss_cons (ps_set (i := 2) nd_law rfl (Or.inl rfl) (pe_ca C__law_leaves hr (pa_cons (pe_ix ix_tup (pv 1) pe_int (fun _ _ => rfl)) (pa_cons pe_str pa_nil))))
      (pss_cons (ps_for PassesOwn.never rfl (pi_range1 (by rfl) T.range (pa_cons (pe_op op_add pe_int (pe_op op_mul pe_int (pe_callTy call_int1 (by rfl) T.int b_int (pa_cons (pe_cmpR op_lt (pe_callB call_len_seq (by rfl) T.len b_len (pa_cons (pv 2) pa_nil)) pe_int (nomark _)) pa_nil)))) pa_nil)) (pg_name (i := 3) nd_law rfl (Or.inl rfl)) (pss_cons (ps_set (i := 4) nd_law rfl (Or.inl rfl) (pe_op op_add (pe_ca C__law_at hr (pa_cons (pv 0) (pa_cons (pe_op op_add pe_int (pv 3)) pa_nil))) (pe_op op_mul pe_int (pv 3))))
      (pss_cons (ps_set (i := 5) nd_law rfl (Or.inl rfl) (pe_ix ix_list (pv 2) (pe_op op_mod (pv 4) (pe_callB call_len_seq (by rfl) T.len b_len (pa_cons (pv 2) pa_nil))) (fun _ _ => rfl)))
      (pss_cons (ps_asg (pe_ca C__law_square hr (pa_cons (pe_ix ix_tup (pv 5) pe_int (fun _ _ => rfl)) (pa_cons (pe_ix ix_tup (pv 1) pe_int (fun _ _ => rfl)) pa_nil))) (pg_tup (by rfl) (pgs_cons (pg_name (i := 6) nd_law rfl (Or.inl rfl)) (pgs_cons (pg_name (i := 7) nd_law rfl (Or.inl rfl)) (pgs_cons (pg_name (i := 8) nd_law rfl (Or.inl rfl)) pgs_nil)))))
      (pss_cons (ps_set (i := 9) nd_law rfl (Or.inl rfl) (pe_ca C__law_land hr (pa_cons (pv 2) (pa_cons (pe_ix ix_tup (pv 1) pe_int (fun _ _ => rfl)) (pa_cons (pv 5) pa_nil)))))
      (pss_cons (ps_set (i := 10) nd_law rfl (Or.inl rfl) (pe_ca C__law_rim hr (pa_cons (pv 9) pa_nil)))
      (pss_cons (ps_set (i := 11) nd_law rfl (Or.inl rfl) (pe_op op_add (pv 6) (pe_op op_mod (pe_op op_fdiv (pv 4) pe_int) (pv 8))))
      (pss_cons (ps_set (i := 12) nd_law rfl (Or.inl rfl) (pe_op op_add (pv 7) (pe_op op_mod (pe_op op_fdiv (pv 4) pe_int) (pv 8))))
      (pss_cons (ps_set (i := 13) nd_law rfl (Or.inl rfl) (pe_ca C_rim hr (pa_cons (pv 1) (pa_cons (pv 11) (pa_cons (pv 12) pa_nil)))))
      (pss_cons (ps_if (PW.pt (pw_or (pt_not (pt_val (pe_callB call_isi (by rfl) T.isinstance b_isinstance (pa_cons (pv 13) (pa_cons (pe_bltn (v := .ty "int") (by rfl) T.int b_int rfl) pa_nil))))) (pw_or (pt_val (pe_callB call_isi (by rfl) T.isinstance b_isinstance (pa_cons (pv 13) (pa_cons (pe_bltn (v := .ty "bool") (by rfl) T.bool b_bool rfl) pa_nil)))) (pw_or1 (pt_cmpR op_ne (pv 13) (pv 10) (nomark _)))))) (pss_one (ps_ret pe_bl)) pss_nil)
      (pss_cons (ps_set (i := 14) nd_law rfl (Or.inl rfl) (pe_callB (cr_sum rfl) (by rfl) T.sum b_sum (pa_cons (pe_lc (own := [("_law_square_here", 16)]) (te := tOp (rI CMul fun i j => .int (i * j)) (tOp (rIxT K) (tVar 16) (tC (.int 2))) (tOp (rIxT K) (tVar 16) (tC (.int 2)))) rfl nd_law (pi_list (pv 9)) (blkOk_by (own := [("_law_square_here", 16)]) (N := N_law) (sc := defScope s_law) (by decide +kernel)) (fun _ _ _ _ _ => (pg_name (i := 16) (nd_law) rfl (Or.inl rfl))) (fun _ _ _ _ _ => pts_nil) (fun _ _ _ _ _ => (pe_op op_mul (pe_ix ix_tup (pv 16) pe_int (fun _ _ => rfl)) (pe_ix ix_tup (pv 16) pe_int (fun _ _ => rfl))))) pa_nil)))
      (pss_cons (ps_set (i := 15) nd_law rfl (Or.inl rfl) (pe_ca C_rings hr (pa_cons (pv 1) (pa_cons (pv 11) (pa_cons (pv 12) pa_nil)))))
      (pss_cons (ps_if (pt_cmpR (op_neD hu64) (pe_ca C__law_sums hr (pa_cons (pv 15) pa_nil)) (pe_tup (pa_cons (pe_op op_mul pe_int (pv 14)) (pa_cons (pv 10) pa_nil))) (nomark _)) (pss_one (ps_ret pe_bl)) pss_nil)
      (pss_one (ps_if (PW.pt (pw_and (pt_cmpR op_eq (pv 3) pe_int (nomark _)) (pw_and (pt_cmpR op_lt (pe_callB call_len_seq (by rfl) T.len b_len (pa_cons (pv 2) pa_nil)) pe_int (nomark _)) (pw_and (pt_cmpR op_lt (pe_ix ix_tup (pv 1) pe_int (fun _ _ => rfl)) pe_int (nomark _)) (pw_and1 (pt_not (pt_val (pe_ca C__law_twice hr (pa_cons (pv 1) (pa_cons (pe_tup (pa_cons (pv 11) (pa_cons (pv 12) pa_nil))) (pa_cons (pv 15) (pa_cons (pv 10) pa_nil)))))))))))) (pss_one (ps_ret pe_bl)) pss_nil)))))))))))))))
      (pss_one (ps_ret pe_bl))))), ?_⟩
  refine q_setX (K := K) (Pd := ShOk) (ex_callG (K := K) (eg_one (ev_var rfl)) fun vs H1 e1 hp Q q => ?_) fun v1 H1 d e1 d1 hP => ?_
  · subst hp; exact ⟨p, ns, rfl, hs.ex e1, q⟩
  obtain ⟨L, t, rfl, hL, hf, hc⟩ := hP
  have hct : 0 < t.count := by
    have : ∀ t : Tr, 0 < t.count := fun t => by
      induction t with
      | leaf v => simp [QS.Tr.count]
      | node a b c d h1 h2 h3 h4 => simp only [QS.Tr.count]; omega
    exact this t
  refine q_setL (K := K) (el_call (t, [], L) (eg_cons (en_ixT (ds := [.int L, dT t]) (d := dT t) (en_var rfl d1) en_int (by decide) rfl) (eg_cons (en_str (s := "")) eg_nil)) ⟨hf, (by show L < 41; omega), (by show 0 + L ≤ 41; omega), (by show t.count ≤ 2000; omega)⟩) fun r ws H2 nr e2 hr2 hws => ?_
  have e02 := e1.trans e2
  have hws : DnAll K H2 ws ((QS.leaves t).map dPc) := by rw [← leaves_lvF]; exact hws
  have hwl : ws.length = t.count := by rw [hws.len, List.length_map, QS.leaves_len]
  obtain ⟨N, hN, hN3⟩ : ∃ N : Nat, (1 : Int) + 2 * (if decide (((ws.length : Nat) : Int) < 70) = true then 1 else 0) = (N : Int) ∧ N ≤ 3 := by
    split
    · exact ⟨3, rfl, by decide⟩
    · exact ⟨1, rfl, by decide⟩
  refine q_for (K := K) (m := []) (α := Nat) (enc := fun i => .int (0 + (i : Int))) (xs := List.range N) (ei_range1 (n := (N : Int)) (eg_cons (EvN.cast (en_op0 en_int (en_opC en_int (en_b2i (en_cmp (en_lenL (ev_var rfl) hr2) en_int)) (.inl ⟨by decide, by decide⟩))) (by rw [hN])) eg_nil) (by omega) (by omega)) .nil
    (fun pre σ' H' => ∃ o3 o4 o5 o6 o7 o8 o9 o10 o11 o12 o13 o14 o15 : Option V, σ' = [some (.ref p), some v1, some (.ref r), o3, o4, o5, o6, o7, o8, o9, o10, o11, o12, o13, o14, o15, none])
    (fun H3 e3 => ⟨none, none, none, none, none, none, none, none, none, none, none, none, none, rfl⟩) (fun pre i post xv σ' H3 H4 hxs e3 pv e4 hd NN hNN => ?_) (fun σ' H3 e3 pv => ?_)
  · obtain ⟨o3, o4, o5, o6, o7, o8, o9, o10, o11, o12, o13, o14, o15, rfl⟩ := pv
    rw [Int.zero_add] at hd
    have e24 : Ex H2 H4 := e3.ex.trans e4
    have e04 := e02.trans e24
    have d14 := d1.ex (e2.trans e24)
    have hr4 := e24 _ _ hr2
    have hws4 := hws.ex e24
    refine q_set (en_op0 (en_at (ev_var rfl) (hs.ex e04) (en_op0 en_int (en_var rfl hd)) (by omega)) (en_opC en_int (en_var rfl hd) (.inl ⟨by decide, by decide⟩))) fun v4 H5 e5 d4 => ?_
    generalize nthI ns (11 + (i : Int)) + 3 * (i : Int) = cell at d4
    obtain ⟨j, hj, hjl⟩ := mod_nat cell (m := (t.count : Int)) (by omega)
    obtain ⟨⟨c, cv⟩, hcj⟩ : ∃ x, (QS.leaves t)[j]? = some x := ⟨_, List.getElem?_eq_getElem (by rw [QS.leaves_len]; omega)⟩
    obtain ⟨hlf, hcol⟩ := QS.mem_leaves.mp (List.mem_of_getElem? hcj)
    simp only at hlf hcol
    refine q_set (en_ixL (K := K) (d := dPc (c, cv)) (ev_var rfl) (sq_of (e5 _ _ hr4)) (EvN.cast (en_opC (en_var rfl d4) (en_lenL (ev_var rfl) (e5 _ _ hr4)) (by show (0 : Int) < _; omega)) (by rw [hwl, hj])) (hws4.ex e5) (by omega) (by rw [Int.toNat_natCast, List.getElem?_map, hcj]; rfl)) fun v5 H6 e6 d5 => ?_
    have hcl := QS.sqr_len hf hlf
    have e56 := e5.trans e6
    have lvl : ∀ {σ : L2.St} {H : Hp}, Ex H4 H → σ[1]? = some (some v1) → EvN K (tOp (rIxT K) (tVar 1) (tC (.int 0))) σ H (.int (L : Nat)) := fun e hσ => en_ixT (ds := [.int L, dT t]) (en_var hσ (d14.ex e)) en_int (by decide) rfl
    refine q_unpack3 (EvN.cast (en_call (K := K) (c, L) (eg_cons (en_ixT (ds := [dC c, .int cv]) (en_var rfl d5) en_int (by decide) rfl) (eg_cons (lvl e56 rfl) eg_nil)) ⟨hcl, (by show L ≤ 41; omega)⟩) (by rfl)) fun v6 v7 v8 H7 e7 d6 d7 d8 => ?_
    have e47 := e56.trans e7
    refine q_setC (eg_conV (ev_var rfl) (eg_conN (lvl e47 rfl) (eg_conN (en_var rfl (d5.ex e7)) eg_nil'))) fun vs8 H8 e8 hp8 => ?_
    obtain ⟨_, rfl, u1, _, rfl, g1, u2, _, rfl, g2, rfl⟩ := hp8
    have e48 := e47.trans e8
    refine ⟨r, ws, QS.leaves t, u1, u2, L, (c, cv), rfl, e48 _ _ hr4, hws4.ex e48, g1, g2, hL, fun x hx => QS.sqr_len hf (QS.mem_leaves.mp hx).1, hcl, by rw [QS.leaves_len]; omega, fun q us H9 nq e9 hq hus hql => ?_⟩
    rw [QS.leaves_len] at hql
    have hbox := draw_ok (x := (sqr L 0 0 c).x + cell / 3 % (sqr L 0 0 c).w) (y := (sqr L 0 0 c).y + cell / 7 % (sqr L 0 0 c).w) hL hf hc hlf (has_mod _ _ _ (QS.sqr_in c L 0 0 hcl).2.2.2.2)
    rw [hcol] at hbox
    obtain ⟨hpreN, hG, hB⟩ := hbox
    generalize hland : QS.lawLand (QS.leaves t) L (c, cv) = land at hus hql hG
    have e49 := e48.trans e9
    refine q_set (en_callG (K := K) (d := .int (QS.lrim [] land)) (eg_one (ev_var rfl)) fun vs9 H10 e10 hp10 Q9 k9 => ?_) fun v10 H10 e10 d10 => ?_
    · subst hp10
      exact ⟨q, us, land, rfl, e10 _ _ hq, hus.ex e10, by omega, k9⟩
    have hw0 : 0 < (sqr L 0 0 c).w := (QS.sqr_in c L 0 0 hcl).2.2.2.2
    have e410 := e49.trans e10
    have e710 := (e8.trans e9).trans e10
    have e510 := (e6.trans e7).trans e710
    refine q_set (en_op0 (en_var rfl (d6.ex e710)) (en_opC (en_opC (en_var rfl (d4.ex e510)) en_int ⟨by decide, by decide⟩) (en_var rfl (d8.ex e710)) hw0)) fun v11 H11 e11 d11 => ?_
    refine q_set (en_op0 (en_var rfl (d7.ex (e710.trans e11))) (en_opC (en_opC (en_var rfl (d4.ex (e510.trans e11))) en_int ⟨by decide, by decide⟩) (en_var rfl (d8.ex (e710.trans e11))) hw0)) fun v12 H12 e12 d12 => ?_
    generalize hX : (sqr L 0 0 c).x + cell / 3 % (sqr L 0 0 c).w = X at hpreN d11
    generalize hY : (sqr L 0 0 c).y + cell / 7 % (sqr L 0 0 c).w = Y at hpreN d12
    have e1012 := e11.trans e12
    have e412 := e410.trans e1012
    refine q_set (en_call (K := K) (L, t, X, Y, c) (eg_cons (en_var rfl (d14.ex e412)) (eg_cons (en_var rfl (d11.ex e12)) (eg_cons (en_var rfl d12) eg_nil))) hpreN) fun v13 H13 e13 d13 => ?_
    have d13 : Dn K H13 v13 (.int (QS.rimP t L (landS t c))) := d13
    rw [hG.rim] at d13
    refine q_no (et_is (et_or (et_not (et_v (en_isIT (en_var rfl d13)))) fun _ => et_or (et_v (en_isIF (en_var rfl d13))) fun _ => et_n (en_neI (en_var rfl d13) (en_var rfl (d10.ex (e1012.trans e13))))) (by simp)) fun H14 e14 => ?_
    have e1014 := (e1012.trans e13).trans e14
    have hwb : ∀ A ∈ land, 0 < A.w ∧ A.w ≤ 2 ^ 40 := by
      have := land_w hL hf hlf
      rw [hcol, hland] at this
      exact this
    have hlc := el_lc (K := K) (σ := [some (.ref p), some v1, some (.ref r), some xv, some v4, some v5, some v6, some v7, some v8, some (.ref q), some v10, some v11, some v12, some v13, o14, o15, none]) (H := H14) (wi := iList K (tVar 9)) (g := gName 16) (tt := tYes) (te := tOp (rI CMul fun i j => .int (i * j)) (tOp (rIxT K) (tVar 16) (tC (.int 2))) (tOp (rIxT K) (tVar 16) (tC (.int 2)))) (vs := [16]) (xs := land) (enc := dSq) (fun _ => true) (fun A => .int (A.w * A.w)) (ei_list (ev_var rfl) ((e10.trans e1014) _ _ hq) (hus.ex (e10.trans e1014)) (by simp)) (by omega)
      (fun A x H'' hx ex hy M hM => by
        have hb := hwb A hx
        refine hM _ rfl (fun H1 a Q q => q H1 (Ex.refl _)) fun _ => ?_
        have hw : EvN K (tOp (rIxT K) (tVar 16) (tC (.int 2))) [some (.ref p), some v1, some (.ref r), some xv, some v4, some v5, some v6, some v7, some v8, some (.ref q), some v10, some v11, some v12, some v13, o14, o15, some x] H'' (.int A.w) := en_ixT (ds := [.int A.x, .int A.y, .int A.w]) (en_var rfl hy) en_int (by decide) rfl
        exact en_opC hw hw (.inl ⟨by omega, by omega⟩))
    rw [List.filter_eq_self.mpr fun _ _ => rfl] at hlc
    refine q_set (en_sum (zs := land.map fun A => A.w * A.w) (by rw [List.map_map]; exact hlc)) fun v14 H15 e15 d14' => ?_
    have e1015 := e1014.trans e15
    have e415 := e410.trans e1015
    have e1215 := (e13.trans e14).trans e15
    have hL' : L ≤ 40 := hL
    have hcn1 : t.count ≤ 1000 := by omega
    refine q_setC (eg_conN (en_var rfl (d14.ex e415)) (eg_conN (en_var rfl (d11.ex (e12.trans e1215))) (eg_conN (en_var rfl (d12.ex e1215)) eg_nil'))) fun vs16 H16 e16 hp16 => ?_
    obtain ⟨u1, _, rfl, g1, u2, _, rfl, g2, u3, _, rfl, g3, rfl⟩ := hp16
    refine ⟨(L, t, X, Y, c), u1, u2, u3, rfl, g1, g2, g3, hpreN, hcn1, fun pr rs H17 npr e17 hpr hRL => ?_⟩
    have e1017 := (e1015.trans e16).trans e17
    have e417 := e410.trans e1017
    have e1217 := (e1215.trans e16).trans e17
    have d10' := d10.ex e1017
    have d14'' := (d14'.ex e16).ex e17
    refine q_no (et_is (et_n (en_neD (d := .tuple [.int (2 * (land.map fun A => A.w * A.w).sum), .int (QS.lrim [] land)]) (e := .tuple [.int (2 * (land.map fun A => A.w * A.w).sum), .int (QS.lrim [] land)]) (en_callG (K := K) (eg_one (ev_var rfl)) fun vs18 H18 e18 hp18 Q18 k18 => ?_) (en_tup (eg_cons (en_opC en_int (en_var rfl d14'') (.inl ⟨by decide, by decide⟩)) (eg_cons (en_var rfl d10') eg_nil))) (two_shaped _ _) (two_shaped _ _))) (by rw [eqv_two]; rfl)) fun H18 e18 => ?_
    · subst hp18
      refine ⟨pr, rs, _, rfl, e18 _ _ hpr, hRL.ex e18, hB, fun v19 H19 e19 d19 => k18 v19 H19 e19 ?_⟩
      rw [hG.area, hG.far] at d19
      exact d19
    have e1018 := e1017.trans e18
    have e418 := e410.trans e1018
    have e1218 := e1217.trans e18
    refine s_no (et_is (et_and (et_n (en_eqI (en_var rfl (hd.ex e418)) en_int)) fun _ => et_and (et_n (en_cmp (en_lenL (ev_var rfl) (e418 _ _ hr4)) en_int)) fun hlt => et_and (et_n (en_cmp (lvl e418 rfl) en_int)) fun hL40 => et_not (et_n (en_callG (K := K) (d := .bool true) (eg_conN (en_var rfl (d14.ex e418)) (eg_conN (en_tup (ds := [.int X, .int Y]) (eg_cons (en_var rfl (d11.ex (e12.trans e1218))) (eg_cons (en_var rfl (d12.ex e1218)) eg_nil))) (eg_conV (ev_var rfl) (eg_conN (en_var rfl (d10.ex e1018)) eg_nil')))) fun vs19 H19 e19 hp19 Q19 k19 => ?_))) (by simp)) fun H19 e19 => hNN _ _ (.of (e418.trans e19)) ⟨_, _, _, _, _, _, _, _, _, _, _, _, _, rfl⟩
    obtain ⟨u4, _, rfl, g4, u5, _, rfl, g5, _, rfl, u6, _, rfl, g6, rfl⟩ := hp19
    have hlt : ws.length < 30 := by have := of_decide_eq_true hlt; omega
    have hL40 : L < 40 := by have := of_decide_eq_true hL40; omega
    have hcn2 : t.count < 30 := by omega
    obtain ⟨hnd, hls, hll⟩ := landS_facts hlf
    have hm : (landS t c).length * (4 * (t.count + 1)) ≤ 30 * (4 * 31) := Nat.mul_le_mul (by omega) (by omega)
    refine ⟨(L, t, X, Y, c), u4, u5, u6, pr, rs, land, rfl, g4, g5, e19 _ _ (e18 _ _ hpr), hRL.ex (e18.trans e19), by rw [hG.rim]; exact g6, hpreN.1, ⟨by show L + 1 ≤ 40; omega, fits_mono hf (Nat.le_succ _), hlf, ?_⟩, hcn1, hG, hB, ?_, fun rr hrr => ?_, k19⟩
    · show (sqr (L + 1) 0 0 c).has (2 * X) (2 * Y)
      rw [QS.sqr_dbl0 hf hlf]
      exact has_dbl hpreN.1.2.2.2
    · have := ringsM_len t L (landS t c)
      show (QS.ringsM t L (landS t c)).length ≤ 50000
      omega
    · have h1 := (QS.ringsM_bd hf hls hnd rr hrr).1
      have h2 := allWays_len t L (landS t c) (landS t c)
      unfold QS.allWays at h1
      omega
  · obtain ⟨o3, o4, o5, o6, o7, o8, o9, o10, o11, o12, o13, o14, o15, rfl⟩ := pv
    exact s_retN (K := K) en_bl fun v H4 e4 hd4 => k v H4 hd4
end
end QW
set_option autoImplicit true
set_option Elab.async false
set_option linter.all false
set_option maxRecDepth 100000
set_option maxHeartbeats 0
namespace QH
open PySem PySem.Spec PyProof.Rows L2 QW
open QS (Sd)
def dd (x : Str) (s : Stmt) : He.DefD := ⟨(x, none), x, x, defArgs s, defBody s, defScope s, [], []⟩
def fn0 : List He.DefD := [dd "is_whole" s_is_whole, dd "is_level" s_is_level, dd "is_code" s_is_code, dd "check_code" s_check_code, dd "check_level" s_check_level, dd "check_place" s_check_place, dd "corner" s_corner, dd "code_at" s_code_at, dd "beside" s_beside, dd "overlap" s_overlap, dd "common" s_common, dd "square_at" s_square_at, dd "leaf_at" s_leaf_at, dd "refuse_leaf" s_refuse_leaf, dd "gather" s_gather, dd "leaves" s_leaves, dd "along" s_along, dd "beyond" s_beyond, dd "about" s_about, dd "members_from" s_members_from, dd "land_at" s_land_at, dd "rim" s_rim, dd "by_rows" s_by_rows, dd "first_of" s_first_of, dd "free_parts" s_free_parts, dd "taken_by" s_taken_by, dd "ways_of" s_ways_of, dd "following" s_following, dd "ring_from" s_ring_from, dd "corners_of" s_corners_of]
def fn1 : List He.DefD := [dd "rings" s_rings, dd "_law_at" s__law_at, dd "_law_colour" s__law_colour, dd "_law_code" s__law_code, dd "_law_tree_of" s__law_tree_of, dd "_law_tree_by" s__law_tree_by, dd "_law_paints" s__law_paints, dd "_law_met" s__law_met, dd "_law_square" s__law_square, dd "_law_rim" s__law_rim, dd "_law_leaves" s__law_leaves, dd "_law_sums" s__law_sums, dd "_law_land" s__law_land, dd "_law_tree_of_rows" s__law_tree_of_rows, dd "_law_grid" s__law_grid, dd "_law_sheet_by_digits" s__law_sheet_by_digits, dd "_law_sheet" s__law_sheet, dd "_law_twice" s__law_twice, dd "law" s_law]
def fn : List He.DefD := fn0 ++ fn1
def fa0 : List He.Fa := [.free "isinstance", .free "int", .free "bool", .free "str", .free "tuple", .free "list", .free "dict", .free "len", .free "range", .free "enumerate", .free "reversed", .free "min", .free "max", .free "abs", .free "all", .free "sum", .free "sorted", .int "MOST" 40, .str "SIGNS" "0123", .glo "SIDES", .glo "FACING", .glo "WAYS", .glo "is_whole", .glo "is_level", .glo "is_code", .glo "check_code", .glo "check_level", .glo "check_place", .glo "corner", .glo "code_at"]
def fa1 : List He.Fa := [.glo "beside", .glo "overlap", .glo "common", .glo "square_at", .glo "leaf_at", .glo "refuse_leaf", .glo "gather", .glo "leaves", .glo "along", .glo "beyond", .glo "about", .glo "members_from", .glo "land_at", .glo "rim", .glo "by_rows", .glo "first_of", .glo "free_parts", .glo "taken_by", .glo "ways_of", .glo "following", .glo "ring_from", .glo "corners_of", .glo "rings", .glo "_law_at", .glo "_law_colour", .glo "_law_code", .glo "_law_tree_of", .glo "_law_tree_by", .glo "_law_paints", .glo "_law_met"]
def fa2 : List He.Fa := [.glo "_law_square", .glo "_law_rim", .glo "_law_leaves", .glo "_law_sums", .glo "_law_land", .glo "_law_tree_of_rows", .glo "_law_grid", .glo "_law_sheet_by_digits", .glo "_law_sheet", .glo "_law_twice", .glo "law"]
def fa : List He.Fa := fa0 ++ fa1 ++ fa2
abbrev R : PySem.W.OpenRow := PySem.W.OpenLaw.row PySem.Challenge.rw_quartersheet_k66_whole_rings_area_and_ri
/-- at the key x of the module's table D stands a tuple of these -/
def ent (K : PySem.W.Frag) (D x : Str) (vs : List V) : Bool := match PySem.W.nsIn K (He.ga K D) x with
  | some (some (.ref p)) => (match K.lookup p with
    | some ⟨.type c, _, .seq its _, _⟩ => decide (c = "tuple") && (decide (its.size ≤ sizeLine) && He.relAll vs its.toList)
    | _ => false)
  | _ => false
theorem ent_ok {K : PySem.W.Frag} {D x : Str} {vs : List V} (h : ent K D x vs = true) : ∃ p, PySem.W.nsIn K (He.ga K D) x = some (some (.ref p)) ∧ ∀ H, TupAt K H p vs := by
  unfold ent at h
  split at h
  · rename_i p e
    split at h
    · rename_i c d its n sl e2
      obtain ⟨h1, h2⟩ := He.ba h
      obtain ⟨h3, h4⟩ := He.ba h2
      exact ⟨p, e, fun H => .inr ⟨_, its, n, e2, congrArg Value.type (of_decide_eq_true h1), rfl, of_decide_eq_true h3, He.relAll_ok h4⟩⟩
    · cases h
  · cases h
def ex (K : PySem.W.Frag) : Bool := He.tupB K "SIDES" [.str "up", .str "right", .str "down", .str "left"] && [Sd.up, .right, .down, .left].all fun s => ent K "WAYS" (sn s) [.int (wbit s), .bl (wmore s)] && ent K "FACING" (sn s) [.int (QS.fc s).1.num, .int (QS.fc s).2.num]
def ts : List He.Tab := [(fun K => He.ga K "WAYS", ["up", "right", "down", "left"]), (fun K => He.ga K "FACING", ["up", "right", "down", "left"])]
abbrev hk : PySem.W.Hook := He.hookX 5 fa fn ts [] ex
def ob (s : PySem.W.SharedT) : He.AlX := He.obsX 5 fa fn ts [] ex (HandSHeadRun.getT s)
theorem ob_eq (s : PySem.W.SharedT) : ob s = hk.obs s.abs := He.obsX_eq (HandSHeadRun.getT_eq s)
def lo0 : List Str := ["__name__", "SheetError", "NoLevel", "NoCode", "NoPlace", "NoSide", "NoLeaf", "MOST", "SIGNS", "is_whole", "is_level", "is_code", "WAYS", "check_code", "check_level"]
def lo1 : List Str := ["check_place", "corner", "code_at", "beside", "overlap", "common", "gather", "leaves", "leaf_at", "SIDES", "FACING", "square_at", "refuse_leaf", "along", "beyond"]
def lo2 : List Str := ["about", "members_from", "land_at", "rim", "free_parts", "taken_by", "ways_of", "following", "ring_from", "by_rows", "corners_of", "first_of", "rings", "_law_at", "_law_code"]
def lo3 : List Str := ["_law_paints", "_law_colour", "_law_tree_of", "_law_tree_by", "_law_grid", "_law_tree_of_rows", "_law_sheet_by_digits", "_law_sheet", "_law_leaves", "_law_square", "_law_met", "_law_land", "_law_rim", "_law_sums", "_law_twice"]
def loose : List Str := lo0 ++ lo1 ++ lo2 ++ lo3
theorem run0 (w : World) : HandSHeadRun.RunEq R (PySem.W.view R.prog [67]) hk ob 3300 loose (w.withFollow "special-get-raises" false) := by
  intro os
  kernel_rfl
theorem run1 (w : World) : HandSHeadRun.RunEq R (PySem.W.view R.prog [67]) hk ob 3300 loose (w.withFollow "special-get-raises" true) := by
  intro os
  kernel_rfl
theorem run (w : World) : HandSHeadRun.RunEq R (PySem.W.view R.prog [67]) hk ob 3300 loose w :=
  PySem.W.byRow2 (P := fun w => HandSHeadRun.RunEq R (PySem.W.view R.prog [67]) hk ob 3300 loose w) "special-get-raises" run0 run1 w
end QH
set_option autoImplicit true
set_option Elab.async false
set_option linter.all false
set_option maxRecDepth 100000
set_option maxHeartbeats 4000000
namespace QH
open PySem PySem.Spec PyProof.Rows L2 QW
open QS (Sd)
section
variable {w : World} {K : PySem.W.Frag} {h h' : Heap} {mg : Str → Option Value}
theorem kdct {D : Str} {x : Str} {p : Addr} (d : ∃ es n, KDict K w (He.ga K D) es n) (e : PySem.W.nsIn K (He.ga K D) x = some (some (.ref p))) : KDct K w (He.ga K D) x (.ref p) := by
  obtain ⟨es, n, d⟩ := d
  exact ⟨es, n, _, d.at_, d.lit, e, rfl⟩
theorem txt (X : K.In h) (G : h.Ns mainGlobals mg) (c : He.SaysX fa fn ts [] ex w h' K) : ∃ tM tS, Txt K w mg tM tS (He.ga K "SIDES") (He.ga K "FACING") (He.ga K "WAYS") := by
  have cd := c.t.d
  have f_isinstance : mg "isinstance" = none := He.free_ok X G (cd.fact 0 (f := .free "isinstance") rfl)
  have f_int : mg "int" = none := He.free_ok X G (cd.fact 1 (f := .free "int") rfl)
  have f_bool : mg "bool" = none := He.free_ok X G (cd.fact 2 (f := .free "bool") rfl)
  have f_str : mg "str" = none := He.free_ok X G (cd.fact 3 (f := .free "str") rfl)
  have f_tuple : mg "tuple" = none := He.free_ok X G (cd.fact 4 (f := .free "tuple") rfl)
  have f_list : mg "list" = none := He.free_ok X G (cd.fact 5 (f := .free "list") rfl)
  have f_dict : mg "dict" = none := He.free_ok X G (cd.fact 6 (f := .free "dict") rfl)
  have f_len : mg "len" = none := He.free_ok X G (cd.fact 7 (f := .free "len") rfl)
  have f_range : mg "range" = none := He.free_ok X G (cd.fact 8 (f := .free "range") rfl)
  have f_enumerate : mg "enumerate" = none := He.free_ok X G (cd.fact 9 (f := .free "enumerate") rfl)
  have f_reversed : mg "reversed" = none := He.free_ok X G (cd.fact 10 (f := .free "reversed") rfl)
  have f_min : mg "min" = none := He.free_ok X G (cd.fact 11 (f := .free "min") rfl)
  have f_max : mg "max" = none := He.free_ok X G (cd.fact 12 (f := .free "max") rfl)
  have f_abs : mg "abs" = none := He.free_ok X G (cd.fact 13 (f := .free "abs") rfl)
  have f_all : mg "all" = none := He.free_ok X G (cd.fact 14 (f := .free "all") rfl)
  have f_sum : mg "sum" = none := He.free_ok X G (cd.fact 15 (f := .free "sum") rfl)
  have f_sorted : mg "sorted" = none := He.free_ok X G (cd.fact 16 (f := .free "sorted") rfl)
  obtain ⟨tM, hM⟩ := He.int_ok X G (cd.fact 17 (f := .int "MOST" 40) rfl)
  obtain ⟨tS, hS⟩ := He.str_ok X G (cd.fact 18 (f := .str "SIGNS" "0123") rfl)
  have m := c.more
  obtain ⟨m1, m2⟩ := He.ba m
  have m3 : ∀ s : Sd, ent K "WAYS" (sn s) [.int (wbit s), .bl (wmore s)] = true ∧ ent K "FACING" (sn s) [.int (QS.fc s).1.num, .int (QS.fc s).2.num] = true := fun s => He.ba (List.all_eq_true.mp m2 s (by cases s <;> simp))
  have hs := He.tupB_ok m1 (fun _ => none)
  refine ⟨tM, tS, ⟨f_isinstance, f_int, f_bool, f_str, f_tuple, f_list, f_dict, f_len, f_range, f_enumerate, f_reversed, f_min, f_max, f_abs, f_all, f_sum, f_sorted, hM, hS, He.glo_ok X G (cd.fact 19 (f := .glo "SIDES") rfl), He.glo_ok X G (cd.fact 20 (f := .glo "FACING") rfl), He.glo_ok X G (cd.fact 21 (f := .glo "WAYS") rfl), ?_, fun s => ?_, fun s => ?_⟩⟩
  · rcases hs with (h | ⟨o, h⟩) | h
    · cases h
    · cases h
    · exact h
  · obtain ⟨p, e, q⟩ := ent_ok (m3 s).1
    exact ⟨p, kdct (c.t.tab 0 (t := (fun K => He.ga K "WAYS", ["up", "right", "down", "left"])) rfl) e, q⟩
  · obtain ⟨p, e, q⟩ := ent_ok (m3 s).2
    exact ⟨p, kdct (c.t.tab 1 (t := (fun K => He.ga K "FACING", ["up", "right", "down", "left"])) rfl) e, q⟩
theorem fd_of (X : K.In h) (G : h.Ns mainGlobals mg) (c : He.SaysX fa fn ts [] ex w h' K) (i j : Nat) {x : Str} {st : Stmt} (hi : fn[i]? = some (dd x st)) (hj : fa[j]? = some (.glo x)) : Fd K mg x st := by
  obtain ⟨fd, F⟩ := c.t.d.def_ i hi
  exact ⟨_, fd, F, He.glo_ok X G (c.t.d.fact j hj)⟩
theorem facts {P : Program} {f : Addr} (X : K.In h) (G : h.Ns mainGlobals mg) (hfa : mg ("law" : Str) = some (.ref f)) (c : He.SaysX fa fn ts [] ex w h' K) :
    ∃ fd : FuncData, (∀ (s : Shared) (v : Value), BindsTo s fd ⟨[v], []⟩ [("_law_script", v)]) ∧ ∀ base : Heap, FnOk P w K mg base CX0 48 f fd ["_law_script"] (sp_law K) := by
  obtain ⟨tM, tS, T⟩ := txt X G c
  obtain ⟨fd, F⟩ := c.t.d.def_ 48 (d := dd "law" s_law) rfl
  have e := hfa.symm.trans (He.glo_ok X G (c.t.d.fact 70 (f := .glo "law") rfl))
  cases e
  have b := FunD.bindsA (ps := ["_law_script"]) F fun _ _ _ _ _ _ us hl => match us, hl with | [_], _ => rfl
  refine ⟨fd, fun s v => b s [v] rfl, fun base => ?_⟩
  have F_is_whole : Fd K mg "is_whole" s_is_whole := fd_of X G c 0 22 rfl rfl
  have C_is_whole := ok_is_whole (P := P) (w := w) (base := base) T F_is_whole
  have F_is_level : Fd K mg "is_level" s_is_level := fd_of X G c 1 23 rfl rfl
  have C_is_level := ok_is_level (P := P) (w := w) (base := base) T F_is_level C_is_whole
  have F_is_code : Fd K mg "is_code" s_is_code := fd_of X G c 2 24 rfl rfl
  have C_is_code := ok_is_code (P := P) (w := w) (base := base) T F_is_code
  have F_check_code : Fd K mg "check_code" s_check_code := fd_of X G c 3 25 rfl rfl
  have C_check_code := ok_check_code (P := P) (w := w) (base := base) T F_check_code C_is_code
  have F_check_level : Fd K mg "check_level" s_check_level := fd_of X G c 4 26 rfl rfl
  have C_check_level := ok_check_level (P := P) (w := w) (base := base) T F_check_level C_is_level
  have F_check_place : Fd K mg "check_place" s_check_place := fd_of X G c 5 27 rfl rfl
  have C_check_place := ok_check_place (P := P) (w := w) (base := base) T F_check_place C_is_whole
  have F_corner : Fd K mg "corner" s_corner := fd_of X G c 6 28 rfl rfl
  have C_corner := ok_corner (P := P) (w := w) (base := base) T F_corner C_check_code C_check_level
  have F_code_at : Fd K mg "code_at" s_code_at := fd_of X G c 7 29 rfl rfl
  have C_code_at := ok_code_at (P := P) (w := w) (base := base) T F_code_at C_is_level C_check_place
  have F_beside : Fd K mg "beside" s_beside := fd_of X G c 8 30 rfl rfl
  have C_beside := ok_beside (P := P) (w := w) (base := base) T F_beside C_check_code
  have F_overlap : Fd K mg "overlap" s_overlap := fd_of X G c 9 31 rfl rfl
  have C_overlap := ok_overlap (P := P) (w := w) (base := base) T F_overlap
  have F_common : Fd K mg "common" s_common := fd_of X G c 10 32 rfl rfl
  have C_common := ok_common (P := P) (w := w) (base := base) T F_common C_check_code C_check_level C_corner C_overlap
  have F_square_at : Fd K mg "square_at" s_square_at := fd_of X G c 11 33 rfl rfl
  have C_square_at := ok_square_at (P := P) (w := w) (base := base) T F_square_at
  have F_leaf_at : Fd K mg "leaf_at" s_leaf_at := fd_of X G c 12 34 rfl rfl
  have C_leaf_at := ok_leaf_at (P := P) (w := w) (base := base) T F_leaf_at C_check_place C_code_at
  have F_refuse_leaf : Fd K mg "refuse_leaf" s_refuse_leaf := fd_of X G c 13 35 rfl rfl
  have C_refuse_leaf := ok_refuse_leaf (P := P) (w := w) (base := base) T F_refuse_leaf C_is_code C_square_at
  have F_gather : Fd K mg "gather" s_gather := fd_of X G c 14 36 rfl rfl
  have C_gather := ok_gather (P := P) (w := w) (base := base) T F_gather 41
  have F_leaves : Fd K mg "leaves" s_leaves := fd_of X G c 15 37 rfl rfl
  have C_leaves := ok_leaves (P := P) (w := w) (base := base) T F_leaves C_gather
  have F_along : Fd K mg "along" s_along := fd_of X G c 16 38 rfl rfl
  have C_along := ok_along (P := P) (w := w) (base := base) T F_along 41
  have F_beyond : Fd K mg "beyond" s_beyond := fd_of X G c 17 39 rfl rfl
  have C_beyond := ok_beyond (P := P) (w := w) (base := base) T F_beyond C_refuse_leaf C_beside C_square_at C_along
  have F_about : Fd K mg "about" s_about := fd_of X G c 18 40 rfl rfl
  have C_about := ok_about (P := P) (w := w) (base := base) T F_about C_beyond
  have F_members_from : Fd K mg "members_from" s_members_from := fd_of X G c 19 41 rfl rfl
  have C_members_from := ok_members_from (P := P) (w := w) (base := base) T F_members_from C_about
  have F_land_at : Fd K mg "land_at" s_land_at := fd_of X G c 20 42 rfl rfl
  have C_land_at := ok_land_at (P := P) (w := w) (base := base) T F_land_at C_leaf_at C_leaves C_members_from
  have F_rim : Fd K mg "rim" s_rim := fd_of X G c 21 43 rfl rfl
  have C_rim := ok_rim (P := P) (w := w) (base := base) T F_rim C_land_at C_about C_common
  have F_by_rows : Fd K mg "by_rows" s_by_rows := fd_of X G c 22 44 rfl rfl
  have C_by_rows := ok_by_rows (P := P) (w := w) (base := base) T F_by_rows
  have F_first_of : Fd K mg "first_of" s_first_of := fd_of X G c 23 45 rfl rfl
  have C_first_of := ok_first_of (P := P) (w := w) (base := base) T F_first_of C_by_rows
  have F_free_parts : Fd K mg "free_parts" s_free_parts := fd_of X G c 24 46 rfl rfl
  have C_free_parts := ok_free_parts (P := P) (w := w) (base := base) T F_free_parts
  have F_taken_by : Fd K mg "taken_by" s_taken_by := fd_of X G c 25 47 rfl rfl
  have C_taken_by := ok_taken_by (P := P) (w := w) (base := base) T F_taken_by C_corner C_beyond
  have F_ways_of : Fd K mg "ways_of" s_ways_of := fd_of X G c 26 48 rfl rfl
  have C_ways_of := ok_ways_of (P := P) (w := w) (base := base) T F_ways_of C_corner C_free_parts C_taken_by
  have F_following : Fd K mg "following" s_following := fd_of X G c 27 49 rfl rfl
  have C_following := ok_following (P := P) (w := w) (base := base) T F_following
  have F_ring_from : Fd K mg "ring_from" s_ring_from := fd_of X G c 28 50 rfl rfl
  have C_ring_from := ok_ring_from (P := P) (w := w) (base := base) T F_ring_from C_following
  have F_corners_of : Fd K mg "corners_of" s_corners_of := fd_of X G c 29 51 rfl rfl
  have C_corners_of := ok_corners_of (P := P) (w := w) (base := base) T F_corners_of C_by_rows
  have F_rings : Fd K mg "rings" s_rings := fd_of X G c 30 52 rfl rfl
  have C_rings := ok_rings (P := P) (w := w) (base := base) T F_rings C_land_at C_ways_of C_ring_from C_corners_of C_first_of
  have F__law_at : Fd K mg "_law_at" s__law_at := fd_of X G c 31 53 rfl rfl
  have C__law_at := ok__law_at (P := P) (w := w) (base := base) T F__law_at
  have F__law_colour : Fd K mg "_law_colour" s__law_colour := fd_of X G c 32 54 rfl rfl
  have C__law_colour := ok__law_colour (P := P) (w := w) (base := base) T F__law_colour
  have F__law_code : Fd K mg "_law_code" s__law_code := fd_of X G c 33 55 rfl rfl
  have C__law_code := ok__law_code (P := P) (w := w) (base := base) T F__law_code
  have F__law_tree_of : Fd K mg "_law_tree_of" s__law_tree_of := fd_of X G c 34 56 rfl rfl
  have C__law_tree_of := ok__law_tree_of (P := P) (w := w) (base := base) T F__law_tree_of
  have F__law_tree_by : Fd K mg "_law_tree_by" s__law_tree_by := fd_of X G c 35 57 rfl rfl
  have C__law_tree_by := ok__law_tree_by (P := P) (w := w) (base := base) T F__law_tree_by C__law_tree_of 41
  have F__law_paints : Fd K mg "_law_paints" s__law_paints := fd_of X G c 36 58 rfl rfl
  have C__law_paints := ok__law_paints (P := P) (w := w) (base := base) T F__law_paints C__law_at C__law_colour C__law_code
  have F__law_met : Fd K mg "_law_met" s__law_met := fd_of X G c 37 59 rfl rfl
  have C__law_met := ok__law_met (P := P) (w := w) (base := base) T F__law_met
  have F__law_square : Fd K mg "_law_square" s__law_square := fd_of X G c 38 60 rfl rfl
  have C__law_square := ok__law_square (P := P) (w := w) (base := base) T F__law_square
  have F__law_rim : Fd K mg "_law_rim" s__law_rim := fd_of X G c 39 61 rfl rfl
  have C__law_rim := ok__law_rim (P := P) (w := w) (base := base) T F__law_rim C__law_met
  have F__law_leaves : Fd K mg "_law_leaves" s__law_leaves := fd_of X G c 40 62 rfl rfl
  have C__law_leaves := ok__law_leaves (P := P) (w := w) (base := base) T F__law_leaves 41
  have F__law_sums : Fd K mg "_law_sums" s__law_sums := fd_of X G c 41 63 rfl rfl
  have C__law_sums := ok__law_sums (P := P) (w := w) (base := base) T F__law_sums
  have F__law_land : Fd K mg "_law_land" s__law_land := fd_of X G c 42 64 rfl rfl
  have C__law_land := ok__law_land (P := P) (w := w) (base := base) T F__law_land C__law_square C__law_met
  have F__law_tree_of_rows : Fd K mg "_law_tree_of_rows" s__law_tree_of_rows := fd_of X G c 43 65 rfl rfl
  have C__law_tree_of_rows := ok__law_tree_of_rows (P := P) (w := w) (base := base) T F__law_tree_of_rows C__law_tree_of
  have F__law_grid : Fd K mg "_law_grid" s__law_grid := fd_of X G c 44 66 rfl rfl
  have C__law_grid := ok__law_grid (P := P) (w := w) (base := base) T F__law_grid C__law_at
  have F__law_sheet_by_digits : Fd K mg "_law_sheet_by_digits" s__law_sheet_by_digits := fd_of X G c 45 67 rfl rfl
  have C__law_sheet_by_digits := ok__law_sheet_by_digits (P := P) (w := w) (base := base) T F__law_sheet_by_digits C__law_tree_of_rows C__law_tree_by
  have F__law_sheet : Fd K mg "_law_sheet" s__law_sheet := fd_of X G c 46 68 rfl rfl
  have C__law_sheet := ok__law_sheet (P := P) (w := w) (base := base) T F__law_sheet C__law_at C__law_colour C__law_sheet_by_digits C__law_tree_of_rows C__law_grid C__law_paints C__law_tree_by
  have F__law_twice : Fd K mg "_law_twice" s__law_twice := fd_of X G c 47 69 rfl rfl
  have C__law_twice := ok__law_twice (P := P) (w := w) (base := base) T F__law_twice C_rim C_rings
  exact ok_law T F C__law_sheet C__law_leaves C__law_at C__law_square C__law_land C__law_rim C_rim C_rings C__law_sums C__law_twice
end
end QH
open PySem PySem.W PySem.Calls PyProof.Rows
theorem PySem.Challenge.cw_quartersheet_k66_whole_rings_area_and_ri_holds : PySem.Challenge.rw_quartersheet_k66_whole_rings_area_and_ri.Holds := by
  w_on; o_law
  refine HandSHeadRun.head_any (r := QH.R) (q := view QH.R.prog [67]) (H := QH.hk) (ob := QH.ob) (M := 3300) (loose := QH.loose) (d := HandSHeadRun.topDef QH.R.prog 67) (kwd := []) QH.ob_eq
    (by kernel_rfl) (fun s => by kernel_rfl) QH.run (by kernel_rfl) (by kernel_rfl) (by kernel_rfl) (by rfl) (by first | assumption | decide +kernel) (by decide +kernel) ⟨rfl, rfl, rfl, rfl, rfl, by decide +kernel⟩ ?hw ?hc
  case hw => w_witness2
  case hc =>
    refine L2.walk_ofE (l := PySem.Challenge.rw_quartersheet_k66_whole_rings_area_and_ri) (n := 63) (k := 48) (x := "_law_script") (CX := L2.CX0) rfl (by decide) (by kernel_rfl) ⟨rfl, by decide, by decide⟩ ?F (fun _ _ _ _ z => z)
    intro w mg fa h Y G hmg0
    obtain ⟨K, KX, c⟩ := Y
    have hmg : mg ("law" : PySem.Str) = some (.ref fa) := by
      have e : (HandSHeadRun.topDef QH.R.prog 67).name = ("law" : PySem.Str) := by kernel_rfl
      rw [← e]
      exact hmg0
    obtain ⟨fd, hb, hF⟩ := QH.facts (P := (PySem.Challenge.rw_quartersheet_k66_whole_rings_area_and_ri).prog) (w := w) KX G hmg c
    exact ⟨K, fd, QW.sp_law K, KX, hb, fun H a ns hl _ hS => ⟨a, ns, rfl, ⟨hS, hl⟩, fun v H' hd => hd.bl_eq⟩, fun base _ _ => hF base⟩
