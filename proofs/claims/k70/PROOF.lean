import PyProof.Rows.All
import Wide.All
import OpenK.AllK
import Wide.FinOn
import HandS.ForMost
import HandS.Codes
import HandS.Wide
import HandS.WideBits
import HandS.Style
import HandS.NoneIn
import HandS.More
import HandS.IsInst
import HandS.Gcd
import HandS.TupSets
import HandS.Deep
import HandS.Flow
import KE.KMathGC
import PyProof.EnumMake
import KE.GoesMore
import HandS.SortRule
import HandS.SortInts
import HandS.SetBool
import HandS.Ends
import HandS.HeadWalk
import PyProof.ReprRoads
import PySem.Challenge.RW_windfigure_k70_whole_bearings_that_catch
import HandS.Head0
import HandS.Head1
import HandS.Head2
import HandS.Head3
import HandS.HeadHook1
import HandS.HeadHook2
set_option Elab.async false
set_option linter.all false
set_option maxRecDepth 100000
set_option maxHeartbeats 0
/-! Plane geometry over whole numbers: sides of a convex polygon, the ray that hits it, the cone seen from outside. Core Lean alone. -/
namespace Wf
abbrev Pt := Int × Int
def cr (u v : Pt) : Int := u.1 * v.2 - u.2 * v.1
def dt (u v : Pt) : Int := u.1 * v.1 + u.2 * v.2
def sb (u v : Pt) : Pt := (u.1 - v.1, u.2 - v.2)
def bend (a b c : Pt) : Int := (b.1 - a.1) * (c.2 - a.2) - (b.2 - a.2) * (c.1 - a.1)

/-- a side by a normal and a point on its line; above 0: outside -/
abbrev Sd := Pt × Pt
def out (s : Sd) (b : Pt) : Int := dt s.1 (sb b s.2)

/-! ### signs of products -/
theorem mul_nn {a b : Int} (h : 0 ≤ a) (k : 0 ≤ b) : 0 ≤ a * b := Int.mul_nonneg h k
theorem mul_pp {a b : Int} (h : 0 < a) (k : 0 < b) : 0 < a * b := Int.mul_pos h k
theorem pos_of_mul {a b : Int} (h : 0 < a) (k : 0 < a * b) : 0 < b := by
  rcases Int.lt_trichotomy b 0 with q | q | q
  · have := Int.mul_neg_of_pos_of_neg h q
    omega
  · subst q
    simp at k
  · exact q
theorem nn_of_mul {a b : Int} (h : 0 < a) (k : 0 ≤ a * b) : 0 ≤ b := by
  rcases Int.lt_or_le b 0 with q | q
  · have := Int.mul_neg_of_pos_of_neg h q
    omega
  · exact q
theorem zero_of_mul {a b : Int} (h : 0 < a) (k : a * b = 0) : b = 0 := by
  rcases Int.mul_eq_zero.mp k with q | q
  · omega
  · exact q
theorem sq_pos {x y : Int} (h : ¬ (x = 0 ∧ y = 0)) : 0 < x * x + y * y := by
  have h1 : 0 ≤ x * x := by
    rcases Int.le_total 0 x with q | q
    · exact Int.mul_nonneg q q
    · exact Int.mul_nonneg_of_nonpos_of_nonpos q q
  have h2 : 0 ≤ y * y := by
    rcases Int.le_total 0 y with q | q
    · exact Int.mul_nonneg q q
    · exact Int.mul_nonneg_of_nonpos_of_nonpos q q
  rcases Int.lt_or_le 0 (x * x + y * y) with q | q
  · exact q
  · exfalso
    have e1 : x * x = 0 := by omega
    have e2 : y * y = 0 := by omega
    refine h ⟨?_, ?_⟩
    · rcases Int.mul_eq_zero.mp e1 with q | q <;> exact q
    · rcases Int.mul_eq_zero.mp e2 with q | q <;> exact q

/-! ### hits of a ray -/
/-- some corner, or some stretch between two, meets b + x d with x above 0 -/
def Hit (L : List Pt) (b d : Pt) : Prop :=
  (∃ p, p ∈ L ∧ cr d (sb p b) = 0 ∧ 0 < dt d (sb p b)) ∨
  ∃ p q, p ∈ L ∧ q ∈ L ∧ cr d (sb p b) < 0 ∧ 0 < cr d (sb q b) ∧ 0 < dt d (sb p b) * cr d (sb q b) - dt d (sb q b) * cr d (sb p b)
/-- all sides hold some b + x d with x above 0 -/
def Ray (S : List Sd) (b d : Pt) : Prop :=
  ∃ p q : Int, 0 < p ∧ 0 < q ∧ ∀ s, s ∈ S → p * dt s.1 d ≤ q * (- out s b)

structure Bounded (S : List Sd) : Prop where
  up : ∀ d : Pt, d ≠ (0, 0) → ∃ s, s ∈ S ∧ 0 < dt s.1 d

/-- the ray's last point is on some side's line -/
theorem ray_tight {S : List Sd} {b d : Pt} (hb : ∃ s, s ∈ S ∧ 0 < dt s.1 d) (h : Ray S b d) :
    ∃ p q : Int, 0 < p ∧ 0 < q ∧ (∀ s, s ∈ S → p * dt s.1 d ≤ q * (- out s b)) ∧ ∃ s, s ∈ S ∧ 0 < dt s.1 d ∧ p * dt s.1 d = q * (- out s b) := by
  obtain ⟨p, q, hp, hq, hr⟩ := h
  -- the least ratio among the sides with a gain
  have key : ∀ T : List Sd, (∀ s, s ∈ T → s ∈ S) → (∃ s, s ∈ T ∧ 0 < dt s.1 d) →
      ∃ t, t ∈ T ∧ 0 < dt t.1 d ∧ ∀ s, s ∈ T → 0 < dt s.1 d → (- out t b) * dt s.1 d ≤ (- out s b) * dt t.1 d := by
    intro T
    induction T with
    | nil => intro _ h; obtain ⟨s, hs, _⟩ := h; cases hs
    | cons x T ih =>
      intro hT hx
      by_cases h1 : ∃ s, s ∈ T ∧ 0 < dt s.1 d
      · obtain ⟨t, ht, hg, hm⟩ := ih (fun s hs => hT s (List.mem_cons_of_mem _ hs)) h1
        by_cases h2 : 0 < dt x.1 d ∧ (- out x b) * dt t.1 d < (- out t b) * dt x.1 d
        · refine ⟨x, List.mem_cons_self, h2.1, fun s hs hsg => ?_⟩
          rcases List.mem_cons.mp hs with e | hs
          · subst e; exact Int.le_refl _
          · have a1 := hm s hs hsg
            have a2 := h2.2
            have a3 : (- out x b) * dt t.1 d * dt s.1 d ≤ (- out t b) * dt x.1 d * dt s.1 d := Int.mul_le_mul_of_nonneg_right (Int.le_of_lt a2) (Int.le_of_lt hsg)
            have a4 : (- out t b) * dt s.1 d * dt x.1 d ≤ (- out s b) * dt t.1 d * dt x.1 d := Int.mul_le_mul_of_nonneg_right a1 (Int.le_of_lt h2.1)
            have a5 : 0 ≤ dt t.1 d * ((- out s b) * dt x.1 d - (- out x b) * dt s.1 d) := by grind
            have := nn_of_mul hg a5
            omega
        · refine ⟨t, List.mem_cons_of_mem _ ht, hg, fun s hs hsg => ?_⟩
          rcases List.mem_cons.mp hs with e | hs
          · subst e
            have : ¬ (- out s b) * dt t.1 d < (- out t b) * dt s.1 d := fun z => h2 ⟨hsg, z⟩
            omega
          · exact hm s hs hsg
      · obtain ⟨s, hs, hg⟩ := hx
        rcases List.mem_cons.mp hs with e | hs
        · subst e
          refine ⟨s, List.mem_cons_self, hg, fun u hu hug => ?_⟩
          rcases List.mem_cons.mp hu with e | hu
          · subst e; exact Int.le_refl _
          · exact absurd ⟨u, hu, hug⟩ h1
        · exact absurd ⟨s, hs, hg⟩ h1
  obtain ⟨t, ht, hg, hm⟩ := key S (fun _ h => h) hb
  have hroom : 0 < - out t b := by
    have h1 := hr t ht
    have h2 := mul_pp hp hg
    exact pos_of_mul hq (by omega)
  refine ⟨- out t b, dt t.1 d, hroom, hg, fun s hs => ?_, t, ht, hg, by rw [Int.mul_comm]⟩
  by_cases h1 : 0 < dt s.1 d
  · have := hm s hs h1
    rw [Int.mul_comm (dt t.1 d)]
    exact this
  · -- no gain: the room is at least p/q of it
    have h2 := hr s hs
    have h3 := hr t ht
    -- q * out_s ≤ - p * dt_s ; p * dt_t ≤ q * room_t ; dt_s ≤ 0
    have h4 : 0 ≤ q * (dt t.1 d * (- out s b) - (- out t b) * dt s.1 d) := by
      have a1 : p * dt t.1 d * (- dt s.1 d) ≤ q * (- out t b) * (- dt s.1 d) := Int.mul_le_mul_of_nonneg_right h3 (by omega)
      have a2 : dt t.1 d * (p * dt s.1 d) ≤ dt t.1 d * (q * (- out s b)) := Int.mul_le_mul_of_nonneg_left h2 (Int.le_of_lt hg)
      grind
    have := nn_of_mul hq h4
    omega

/-- a hit is in all sides -/
theorem ray_of_hit {S : List Sd} {L : List Pt} {b d : Pt} (hd : d ≠ (0, 0)) (hs : ∀ s, s ∈ S → ∀ p, p ∈ L → out s p ≤ 0) (h : Hit L b d) : Ray S b d := by
  obtain ⟨dx, dy⟩ := d
  obtain ⟨bx, by_⟩ := b
  have hsq : 0 < dx * dx + dy * dy := sq_pos fun z => hd (by rw [z.1, z.2])
  rcases h with ⟨⟨px, py⟩, hp, h1, h2⟩ | ⟨⟨px, py⟩, ⟨qx, qy⟩, hp, hq, h1, h2, h3⟩
  · refine ⟨dt (dx, dy) (sb (px, py) (bx, by_)), dx * dx + dy * dy, h2, hsq, fun s hss => ?_⟩
    have h3 := hs s hss _ hp
    obtain ⟨⟨nx, ny⟩, ⟨ax, ay⟩⟩ := s
    simp only [out, dt, cr, sb] at *
    have h4 := Int.mul_nonneg (Int.le_of_lt hsq) (show 0 ≤ -(nx * (px - ax) + ny * (py - ay)) by omega)
    have h5 : (dx * (px - bx) + dy * (py - by_)) * (nx * dx + ny * dy) = (dx * dx + dy * dy) * (nx * (px - bx) + ny * (py - by_)) := by grind
    grind
  · generalize hP : dt (dx, dy) (sb (px, py) (bx, by_)) = gp at *
    generalize hQ : dt (dx, dy) (sb (qx, qy) (bx, by_)) = gq at *
    generalize hfp : cr (dx, dy) (sb (px, py) (bx, by_)) = fp at *
    generalize hfq : cr (dx, dy) (sb (qx, qy) (bx, by_)) = fq at *
    refine ⟨gp * fq - gq * fp, (dx * dx + dy * dy) * (fq - fp), h3, mul_pp hsq (by omega), fun s hss => ?_⟩
    have h4 := hs s hss _ hp
    have h5 := hs s hss _ hq
    obtain ⟨⟨nx, ny⟩, ⟨ax, ay⟩⟩ := s
    simp only [out, dt, cr, sb] at *
    have k4 := Int.mul_nonneg (Int.mul_nonneg (Int.le_of_lt hsq) (Int.le_of_lt h2)) (show 0 ≤ -(nx * (px - ax) + ny * (py - ay)) by omega)
    have k5 := Int.mul_nonneg (Int.mul_nonneg (Int.le_of_lt hsq) (show 0 ≤ - fp by omega)) (show 0 ≤ -(nx * (qx - ax) + ny * (qy - ay)) by omega)
    subst hP hQ hfp hfq
    grind
end Wf

/-! The sides of a convex polygon (a point, a stretch, or an area), and that they tell it. -/
namespace Wf
def nx (n i : Nat) : Nat := if i + 1 < n then i + 1 else 0
def pv (n i : Nat) : Nat := if i = 0 then n - 1 else i - 1
theorem nx_lt {n i : Nat} (h : i < n) : nx n i < n := by unfold nx; split <;> omega
theorem pv_lt {n i : Nat} (h : i < n) : pv n i < n := by unfold pv; split <;> omega
theorem nx_pv {n i : Nat} (h : i < n) : nx n (pv n i) = i := by unfold nx pv; split <;> split <;> omega
theorem pv_nx {n i : Nat} (h : i < n) : pv n (nx n i) = i := by unfold nx pv; split <;> split <;> omega
def gt (L : List Pt) (i : Nat) : Pt := L.getD i (0, 0)
theorem gt_mem {L : List Pt} {i : Nat} (h : i < L.length) : gt L i ∈ L := by
  unfold gt
  rw [List.getD_eq_getElem?_getD, List.getElem?_eq_getElem h]
  exact List.getElem_mem h
theorem mem_gt {L : List Pt} {p : Pt} (h : p ∈ L) : ∃ i, i < L.length ∧ gt L i = p := by
  obtain ⟨i, hi, e⟩ := List.mem_iff_getElem.mp h
  refine ⟨i, hi, ?_⟩
  unfold gt
  rw [List.getD_eq_getElem?_getD, List.getElem?_eq_getElem hi]
  exact e

/-- the side to the left of the way from p to q -/
def left (p q : Pt) : Sd := ((q.2 - p.2, p.1 - q.1), p)
theorem out_left (p q c : Pt) : out (left p q) c = - bend p q c := by
  simp only [out, left, dt, sb, bend]
  grind
def sidesOf (L : List Pt) : List Sd :=
  if L.length = 1 then [((1, 0), gt L 0), ((0, 1), gt L 0), ((-1, 0), gt L 0), ((0, -1), gt L 0)]
  else if L.length = 2 then
    [(((gt L 1).2 - (gt L 0).2, (gt L 0).1 - (gt L 1).1), gt L 0), (((gt L 1).1 - (gt L 0).1, (gt L 1).2 - (gt L 0).2), gt L 1),
     (((gt L 0).2 - (gt L 1).2, (gt L 1).1 - (gt L 0).1), gt L 1), (((gt L 0).1 - (gt L 1).1, (gt L 0).2 - (gt L 1).2), gt L 0)]
  else (List.range L.length).map fun i => left (gt L i) (gt L (nx L.length i))

structure Cvx (L : List Pt) : Prop where
  ne : 1 ≤ L.length
  two : L.length = 2 → gt L 0 ≠ gt L 1
  turn : 3 ≤ L.length → ∀ i, i < L.length → 0 < bend (gt L i) (gt L (nx L.length i)) (gt L (nx L.length (nx L.length i)))
  all : 3 ≤ L.length → ∀ i, i < L.length → ∀ p, p ∈ L → 0 ≤ bend (gt L i) (gt L (nx L.length i)) p

theorem mem_sides3 {L : List Pt} (h : 3 ≤ L.length) {s : Sd} : s ∈ sidesOf L ↔ ∃ i, i < L.length ∧ s = left (gt L i) (gt L (nx L.length i)) := by
  unfold sidesOf
  rw [if_neg (by omega), if_neg (by omega), List.mem_map]
  constructor
  · rintro ⟨i, hi, e⟩
    exact ⟨i, List.mem_range.mp hi, e.symm⟩
  · rintro ⟨i, hi, e⟩
    exact ⟨i, List.mem_range.mpr hi, e.symm⟩
theorem len1 {L : List Pt} (h : L.length = 1) : ∃ a, L = [a] := by
  match L, h with
  | [a], _ => exact ⟨a, rfl⟩
theorem len2 {L : List Pt} (h : L.length = 2) : ∃ a b, L = [a, b] := by
  match L, h with
  | [a, b], _ => exact ⟨a, b, rfl⟩

/-- P1 -/
theorem sides_hold {L : List Pt} (C : Cvx L) : ∀ s, s ∈ sidesOf L → ∀ p, p ∈ L → out s p ≤ 0 := by
  intro s hs p hp
  by_cases h1 : L.length = 1
  · obtain ⟨⟨ax, ay⟩, rfl⟩ := len1 h1
    have : p = (ax, ay) := by simpa using hp
    subst this
    simp [sidesOf, gt] at hs
    rcases hs with rfl | rfl | rfl | rfl <;> simp [out, dt, sb]
  by_cases h2 : L.length = 2
  · obtain ⟨⟨ax, ay⟩, ⟨bx, by_⟩, rfl⟩ := len2 h2
    simp [sidesOf, gt] at hs
    have q1 : 0 ≤ (bx - ax) * (bx - ax) + (by_ - ay) * (by_ - ay) := by
      by_cases z : bx - ax = 0 ∧ by_ - ay = 0
      · rw [z.1, z.2]; decide
      · exact Int.le_of_lt (sq_pos z)
    have hp' : p = (ax, ay) ∨ p = (bx, by_) := by simpa using hp
    rcases hs with rfl | rfl | rfl | rfl <;> rcases hp' with rfl | rfl <;> simp only [out, dt, sb] <;> grind
  · have h3 : 3 ≤ L.length := by have := C.ne; omega
    obtain ⟨i, hi, rfl⟩ := (mem_sides3 h3).mp hs
    rw [out_left]
    have := C.all h3 i hi p hp
    omega

/-- the corner farthest along d -/
theorem far {L : List Pt} (d : Pt) (h : L ≠ []) : ∃ i, i < L.length ∧ ∀ p, p ∈ L → dt d p ≤ dt d (gt L i) := by
  have key : ∀ T : List Pt, T ≠ [] → ∃ t, t ∈ T ∧ ∀ p, p ∈ T → dt d p ≤ dt d t := by
    intro T
    induction T with
    | nil => intro h; exact absurd rfl h
    | cons x T ih =>
      intro _
      by_cases hT : T = []
      · subst hT
        refine ⟨x, List.mem_cons_self, fun p hp => ?_⟩
        have : p = x := by simpa using hp
        subst this; exact Int.le_refl _
      · obtain ⟨t, ht, hm⟩ := ih hT
        by_cases hx : dt d t < dt d x
        · refine ⟨x, List.mem_cons_self, fun p hp => ?_⟩
          rcases List.mem_cons.mp hp with e | hp
          · subst e; exact Int.le_refl _
          · have := hm p hp; omega
        · refine ⟨t, List.mem_cons_of_mem _ ht, fun p hp => ?_⟩
          rcases List.mem_cons.mp hp with e | hp
          · subst e; omega
          · exact hm p hp
  obtain ⟨t, ht, hm⟩ := key L h
  obtain ⟨i, hi, e⟩ := mem_gt ht
  exact ⟨i, hi, by rw [e]; exact hm⟩

/-- P2 -/
theorem sides_bound {L : List Pt} (C : Cvx L) {d : Pt} (hd : d ≠ (0, 0)) : ∃ s, s ∈ sidesOf L ∧ 0 < dt s.1 d := by
  obtain ⟨dx, dy⟩ := d
  have hne : ¬ (dx = 0 ∧ dy = 0) := fun z => hd (by rw [z.1, z.2])
  by_cases h1 : L.length = 1
  · unfold sidesOf
    rw [if_pos h1]
    rcases Int.lt_trichotomy dx 0 with q | q | q
    · exact ⟨((-1, 0), gt L 0), by simp, by simp [dt]; omega⟩
    · rcases Int.lt_trichotomy dy 0 with r | r | r
      · exact ⟨((0, -1), gt L 0), by simp, by simp [dt]; omega⟩
      · exact absurd ⟨q, r⟩ hne
      · exact ⟨((0, 1), gt L 0), by simp, by simp [dt]; omega⟩
    · exact ⟨((1, 0), gt L 0), by simp, by simp [dt]; omega⟩
  by_cases h2 : L.length = 2
  · have h3 := C.two h2
    unfold sidesOf
    rw [if_neg h1, if_pos h2]
    generalize gt L 0 = a at *
    generalize gt L 1 = b at *
    obtain ⟨ax, ay⟩ := a
    obtain ⟨bx, by_⟩ := b
    have he : ¬ (bx - ax = 0 ∧ by_ - ay = 0) := fun z => h3 (by
      have e1 : ax = bx := by omega
      have e2 : ay = by_ := by omega
      rw [e1, e2])
    rcases Int.lt_trichotomy ((by_ - ay) * dx + (ax - bx) * dy) 0 with q | q | q
    · exact ⟨((ay - by_, bx - ax), (bx, by_)), by simp, by simp only [dt]; grind⟩
    · rcases Int.lt_trichotomy ((bx - ax) * dx + (by_ - ay) * dy) 0 with r | r | r
      · exact ⟨((ax - bx, ay - by_), (ax, ay)), by simp, by simp only [dt]; grind⟩
      · exfalso
        have e1 := sq_pos he
        have e2 := sq_pos hne
        have e3 := mul_pp e1 e2
        have e4 : ((bx - ax) * (bx - ax) + (by_ - ay) * (by_ - ay)) * (dx * dx + dy * dy) = ((by_ - ay) * dx + (ax - bx) * dy) * ((by_ - ay) * dx + (ax - bx) * dy) + ((bx - ax) * dx + (by_ - ay) * dy) * ((bx - ax) * dx + (by_ - ay) * dy) := by
          clear e3 e2 e1 q r
          grind
        rw [q, r] at e4
        omega
      · exact ⟨((bx - ax, by_ - ay), (bx, by_)), by simp, by simp only [dt]; exact r⟩
    · exact ⟨((by_ - ay, ax - bx), (ax, ay)), by simp, by simp only [dt]; exact q⟩
  · have h3 : 3 ≤ L.length := by have := C.ne; omega
    obtain ⟨i, hi, hm⟩ := far (dx, dy) (show L ≠ [] from fun z => by rw [z] at h3; simp at h3)
    have hj := pv_lt hi
    have t := C.turn h3 _ hj
    rw [nx_pv hi] at t
    have m1 := hm _ (gt_mem hj)
    have m2 := hm _ (gt_mem (nx_lt hi))
    by_cases c1 : 0 < dt (left (gt L (pv L.length i)) (gt L i)).1 (dx, dy)
    · exact ⟨_, (mem_sides3 h3).mpr ⟨_, hj, by rw [nx_pv hi]⟩, c1⟩
    · refine ⟨_, (mem_sides3 h3).mpr ⟨i, hi, rfl⟩, ?_⟩
      generalize gt L (pv L.length i) = a at *
      generalize gt L i = b at *
      generalize gt L (nx L.length i) = c at *
      obtain ⟨ax, ay⟩ := a
      obtain ⟨bx, by_⟩ := b
      obtain ⟨cx, cy⟩ := c
      simp only [left, dt, bend] at *
      -- D1 = d.(b-a) >= 0, D2 = d.(c-b) <= 0, C1 <= 0
      have e := sq_pos hne
      have k := mul_pp e t
      rcases Int.lt_or_le 0 ((cy - by_) * dx + (bx - cx) * dy) with q | q
      · exact q
      · exfalso
        have a1 := Int.mul_nonneg (show 0 ≤ dx * bx + dy * by_ - (dx * ax + dy * ay) by omega) (show 0 ≤ - ((cy - by_) * dx + (bx - cx) * dy) by omega)
        have a2 := Int.mul_nonneg (show 0 ≤ -((by_ - ay) * dx + (ax - bx) * dy) by omega) (show 0 ≤ dx * bx + dy * by_ - (dx * cx + dy * cy) by omega)
        grind

/-- P3: the point at which the ray leaves is on a corner or between two -/
theorem hit_of_ray {L : List Pt} (C : Cvx L) {b d : Pt} (hd : d ≠ (0, 0)) (h : Ray (sidesOf L) b d) : Hit L b d := by
  obtain ⟨p, q, hp, hq, hr, s, hs, hg, he⟩ := ray_tight (sides_bound C hd) h
  obtain ⟨dx, dy⟩ := d
  obtain ⟨bx, by_⟩ := b
  have hsq : 0 < dx * dx + dy * dy := sq_pos fun z => hd (by rw [z.1, z.2])
  by_cases h1 : L.length = 1
  · obtain ⟨⟨ax, ay⟩, rfl⟩ := len1 h1
    have r1 := hr ((1, 0), (ax, ay)) (by simp [sidesOf, gt])
    have r2 := hr ((0, 1), (ax, ay)) (by simp [sidesOf, gt])
    have r3 := hr ((-1, 0), (ax, ay)) (by simp [sidesOf, gt])
    have r4 := hr ((0, -1), (ax, ay)) (by simp [sidesOf, gt])
    simp only [out, dt, sb] at r1 r2 r3 r4
    clear h hr hs he hg
    have k1 : p * (1 * dx + 0 * dy) = p * dx := by grind
    have k2 : p * (0 * dx + 1 * dy) = p * dy := by grind
    have k3 : p * (-1 * dx + 0 * dy) = - (p * dx) := by grind
    have k4 : p * (0 * dx + -1 * dy) = - (p * dy) := by grind
    have l1 : q * -(1 * (bx - ax) + 0 * (by_ - ay)) = q * (ax - bx) := by grind
    have l2 : q * -(0 * (bx - ax) + 1 * (by_ - ay)) = q * (ay - by_) := by grind
    have l3 : q * -(-1 * (bx - ax) + 0 * (by_ - ay)) = - (q * (ax - bx)) := by grind
    have l4 : q * -(0 * (bx - ax) + -1 * (by_ - ay)) = - (q * (ay - by_)) := by grind
    have e1 : p * dx = q * (ax - bx) := by omega
    have e2 : p * dy = q * (ay - by_) := by omega
    refine .inl ⟨(ax, ay), by simp, ?_, ?_⟩
    · refine zero_of_mul hq ?_
      simp only [cr, sb]
      have : q * (dx * (ay - by_) - dy * (ax - bx)) = dx * (p * dy) - dy * (p * dx) := by rw [e1, e2]; grind
      rw [this]; grind
    · refine pos_of_mul hq ?_
      simp only [dt, sb]
      have : q * (dx * (ax - bx) + dy * (ay - by_)) = p * (dx * dx + dy * dy) := by
        have : q * (dx * (ax - bx) + dy * (ay - by_)) = dx * (p * dx) + dy * (p * dy) := by rw [e1, e2]; grind
        rw [this]; grind
      rw [this]
      exact mul_pp hp hsq
  by_cases h2 : L.length = 2
  · have h3 := C.two h2
    obtain ⟨⟨ax, ay⟩, ⟨cx, cy⟩, rfl⟩ := len2 h2
    have r1 := hr ((cy - ay, ax - cx), (ax, ay)) (by simp [sidesOf, gt])
    have r2 := hr ((cx - ax, cy - ay), (cx, cy)) (by simp [sidesOf, gt])
    have r3 := hr ((ay - cy, cx - ax), (cx, cy)) (by simp [sidesOf, gt])
    have r4 := hr ((ax - cx, ay - cy), (ax, ay)) (by simp [sidesOf, gt])
    have hne : ¬ (cx - ax = 0 ∧ cy - ay = 0) := fun z => h3 (by
      have e1 : ax = cx := by omega
      have e2 : ay = cy := by omega
      simp [gt, e1, e2])
    have hee := sq_pos hne
    simp only [out, dt, sb] at r1 r2 r3 r4
    clear hr hs hg he h3 h1 h2 C h
    -- R = q b + p d; S = R - q a, T = R - q c, both along e
    obtain ⟨ex, hex⟩ : ∃ ex, cx = ax + ex := ⟨cx - ax, by omega⟩
    obtain ⟨ey, hey⟩ : ∃ ey, cy = ay + ey := ⟨cy - ay, by omega⟩
    subst hex hey
    have u1 : ax + ex - ax = ex := by omega
    have u2 : ay + ey - ay = ey := by omega
    have u3 : ax - (ax + ex) = - ex := by omega
    have u4 : ay - (ay + ey) = - ey := by omega
    simp only [u1, u2, u3, u4] at r1 r2 r3 r4 hne hee
    have i1 : ex * (q * by_ + p * dy - q * ay) - ey * (q * bx + p * dx - q * ax) = q * -(ey * (bx - ax) + -ex * (by_ - ay)) - p * (ey * dx + -ex * dy) := by clear r1 r2 r3 r4 hsq hee; grind
    have i3 : ey * (q * bx + p * dx - q * ax) - ex * (q * by_ + p * dy - q * ay) = q * -(-ey * (bx - (ax + ex)) + ex * (by_ - (ay + ey))) - p * (-ey * dx + ex * dy) := by clear r1 r2 r3 r4 hsq hee; grind
    have i4 : ex * (q * bx + p * dx - q * ax) + ey * (q * by_ + p * dy - q * ay) = q * -(-ex * (bx - ax) + -ey * (by_ - ay)) - p * (-ex * dx + -ey * dy) + 2 * (ex * (q * bx + p * dx - q * ax) + ey * (q * by_ + p * dy - q * ay)) - 2 * (ex * (q * bx + p * dx - q * ax) + ey * (q * by_ + p * dy - q * ay)) := by clear r1 r2 r3 r4 hsq hee; grind
    have i2 : -(ex * (q * bx + p * dx - q * (ax + ex)) + ey * (q * by_ + p * dy - q * (ay + ey))) = q * -(ex * (bx - (ax + ex)) + ey * (by_ - (ay + ey))) - p * (ex * dx + ey * dy) := by clear r1 r2 r3 r4 hsq hee; grind
    have eS : ex * (q * by_ + p * dy - q * ay) = ey * (q * bx + p * dx - q * ax) := by omega
    have nS : 0 ≤ ex * (q * bx + p * dx - q * ax) + ey * (q * by_ + p * dy - q * ay) := by omega
    have nT : 0 ≤ -(ex * (q * bx + p * dx - q * (ax + ex)) + ey * (q * by_ + p * dy - q * (ay + ey))) := by omega
    clear i1 i2 i3 i4 r1 r2 r3 r4
    generalize hsx : q * bx + p * dx - q * ax = sx at *
    generalize hsy : q * by_ + p * dy - q * ay = sy at *
    have htx : q * bx + p * dx - q * (ax + ex) = sx - q * ex := by grind
    have hty : q * by_ + p * dy - q * (ay + ey) = sy - q * ey := by grind
    rw [htx, hty] at nT
    -- q f_a = - cr d S; q f_c = - cr d T; q g_a = p |d|^2 - d.S
    have fa : q * (dx * (ay - by_) - dy * (ax - bx)) = -(dx * sy - dy * sx) := by grind
    generalize hcx : ax + ex = cx at *
    generalize hcy : ay + ey = cy at *
    have fc : q * (dx * (cy - by_) - dy * (cx - bx)) = -(dx * (sy - q * ey) - dy * (sx - q * ex)) := by grind
    have ga : q * (dx * (ax - bx) + dy * (ay - by_)) = p * (dx * dx + dy * dy) - (dx * sx + dy * sy) := by grind
    have gc : q * (dx * (cx - bx) + dy * (cy - by_)) = p * (dx * dx + dy * dy) - (dx * (sx - q * ex) + dy * (sy - q * ey)) := by grind
    have pd := mul_pp hp hsq
    -- e e S = (e.S) e
    have wS1 : (ex * ex + ey * ey) * sx = (ex * sx + ey * sy) * ex := by grind
    have wS2 : (ex * ex + ey * ey) * sy = (ex * sx + ey * sy) * ey := by grind
    generalize hm : ex * sx + ey * sy = m at *
    have hm2 : 0 ≤ q * (ex * ex + ey * ey) - m := by grind
    generalize hE : ex * ex + ey * ey = E at *
    -- E q f_a = - m c, E q f_c = (q E - m) c, c = cr d e
    have fa2 : E * (q * (dx * (ay - by_) - dy * (ax - bx))) = - (m * (dx * ey - dy * ex)) := by grind
    have fc2 : E * (q * (dx * (cy - by_) - dy * (cx - bx))) = (q * E - m) * (dx * ey - dy * ex) := by grind
    have ga2 : E * (q * (dx * (ax - bx) + dy * (ay - by_))) = E * (p * (dx * dx + dy * dy)) - m * (dx * ex + dy * ey) := by grind
    have gc2 : E * (q * (dx * (cx - bx) + dy * (cy - by_))) = E * (p * (dx * dx + dy * dy)) + (q * E - m) * (dx * ex + dy * ey) := by grind
    have hEq := mul_pp hee hq
    have one : ∀ x : Int, E * (q * x) = (E * q) * x := fun x => by grind
    rw [one] at fa2 fc2 ga2 gc2
    have epd := mul_pp hee pd
    clear fa fc ga gc eS htx hty hsx hsy wS1 wS2
    generalize hfa : dx * (ay - by_) - dy * (ax - bx) = f1 at *
    generalize hfc : dx * (cy - by_) - dy * (cx - bx) = f2 at *
    generalize hga : dx * (ax - bx) + dy * (ay - by_) = g1 at *
    generalize hgc : dx * (cx - bx) + dy * (cy - by_) = g2 at *
    have va : f1 = 0 → 0 < g1 → Hit [(ax, ay), (cx, cy)] (bx, by_) (dx, dy) := fun u v => .inl ⟨(ax, ay), by simp, by simp only [cr, sb]; omega, by simp only [dt, sb]; omega⟩
    have vc : f2 = 0 → 0 < g2 → Hit [(ax, ay), (cx, cy)] (bx, by_) (dx, dy) := fun u v => .inl ⟨(cx, cy), by simp, by simp only [cr, sb]; omega, by simp only [dt, sb]; omega⟩
    generalize hc : dx * ey - dy * ex = c at *
    generalize hk : dx * ex + dy * ey = k at *
    rcases Int.lt_trichotomy c 0 with c0 | c0 | c0
    · -- f1 >= 0 >= f2
      by_cases m0 : m = 0
      · refine va (zero_of_mul hEq (by rw [fa2, m0]; simp)) (pos_of_mul hEq (by rw [ga2, m0]; omega))
      by_cases m1 : q * E - m = 0
      · refine vc (zero_of_mul hEq (by rw [fc2, m1]; simp)) (pos_of_mul hEq (by rw [gc2, m1]; omega))
      have x1 : 0 < f1 := pos_of_mul hEq (by rw [fa2]; have := mul_pp (show 0 < m by omega) (show 0 < - c by omega); grind)
      have x2 : 0 < - f2 := pos_of_mul hEq (by have := mul_pp (show 0 < q * E - m by omega) (show 0 < - c by omega); grind)
      refine .inr ⟨(cx, cy), (ax, ay), by simp, by simp, by simp only [cr, sb]; omega, by simp only [cr, sb]; omega, ?_⟩
      simp only [cr, dt, sb]
      rw [hfa, hfc, hga, hgc]
      refine pos_of_mul (mul_pp hEq hEq) ?_
      have : E * q * (E * q) * (g2 * f1 - g1 * f2) = (E * q * g2) * (E * q * f1) - (E * q * g1) * (E * q * f2) := by grind
      rw [this, fa2, fc2, ga2, gc2]
      have : (E * (p * (dx * dx + dy * dy)) + (q * E - m) * k) * -(m * c) - (E * (p * (dx * dx + dy * dy)) - m * k) * ((q * E - m) * c) = (E * (p * (dx * dx + dy * dy))) * ((E * q) * (- c)) := by grind
      rw [this]
      exact mul_pp epd (mul_pp hEq (by omega))
    · have z1 : f1 = 0 := zero_of_mul hEq (by rw [fa2, c0]; simp)
      have z2 : f2 = 0 := zero_of_mul hEq (by rw [fc2, c0]; simp)
      rcases Int.lt_or_le k 0 with k0 | k0
      · refine va z1 (pos_of_mul hEq ?_)
        rw [ga2]
        have := Int.mul_nonneg nS (show 0 ≤ - k by omega)
        grind
      · refine vc z2 (pos_of_mul hEq ?_)
        rw [gc2]
        have := Int.mul_nonneg hm2 k0
        grind
    · by_cases m0 : m = 0
      · refine va (zero_of_mul hEq (by rw [fa2, m0]; simp)) (pos_of_mul hEq (by rw [ga2, m0]; omega))
      by_cases m1 : q * E - m = 0
      · refine vc (zero_of_mul hEq (by rw [fc2, m1]; simp)) (pos_of_mul hEq (by rw [gc2, m1]; omega))
      have x1 : 0 < - f1 := pos_of_mul hEq (by have := mul_pp (show 0 < m by omega) c0; grind)
      have x2 : 0 < f2 := pos_of_mul hEq (by rw [fc2]; exact mul_pp (show 0 < q * E - m by omega) c0)
      refine .inr ⟨(ax, ay), (cx, cy), by simp, by simp, by simp only [cr, sb]; omega, by simp only [cr, sb]; omega, ?_⟩
      simp only [cr, dt, sb]
      rw [hfa, hfc, hga, hgc]
      refine pos_of_mul (mul_pp hEq hEq) ?_
      have : E * q * (E * q) * (g1 * f2 - g2 * f1) = (E * q * g1) * (E * q * f2) - (E * q * g2) * (E * q * f1) := by grind
      rw [this, fa2, fc2, ga2, gc2]
      have : (E * (p * (dx * dx + dy * dy)) - m * k) * ((q * E - m) * c) - (E * (p * (dx * dx + dy * dy)) + (q * E - m) * k) * -(m * c) = (E * (p * (dx * dx + dy * dy))) * ((E * q) * c) := by grind
      rw [this]
      exact mul_pp epd (mul_pp hEq c0)
  · have h3 : 3 ≤ L.length := by have := C.ne; omega
    obtain ⟨i, hi, rfl⟩ := (mem_sides3 h3).mp hs
    have hj := pv_lt hi
    have hn := nx_lt hi
    have t1 := C.turn h3 _ hj
    rw [nx_pv hi] at t1
    have t2 := C.turn h3 _ hi
    have r1 := hr _ ((mem_sides3 h3).mpr ⟨_, hj, rfl⟩)
    rw [nx_pv hi] at r1
    have r2 := hr _ ((mem_sides3 h3).mpr ⟨_, hn, rfl⟩)
    have ma := gt_mem hi
    have mc := gt_mem hn
    generalize gt L (pv L.length i) = o at *
    generalize gt L (nx L.length (nx L.length i)) = z at *
    generalize gt L (nx L.length i) = c at *
    generalize gt L i = a at *
    obtain ⟨ox, oy⟩ := o
    obtain ⟨ax, ay⟩ := a
    obtain ⟨cx, cy⟩ := c
    obtain ⟨zx, zy⟩ := z
    clear hr hs
    simp only [left, out, dt, sb, bend] at *
    clear h C h1 h2 h3 hi hj hn
    have i1 : (cx - ax) * (q * by_ + p * dy - q * ay) - (cy - ay) * (q * bx + p * dx - q * ax) = q * -((cy - ay) * (bx - ax) + (ax - cx) * (by_ - ay)) - p * ((cy - ay) * dx + (ax - cx) * dy) := by
      clear r1 r2 t1 t2 he hg hsq; grind
    have i2 : (ax - ox) * (q * by_ + p * dy - q * ay) - (ay - oy) * (q * bx + p * dx - q * ax) = q * -((ay - oy) * (bx - ox) + (ox - ax) * (by_ - oy)) - p * ((ay - oy) * dx + (ox - ax) * dy) := by
      clear r1 r2 t1 t2 he hg hsq i1; grind
    have i3 : (zx - cx) * (q * by_ + p * dy - q * cy) - (zy - cy) * (q * bx + p * dx - q * cx) = q * -((zy - cy) * (bx - cx) + (cx - zx) * (by_ - cy)) - p * ((zy - cy) * dx + (cx - zx) * dy) := by
      clear r1 r2 t1 t2 he hg hsq i1 i2; grind
    have i4 : (ax - ox) * (cy - oy) - (ay - oy) * (cx - ox) = (ax - ox) * (cy - ay) - (ay - oy) * (cx - ax) := by
      clear r1 r2 t1 t2 he hg hsq i1 i2 i3; grind
    have i5 : (cx - ax) * (zy - ay) - (cy - ay) * (zx - ax) = (cx - ax) * (zy - cy) - (cy - ay) * (zx - cx) := by
      clear r1 r2 t1 t2 he hg hsq i1 i2 i3 i4; grind
    have i6 : (cy - ay) * dx + (ax - cx) * dy = dx * (cy - ay) - dy * (cx - ax) := by
      clear r1 r2 t1 t2 he hg hsq i1 i2 i3 i4 i5; grind
    have eS : (cx - ax) * (q * by_ + p * dy - q * ay) - (cy - ay) * (q * bx + p * dx - q * ax) = 0 := by omega
    have oS : 0 ≤ (ax - ox) * (q * by_ + p * dy - q * ay) - (ay - oy) * (q * bx + p * dx - q * ax) := by omega
    have zT : 0 ≤ (zx - cx) * (q * by_ + p * dy - q * cy) - (zy - cy) * (q * bx + p * dx - q * cx) := by omega
    have oe : 0 < (ax - ox) * (cy - ay) - (ay - oy) * (cx - ax) := by omega
    have ez : 0 < (cx - ax) * (zy - cy) - (cy - ay) * (zx - cx) := by omega
    have hg' : 0 < dx * (cy - ay) - dy * (cx - ax) := by omega
    clear r1 r2 t1 t2 he hg i1 i2 i3 i4 i5 i6
    have j1 : q * by_ + p * dy - q * cy = q * by_ + p * dy - q * ay - q * (cy - ay) := by clear eS oS zT oe ez hg' hsq; grind
    have j2 : q * bx + p * dx - q * cx = q * bx + p * dx - q * ax - q * (cx - ax) := by clear eS oS zT oe ez hg' hsq; grind
    rw [j1, j2] at zT
    clear j1 j2
    generalize hex : cx - ax = ex at *
    generalize hey : cy - ay = ey at *
    generalize hsx : q * bx + p * dx - q * ax = sx at *
    generalize hsy : q * by_ + p * dy - q * ay = sy at *
    -- cr d S >= 0, cr d T <= 0
    have dS : 0 ≤ dx * sy - dy * sx := by
      refine nn_of_mul oe ?_
      have := Int.mul_nonneg oS (Int.le_of_lt hg')
      have : ((ax - ox) * ey - (ay - oy) * ex) * (dx * sy - dy * sx) = ((ax - ox) * sy - (ay - oy) * sx) * (dx * ey - dy * ex) := by grind
      omega
    have dT : 0 ≤ -(dx * (sy - q * ey) - dy * (sx - q * ex)) := by
      refine nn_of_mul ez ?_
      have := Int.mul_nonneg zT (Int.le_of_lt hg')
      have : (ex * (zy - cy) - ey * (zx - cx)) * (-(dx * (sy - q * ey) - dy * (sx - q * ex))) = ((zx - cx) * (sy - q * ey) - (zy - cy) * (sx - q * ex)) * (dx * ey - dy * ex) := by grind
      omega
    have pd := mul_pp hp hsq
    have fa : q * (dx * (ay - by_) - dy * (ax - bx)) = -(dx * sy - dy * sx) := by grind
    have fc : q * (dx * (cy - by_) - dy * (cx - bx)) = -(dx * (sy - q * ey) - dy * (sx - q * ex)) := by grind
    have ga : q * (dx * (ax - bx) + dy * (ay - by_)) = p * (dx * dx + dy * dy) - (dx * sx + dy * sy) := by grind
    have gc : q * (dx * (cx - bx) + dy * (cy - by_)) = p * (dx * dx + dy * dy) - (dx * (sx - q * ex) + dy * (sy - q * ey)) := by grind
    -- when cr d S = 0, S = 0 (as cr e S = 0 and cr d e > 0)
    by_cases z0 : dx * sy - dy * sx = 0
    · have s1 : sx = 0 := by
        refine zero_of_mul hg' ?_
        grind
      have s2 : sy = 0 := by
        refine zero_of_mul hg' ?_
        grind
      refine .inl ⟨(ax, ay), ma, ?_, ?_⟩
      · exact zero_of_mul hq (by show q * (dx * (ay - by_) - dy * (ax - bx)) = 0; rw [fa, z0]; rfl)
      · exact pos_of_mul hq (by show 0 < q * (dx * (ax - bx) + dy * (ay - by_)); rw [ga, s1, s2]; omega)
    by_cases z1 : dx * (sy - q * ey) - dy * (sx - q * ex) = 0
    · have s1 : sx - q * ex = 0 := by
        refine zero_of_mul hg' ?_
        grind
      have s2 : sy - q * ey = 0 := by
        refine zero_of_mul hg' ?_
        grind
      refine .inl ⟨(cx, cy), mc, ?_, ?_⟩
      · exact zero_of_mul hq (by show q * (dx * (cy - by_) - dy * (cx - bx)) = 0; rw [fc, z1]; rfl)
      · exact pos_of_mul hq (by show 0 < q * (dx * (cx - bx) + dy * (cy - by_)); rw [gc, s1, s2]; omega)
    have x1 : 0 < - (dx * (ay - by_) - dy * (ax - bx)) := pos_of_mul hq (by rw [Int.mul_neg]; omega)
    have x2 : 0 < dx * (cy - by_) - dy * (cx - bx) := pos_of_mul hq (by rw [fc]; omega)
    refine .inr ⟨(ax, ay), (cx, cy), ma, mc, by simp only [cr, sb]; omega, by simp only [cr, sb]; omega, ?_⟩
    simp only [cr, dt, sb]
    generalize hfa : dx * (ay - by_) - dy * (ax - bx) = f1 at *
    generalize hfc : dx * (cy - by_) - dy * (cx - bx) = f2 at *
    generalize hga : dx * (ax - bx) + dy * (ay - by_) = g1 at *
    generalize hgc : dx * (cx - bx) + dy * (cy - by_) = g2 at *
    refine pos_of_mul (mul_pp hq hq) ?_
    have : q * q * (g1 * f2 - g2 * f1) = (q * g1) * (q * f2) - (q * g2) * (q * f1) := by grind
    rw [this, fa, fc, ga, gc]
    -- = p |d|^2 q c
    have : (p * (dx * dx + dy * dy) - (dx * sx + dy * sy)) * -(dx * (sy - q * ey) - dy * (sx - q * ex)) - (p * (dx * dx + dy * dy) - (dx * (sx - q * ex) + dy * (sy - q * ey))) * -(dx * sy - dy * sx) = (p * (dx * dx + dy * dy)) * (q * (dx * ey - dy * ex)) + q * (dx * dx + dy * dy) * (ex * sy - ey * sx) := by
      clear this eS oS zT oe ez hg' hsq dS dT pd fa fc ga gc z0 z1 x1 x2 hfa hfc hga hgc hsx hsy hex hey
      grind
    rw [this, eS]
    have := mul_pp pd (mul_pp hq hg')
    omega

/-- T1 -/
theorem ray_iff {L : List Pt} (C : Cvx L) {b d : Pt} (hd : d ≠ (0, 0)) : Ray (sidesOf L) b d ↔ Hit L b d :=
  ⟨hit_of_ray C hd, ray_of_hit hd (sides_hold C)⟩
end Wf

/-! The cone of bearings: from a place on the rim, from a place outside. -/
namespace Wf
/-- T2: a place that all sides hold -/
theorem ray_held {S : List Sd} {b d : Pt} (h : ∀ s, s ∈ S → out s b ≤ 0) : Ray S b d ↔ ∀ s, s ∈ S → out s b = 0 → dt s.1 d ≤ 0 := by
  constructor
  · rintro ⟨p, q, hp, hq, hr⟩ s hs e
    have h1 := hr s hs
    rw [e] at h1
    rcases Int.lt_or_le 0 (dt s.1 d) with z | z
    · have := mul_pp hp z
      simp at h1
      omega
    · exact z
  · intro ht
    -- q above all gains
    have key : ∀ T : List Sd, ∃ q : Int, 0 < q ∧ ∀ s, s ∈ T → dt s.1 d ≤ q := by
      intro T
      induction T with
      | nil => exact ⟨1, by decide, fun _ h => nomatch h⟩
      | cons x T ih =>
        obtain ⟨q, h1, h2⟩ := ih
        by_cases hx : dt x.1 d ≤ q
        · refine ⟨q, h1, fun s hs => ?_⟩
          rcases List.mem_cons.mp hs with e | hs
          · subst e; exact hx
          · exact h2 s hs
        · refine ⟨dt x.1 d, by omega, fun s hs => ?_⟩
          rcases List.mem_cons.mp hs with e | hs
          · subst e; exact Int.le_refl _
          · have := h2 s hs; omega
    obtain ⟨q, hq, hm⟩ := key S
    refine ⟨1, q, by decide, hq, fun s hs => ?_⟩
    by_cases e : out s b = 0
    · rw [e]
      have := ht s hs e
      simp
      exact this
    · have h1 : 1 ≤ - out s b := by have := h s hs; omega
      have h2 : q * 1 ≤ q * (- out s b) := Int.mul_le_mul_of_nonneg_left h1 (Int.le_of_lt hq)
      have h3 := hm s hs
      omega

/-! ### steps from a place -/
/-- some step, or something between two, along d -/
def HitS (T : List Pt) (d : Pt) : Prop :=
  (∃ t, t ∈ T ∧ cr d t = 0 ∧ 0 < dt d t) ∨
  ∃ t u, t ∈ T ∧ u ∈ T ∧ cr d t < 0 ∧ 0 < cr d u ∧ 0 < dt d t * cr d u - dt d u * cr d t
theorem hit_steps {L : List Pt} {b d : Pt} : Hit L b d ↔ HitS (L.map (sb · b)) d := by
  constructor
  · rintro (⟨p, hp, h1, h2⟩ | ⟨p, q, hp, hq, h1, h2, h3⟩)
    · exact .inl ⟨sb p b, List.mem_map_of_mem hp, h1, h2⟩
    · exact .inr ⟨sb p b, sb q b, List.mem_map_of_mem hp, List.mem_map_of_mem hq, h1, h2, h3⟩
  · rintro (⟨t, ht, h1, h2⟩ | ⟨t, u, ht, hu, h1, h2, h3⟩)
    · obtain ⟨p, hp, rfl⟩ := List.mem_map.mp ht
      exact .inl ⟨p, hp, h1, h2⟩
    · obtain ⟨p, hp, rfl⟩ := List.mem_map.mp ht
      obtain ⟨q, hq, rfl⟩ := List.mem_map.mp hu
      exact .inr ⟨p, q, hp, hq, h1, h2, h3⟩
/-- the same way, in another measure -/
def Par (u v : Pt) : Prop := ∃ l m : Int, 0 < l ∧ 0 < m ∧ l * u.1 = m * v.1 ∧ l * u.2 = m * v.2
theorem Par.refl (u : Pt) : Par u u := ⟨1, 1, by decide, by decide, rfl, rfl⟩
theorem Par.symm {u v : Pt} (h : Par u v) : Par v u := let ⟨l, m, a, b, c, d⟩ := h; ⟨m, l, b, a, c.symm, d.symm⟩
theorem Par.trans {u v w : Pt} (h : Par u v) (k : Par v w) : Par u w := by
  obtain ⟨l, m, a, b, c, d⟩ := h
  obtain ⟨l', m', a', b', c', d'⟩ := k
  refine ⟨l * l', m * m', mul_pp a a', mul_pp b b', ?_, ?_⟩
  · have : l * l' * u.1 = l' * (l * u.1) := by grind
    rw [this, c]
    have : l' * (m * v.1) = m * (l' * v.1) := by grind
    rw [this, c']
    grind
  · have : l * l' * u.2 = l' * (l * u.2) := by grind
    rw [this, d]
    have : l' * (m * v.2) = m * (l' * v.2) := by grind
    rw [this, d']
    grind
theorem Par.cr {u v d : Pt} (h : Par u v) : ∃ l m : Int, 0 < l ∧ 0 < m ∧ l * cr d u = m * cr d v ∧ l * dt d u = m * dt d v := by
  obtain ⟨l, m, a, b, c, e⟩ := h
  refine ⟨l, m, a, b, ?_, ?_⟩
  · have h1 : l * Wf.cr d u = d.1 * (l * u.2) - d.2 * (l * u.1) := by simp only [Wf.cr]; grind
    rw [h1, c, e]
    simp only [Wf.cr]
    grind
  · have h1 : l * dt d u = d.1 * (l * u.1) + d.2 * (l * u.2) := by simp only [dt]; grind
    rw [h1, c, e]
    simp only [dt]
    grind
theorem sgn_of {l m x y : Int} (hl : 0 < l) (hm : 0 < m) (h : l * x = m * y) : (0 < x → 0 < y) ∧ (x < 0 → y < 0) ∧ (x = 0 → y = 0) := by
  refine ⟨fun k => pos_of_mul hm (by rw [← h]; exact mul_pp hl k), fun k => ?_, fun k => zero_of_mul hm (by rw [← h, k]; simp)⟩
  have : 0 < - y := pos_of_mul hm (by rw [Int.mul_neg, ← h]; have := Int.mul_neg_of_pos_of_neg hl k; omega)
  omega
theorem hitS_par {T T' : List Pt} {d : Pt} (hp : ∀ t, t ∈ T → ∃ t', t' ∈ T' ∧ Par t t') (h : HitS T d) : HitS T' d := by
  rcases h with ⟨t, ht, h1, h2⟩ | ⟨t, u, ht, hu, h1, h2, h3⟩
  · obtain ⟨t', ht', pr⟩ := hp t ht
    obtain ⟨l, m, a, b, e1, e2⟩ := pr.cr (d := d)
    exact .inl ⟨t', ht', (sgn_of a b e1).2.2 h1, (sgn_of a b e2).1 h2⟩
  · obtain ⟨t', ht', pr⟩ := hp t ht
    obtain ⟨u', hu', pr'⟩ := hp u hu
    obtain ⟨l, m, a, b, e1, e2⟩ := pr.cr (d := d)
    obtain ⟨l', m', a', b', e1', e2'⟩ := pr'.cr (d := d)
    refine .inr ⟨t', u', ht', hu', (sgn_of a b e1).2.1 h1, (sgn_of a' b' e1').1 h2, ?_⟩
    have : (l * l') * (dt d t * cr d u - dt d u * cr d t) = (m * m') * (dt d t' * cr d u' - dt d u' * cr d t') := by
      have q1 : (l * l') * (dt d t * cr d u - dt d u * cr d t) = (l * dt d t) * (l' * cr d u) - (l' * dt d u) * (l * cr d t) := by grind
      rw [q1, e1, e2, e1', e2']
      grind
    exact (sgn_of (mul_pp a a') (mul_pp b b') this).1 h3

/-! ### the first and the last step that is seen -/
def fstOf (x : Pt) (T : List Pt) : Pt := T.foldl (fun f s => if cr f s < 0 then s else f) x
def lstOf (x : Pt) (T : List Pt) : Pt := T.foldl (fun f s => if 0 < cr f s then s else f) x
/-- three steps in an open half plane -/
theorem turn3 {n x y z : Pt} (hx : dt n x < 0) (hy : dt n y < 0) (hz : dt n z < 0) (h1 : 0 ≤ cr x y) (h2 : 0 ≤ cr y z) : 0 ≤ cr x z := by
  have e : cr x z * dt n y = cr x y * dt n z + cr y z * dt n x := by simp only [cr, dt]; grind
  have a := Int.mul_nonneg h1 (show 0 ≤ - dt n z by omega)
  have b := Int.mul_nonneg h2 (show 0 ≤ - dt n x by omega)
  refine nn_of_mul (a := - dt n y) (by omega) ?_
  have : - dt n y * cr x z = - (cr x z * dt n y) := by grind
  rw [this, e]
  have : -(cr x y * dt n z + cr y z * dt n x) = cr x y * - dt n z + cr y z * - dt n x := by grind
  omega
theorem cr_swap (u v : Pt) : cr u v = - cr v u := by simp only [cr]; grind
theorem cr_self (u : Pt) : cr u u = 0 := by simp only [cr]; grind
theorem fst_ok {n : Pt} : ∀ (T : List Pt) (x : Pt) (D : List Pt), dt n x < 0 → (∀ t, t ∈ T → dt n t < 0) → (∀ t, t ∈ D → dt n t < 0 ∧ 0 ≤ cr x t) →
    (fstOf x T = x ∨ fstOf x T ∈ T) ∧ ∀ t, (t = x ∨ t ∈ T ∨ t ∈ D) → 0 ≤ cr (fstOf x T) t
  | [], x, D, hx, _, hD => ⟨.inl rfl, fun t ht => by
    show 0 ≤ cr x t
    rcases ht with rfl | ht | ht
    · rw [cr_self]; exact Int.le_refl _
    · cases ht
    · exact (hD t ht).2⟩
  | s :: T, x, D, hx, hT, hD => by
    have hs := hT s List.mem_cons_self
    have hT' := fun t ht => hT t (List.mem_cons_of_mem _ ht)
    show (fstOf (if cr x s < 0 then s else x) T = x ∨ fstOf (if cr x s < 0 then s else x) T ∈ s :: T) ∧ ∀ t, (t = x ∨ t ∈ s :: T ∨ t ∈ D) → 0 ≤ cr (fstOf (if cr x s < 0 then s else x) T) t
    by_cases h : cr x s < 0
    · rw [if_pos h]
      have sx : 0 ≤ cr s x := by rw [cr_swap]; omega
      obtain ⟨a, b⟩ := fst_ok T s (x :: D) hs hT' fun t ht => by
        rcases List.mem_cons.mp ht with rfl | ht
        · exact ⟨hx, sx⟩
        · exact ⟨(hD t ht).1, turn3 hs hx (hD t ht).1 sx (hD t ht).2⟩
      refine ⟨.inr ?_, fun t ht => b t ?_⟩
      · rcases a with a | a
        · rw [a]; exact List.mem_cons_self
        · exact List.mem_cons_of_mem _ a
      · rcases ht with rfl | ht | ht
        · exact .inr (.inr List.mem_cons_self)
        · rcases List.mem_cons.mp ht with rfl | ht
          · exact .inl rfl
          · exact .inr (.inl ht)
        · exact .inr (.inr (List.mem_cons_of_mem _ ht))
    · rw [if_neg h]
      obtain ⟨a, b⟩ := fst_ok T x (s :: D) hx hT' fun t ht => by
        rcases List.mem_cons.mp ht with rfl | ht
        · exact ⟨hs, by omega⟩
        · exact hD t ht
      refine ⟨?_, fun t ht => b t ?_⟩
      · rcases a with a | a
        · exact .inl a
        · exact .inr (List.mem_cons_of_mem _ a)
      · rcases ht with rfl | ht | ht
        · exact .inl rfl
        · rcases List.mem_cons.mp ht with rfl | ht
          · exact .inr (.inr List.mem_cons_self)
          · exact .inr (.inl ht)
        · exact .inr (.inr (List.mem_cons_of_mem _ ht))
theorem lst_ok {n : Pt} : ∀ (T : List Pt) (x : Pt) (D : List Pt), dt n x < 0 → (∀ t, t ∈ T → dt n t < 0) → (∀ t, t ∈ D → dt n t < 0 ∧ 0 ≤ cr t x) →
    (lstOf x T = x ∨ lstOf x T ∈ T) ∧ ∀ t, (t = x ∨ t ∈ T ∨ t ∈ D) → 0 ≤ cr t (lstOf x T)
  | [], x, D, hx, _, hD => ⟨.inl rfl, fun t ht => by
    show 0 ≤ cr t x
    rcases ht with rfl | ht | ht
    · rw [cr_self]; exact Int.le_refl _
    · cases ht
    · exact (hD t ht).2⟩
  | s :: T, x, D, hx, hT, hD => by
    have hs := hT s List.mem_cons_self
    have hT' := fun t ht => hT t (List.mem_cons_of_mem _ ht)
    show (lstOf (if 0 < cr x s then s else x) T = x ∨ lstOf (if 0 < cr x s then s else x) T ∈ s :: T) ∧ ∀ t, (t = x ∨ t ∈ s :: T ∨ t ∈ D) → 0 ≤ cr t (lstOf (if 0 < cr x s then s else x) T)
    by_cases h : 0 < cr x s
    · rw [if_pos h]
      obtain ⟨a, b⟩ := lst_ok T s (x :: D) hs hT' fun t ht => by
        rcases List.mem_cons.mp ht with rfl | ht
        · exact ⟨hx, Int.le_of_lt h⟩
        · exact ⟨(hD t ht).1, turn3 (hD t ht).1 hx hs (hD t ht).2 (Int.le_of_lt h)⟩
      refine ⟨.inr ?_, fun t ht => b t ?_⟩
      · rcases a with a | a
        · rw [a]; exact List.mem_cons_self
        · exact List.mem_cons_of_mem _ a
      · rcases ht with rfl | ht | ht
        · exact .inr (.inr List.mem_cons_self)
        · rcases List.mem_cons.mp ht with rfl | ht
          · exact .inl rfl
          · exact .inr (.inl ht)
        · exact .inr (.inr (List.mem_cons_of_mem _ ht))
    · rw [if_neg h]
      obtain ⟨a, b⟩ := lst_ok T x (s :: D) hx hT' fun t ht => by
        rcases List.mem_cons.mp ht with rfl | ht
        · exact ⟨hs, by rw [cr_swap]; omega⟩
        · exact hD t ht
      refine ⟨?_, fun t ht => b t ?_⟩
      · rcases a with a | a
        · exact .inl a
        · exact .inr (List.mem_cons_of_mem _ a)
      · rcases ht with rfl | ht | ht
        · exact .inl rfl
        · rcases List.mem_cons.mp ht with rfl | ht
          · exact .inr (.inr List.mem_cons_self)
          · exact .inr (.inl ht)
        · exact .inr (.inr (List.mem_cons_of_mem _ ht))

/-- a nonnegative sum of two steps along d -/
theorem hitS_comb {T : List Pt} {d : Pt} (h : HitS T d) : ∃ t u, t ∈ T ∧ u ∈ T ∧ ∃ k a c : Int, 0 < k ∧ 0 ≤ a ∧ 0 ≤ c ∧ 0 < a + c ∧ k * d.1 = a * t.1 + c * u.1 ∧ k * d.2 = a * t.2 + c * u.2 := by
  rcases h with ⟨t, ht, h1, h2⟩ | ⟨t, u, ht, hu, h1, h2, h3⟩
  · have hd : ¬ (d.1 = 0 ∧ d.2 = 0) := fun z => by
      simp only [dt] at h2
      rw [z.1, z.2] at h2
      simp at h2
    refine ⟨t, t, ht, ht, dt d t, d.1 * d.1 + d.2 * d.2, 0, h2, Int.le_of_lt (sq_pos hd), Int.le_refl _, by have := sq_pos hd; omega, ?_, ?_⟩
    · have : dt d t * d.1 = (d.1 * d.1 + d.2 * d.2) * t.1 + 0 * t.1 + d.2 * cr d t := by simp only [dt, cr]; grind
      rw [this, h1]; simp
    · have : dt d t * d.2 = (d.1 * d.1 + d.2 * d.2) * t.2 + 0 * t.2 - d.1 * cr d t := by simp only [dt, cr]; grind
      rw [this, h1]; simp
  · have hd : ¬ (d.1 = 0 ∧ d.2 = 0) := fun z => by
      simp only [cr] at h2
      rw [z.1, z.2] at h2
      simp at h2
    have hs := sq_pos hd
    refine ⟨t, u, ht, hu, dt d t * cr d u - dt d u * cr d t, (d.1 * d.1 + d.2 * d.2) * cr d u, (d.1 * d.1 + d.2 * d.2) * - cr d t, h3, Int.le_of_lt (mul_pp hs h2), Int.le_of_lt (mul_pp hs (by omega)), ?_, ?_, ?_⟩
    · have a1 := mul_pp hs h2
      have a2 := mul_pp hs (show 0 < - cr d t by omega)
      omega
    · simp only [dt, cr]; grind
    · simp only [dt, cr]; grind
/-- T3: the cone between the first and the last step -/
theorem cone_iff {T : List Pt} {n x y d : Pt} (hn : ∀ t, t ∈ T → dt n t < 0) (hx : x ∈ T) (hy : y ∈ T) (fx : ∀ t, t ∈ T → 0 ≤ cr x t) (ly : ∀ t, t ∈ T → 0 ≤ cr t y) (hd : d ≠ (0, 0)) :
    HitS T d ↔ 0 ≤ cr x d ∧ 0 ≤ cr d y ∧ (cr x y = 0 → 0 ≤ dt x d) := by
  have hnx := hn x hx
  have hny := hn y hy
  have hd' : ¬ (d.1 = 0 ∧ d.2 = 0) := fun z => hd (by
    obtain ⟨a, b⟩ := d
    simp only at z
    rw [z.1, z.2])
  have hsq := sq_pos hd'
  constructor
  · intro h
    obtain ⟨t, u, ht, hu, k, a, c, hk, ha, hc, _, e1, e2⟩ := hitS_comb h
    refine ⟨?_, ?_, fun hxy => ?_⟩
    · refine nn_of_mul hk ?_
      have : k * cr x d = a * cr x t + c * cr x u := by
        have : k * cr x d = x.1 * (k * d.2) - x.2 * (k * d.1) := by simp only [cr]; grind
        rw [this, e1, e2]; simp only [cr]; grind
      rw [this]
      have := Int.mul_nonneg ha (fx t ht)
      have := Int.mul_nonneg hc (fx u hu)
      omega
    · refine nn_of_mul hk ?_
      have : k * cr d y = a * cr t y + c * cr u y := by
        have : k * cr d y = (k * d.1) * y.2 - (k * d.2) * y.1 := by simp only [cr]; grind
        rw [this, e1, e2]; simp only [cr]; grind
      rw [this]
      have := Int.mul_nonneg ha (ly t ht)
      have := Int.mul_nonneg hc (ly u hu)
      omega
    · have pos : ∀ t, t ∈ T → 0 ≤ dt x t := fun t ht => by
        -- x, t, y along one line
        have h1 := fx t ht
        have h2 := ly t ht
        have e : cr t y * dt n x = cr x y * dt n t - cr x t * dt n y := by simp only [cr, dt]; grind
        rw [hxy] at e
        have e0 : cr x t = 0 := by
          rcases Int.lt_or_le 0 (cr x t) with z | z
          · have q1 := mul_pp z (show 0 < - dt n y by omega)
            have q2 := Int.mul_nonneg h2 (show 0 ≤ - dt n x by omega)
            have q3 : cr x t * - dt n y = - (cr x t * dt n y) := by grind
            have q4 : cr t y * - dt n x = - (cr t y * dt n x) := by grind
            simp at e
            omega
          · omega
        have e2 : dt x t * dt n x = (x.1 * x.1 + x.2 * x.2) * dt n t + cr x t * (n.1 * x.2 - n.2 * x.1) := by simp only [cr, dt]; grind
        rw [e0] at e2
        have q0 : 0 ≤ x.1 * x.1 + x.2 * x.2 := by
          by_cases z : x.1 = 0 ∧ x.2 = 0
          · rw [z.1, z.2]; decide
          · exact Int.le_of_lt (sq_pos z)
        have q1 := Int.mul_nonneg q0 (show 0 ≤ - dt n t by have := hn t ht; omega)
        refine nn_of_mul (a := - dt n x) (by omega) ?_
        have q2 : - dt n x * dt x t = - (dt x t * dt n x) := by grind
        rw [q2, e2]
        have q3 : (x.1 * x.1 + x.2 * x.2) * - dt n t = - ((x.1 * x.1 + x.2 * x.2) * dt n t) := by grind
        omega
      refine nn_of_mul hk ?_
      have : k * dt x d = a * dt x t + c * dt x u := by
        have : k * dt x d = x.1 * (k * d.1) + x.2 * (k * d.2) := by simp only [dt]; grind
        rw [this, e1, e2]; simp only [dt]; grind
      rw [this]
      have := Int.mul_nonneg ha (pos t ht)
      have := Int.mul_nonneg hc (pos u hu)
      omega
  · rintro ⟨h1, h2, h3⟩
    have h4 := fx y hy
    have sw : cr d x = - cr x d := cr_swap d x
    by_cases c0 : cr x y = 0
    · have h5 := h3 c0
      have e : cr x d * dt n y = cr x y * dt n d - cr d y * dt n x := by simp only [cr, dt]; grind
      rw [c0] at e
      have e0 : cr x d = 0 := by
        rcases Int.lt_or_le 0 (cr x d) with z | z
        · have q1 := mul_pp z (show 0 < - dt n y by omega)
          have q2 := Int.mul_nonneg h2 (show 0 ≤ - dt n x by omega)
          have q3 : cr x d * - dt n y = - (cr x d * dt n y) := by grind
          have q4 : cr d y * - dt n x = - (cr d y * dt n x) := by grind
          simp at e
          omega
        · omega
      refine .inl ⟨x, hx, by omega, ?_⟩
      have hx0 : ¬ (x.1 = 0 ∧ x.2 = 0) := fun z => by
        simp only [dt] at hnx
        rw [z.1, z.2] at hnx
        simp at hnx
      have hxs := sq_pos hx0
      have e3 : dt d x * dt d x + cr x d * cr x d = (d.1 * d.1 + d.2 * d.2) * (x.1 * x.1 + x.2 * x.2) := by simp only [cr, dt]; grind
      rw [e0] at e3
      have e4 := mul_pp hsq hxs
      have e5 : dt d x = dt x d := by simp only [dt]; grind
      rcases Int.lt_or_le 0 (dt d x) with z | z
      · exact z
      · have : dt d x = 0 := by omega
        rw [this] at e3
        simp at e3
        omega
    · have cp : 0 < cr x y := by omega
      have k1 : cr x y * d.1 = cr d y * x.1 + cr x d * y.1 := by simp only [cr]; grind
      have k2 : cr x y * d.2 = cr d y * x.2 + cr x d * y.2 := by simp only [cr]; grind
      have kk : cr d y * dt d x + cr x d * dt d y = cr x y * (d.1 * d.1 + d.2 * d.2) := by simp only [cr, dt]; grind
      have kp := mul_pp cp hsq
      by_cases z1 : cr x d = 0
      · refine .inl ⟨x, hx, by omega, ?_⟩
        rw [z1] at kk
        have : 0 < cr d y := by
          rcases Int.lt_or_le 0 (cr d y) with z | z
          · exact z
          · have z' : cr d y = 0 := by omega
            rw [z'] at kk
            simp at kk
            omega
        refine pos_of_mul this ?_
        simp at kk
        omega
      by_cases z2 : cr d y = 0
      · refine .inl ⟨y, hy, z2, ?_⟩
        rw [z2] at kk
        refine pos_of_mul (show 0 < cr x d by omega) ?_
        simp at kk
        omega
      · refine .inr ⟨x, y, hx, hy, by omega, by omega, ?_⟩
        rw [sw]
        have : dt d x * cr d y - dt d y * - cr x d = cr d y * dt d x + cr x d * dt d y := by grind
        omega
end Wf

/-! The scan for the lower border of ascending dots: what it leaves, and that nothing else can be left. -/
namespace Wf
def lx (a b : Pt) : Prop := a.1 < b.1 ∨ (a.1 = b.1 ∧ a.2 < b.2)
instance (a b : Pt) : Decidable (lx a b) := by unfold lx; exact inferInstance
theorem lx_irr (a : Pt) : ¬ lx a a := by unfold lx; omega
theorem lx_trans {a b c : Pt} (h : lx a b) (k : lx b c) : lx a c := by unfold lx at *; omega
theorem lx_asym {a b : Pt} (h : lx a b) : ¬ lx b a := by unfold lx at *; omega
theorem lx_tri (a b : Pt) : lx a b ∨ a = b ∨ lx b a := by
  obtain ⟨a1, a2⟩ := a
  obtain ⟨b1, b2⟩ := b
  by_cases h : a1 = b1 ∧ a2 = b2
  · right; left; rw [h.1, h.2]
  · unfold lx
    simp only
    omega
def uv (v : Pt) : Prop := 0 < v.1 ∨ (v.1 = 0 ∧ 0 < v.2)
theorem uv_sb {a b : Pt} (h : lx a b) : uv (sb b a) := by unfold lx at h; unfold uv sb; simp only; omega
theorem up3 {u v w : Pt} (hu : uv u) (hv : uv v) (hw : uv w) (h1 : 0 ≤ cr u v) (h2 : 0 ≤ cr v w) : 0 ≤ cr u w := by
  have e : v.1 * cr u w = cr u v * w.1 + cr v w * u.1 := by simp only [cr]; grind
  have hu1 : 0 ≤ u.1 := by unfold uv at hu; omega
  have hw1 : 0 ≤ w.1 := by unfold uv at hw; omega
  rcases hv with h | ⟨h, k⟩
  · refine nn_of_mul h ?_
    rw [e]
    have := Int.mul_nonneg h1 hw1
    have := Int.mul_nonneg h2 hu1
    omega
  · -- v straight up
    have a2 : 0 ≤ v.2 * - w.1 := by
      have : cr v w = v.2 * - w.1 := by simp only [cr]; rw [h]; grind
      omega
    have w0 : w.1 = 0 := by have := nn_of_mul k a2; omega
    have a3 := Int.mul_nonneg hu1 (show 0 ≤ w.2 by unfold uv at hw; omega)
    simp only [cr]
    rw [w0]
    simp
    exact a3

/-! ### the scan; stacks have their top first -/
def popS (c : Pt) : List Pt → List Pt
  | t :: u :: r => if bend u t c ≤ 0 then popS c (u :: r) else t :: u :: r
  | s => s
def pushS (S : List Pt) (c : Pt) : List Pt := c :: popS c S
def chainS (D : List Pt) : List Pt := D.foldl pushS []
def chain (D : List Pt) : List Pt := (chainS D).reverse

def Eds (Q : Pt → Pt → Prop) : List Pt → Prop
  | t :: u :: r => Q u t ∧ Eds Q (u :: r)
  | _ => True
def Tns : List Pt → Prop
  | t :: u :: w :: r => 0 < bend w u t ∧ Tns (u :: w :: r)
  | _ => True
theorem Eds.tail {Q : Pt → Pt → Prop} : ∀ {t : Pt} {r : List Pt}, Eds Q (t :: r) → Eds Q r
  | _, [], _ => trivial
  | _, _ :: _, h => h.2
theorem Tns.tail : ∀ {t : Pt} {r : List Pt}, Tns (t :: r) → Tns r
  | _, [], _ => trivial
  | _, [_], _ => trivial
  | _, _ :: _ :: _, h => h.2
theorem Eds.mono {Q R : Pt → Pt → Prop} (i : ∀ u t, Q u t → R u t) : ∀ {S : List Pt}, Eds Q S → Eds R S
  | [], _ => trivial
  | [_], _ => trivial
  | _ :: _ :: _, h => ⟨i _ _ h.1, Eds.mono i h.2⟩
theorem Eds.and {Q R : Pt → Pt → Prop} : ∀ {S : List Pt}, Eds Q S → Eds R S → Eds (fun u t => Q u t ∧ R u t) S
  | [], _, _ => trivial
  | [_], _, _ => trivial
  | _ :: _ :: _, h, k => ⟨⟨h.1, k.1⟩, Eds.and h.2 k.2⟩

/-- what the scan leaves of P, top first -/
structure Low (P K : List Pt) : Prop where
  ne : K ≠ []
  sub : ∀ s, s ∈ K → s ∈ P
  eds : Eds (fun u t => lx u t ∧ ∀ e, e ∈ P → 0 ≤ bend u t e) K
  tns : Tns K
  top : ∀ t, K.head? = some t → ∀ e, e ∈ P → e = t ∨ lx e t
  bot : ∀ t, K.getLast? = some t → ∀ e, e ∈ P → e = t ∨ lx t e

theorem bend_cr (a b c : Pt) : bend a b c = cr (sb b a) (sb c a) := by simp only [bend, cr, sb]
theorem bend_cr2 (a b c : Pt) : bend a b c = cr (sb b a) (sb c b) := by simp only [bend, cr, sb]; grind
theorem bend_last (a b : Pt) : bend a b b = 0 := by simp only [bend]; grind
theorem bend_first (a b : Pt) : bend a b a = 0 := by simp only [bend]; grind

/-- a dot to the left of the top edge is to the left of all -/
theorem left_all {c : Pt} : ∀ {S : List Pt} {t u : Pt} {r : List Pt}, S = t :: u :: r → Eds (fun u t => lx u t) S → Tns S → (∀ s, s ∈ S → lx s c) → 0 ≤ bend u t c → Eds (fun u t => 0 ≤ bend u t c) S
  | _, t, u, [], rfl, _, _, _, h => ⟨h, trivial⟩
  | _, t, u, w :: r, rfl, he, ht, hc, h => by
    refine ⟨h, left_all rfl he.2 ht.2 (fun s hs => hc s (List.mem_cons_of_mem _ hs)) ?_⟩
    have h1 : lx u t := he.1
    have h2 : lx w u := he.2.1
    have h3 : 0 < bend w u t := ht.1
    have h4 : lx u c := hc u (by simp)
    rw [bend_cr2] at h3
    rw [bend_cr] at h
    rw [bend_cr2]
    exact up3 (uv_sb h2) (uv_sb h1) (uv_sb h4) (Int.le_of_lt h3) h

/-- what holds while dots are taken off the top for c -/
structure Mid (P K : List Pt) (c : Pt) : Prop where
  ne : K ≠ []
  sub : ∀ s, s ∈ K → s ∈ P
  eds : Eds (fun u t => lx u t ∧ ∀ e, e ∈ P → 0 ≤ bend u t e) K
  tns : Tns K
  bot : ∀ t, K.getLast? = some t → ∀ e, e ∈ P → e = t ∨ lx t e
  up : ∀ t, K.head? = some t → ∀ e, e ∈ P → (e = t ∨ lx t e) → 0 ≤ bend t c e
theorem Low.mid {P K : List Pt} {c : Pt} (L : Low P K) : Mid P K c := ⟨L.ne, L.sub, L.eds, L.tns, L.bot, fun t ht e he h => by
  rcases h with rfl | h
  · rw [bend_first]; exact Int.le_refl _
  · rcases L.top t ht e he with rfl | h'
    · rw [bend_first]; exact Int.le_refl _
    · exact absurd h' (lx_asym h)⟩
theorem mid_pop {P : List Pt} {c : Pt} (hc : ∀ e, e ∈ P → lx e c) : ∀ (K : List Pt), Mid P K c → Mid P (popS c K) c ∧ (∀ t u r, popS c K = t :: u :: r → 0 < bend u t c)
  | [], M => absurd rfl M.ne
  | [t], M => ⟨M, fun _ _ _ h => by simp [popS] at h⟩
  | t :: u :: r, M => by
    unfold popS
    by_cases h : bend u t c ≤ 0
    · rw [if_pos h]
      refine mid_pop hc (u :: r) ⟨by simp, fun s hs => M.sub s (List.mem_cons_of_mem _ hs), M.eds.2, M.tns.tail, fun s hs => M.bot s (by rw [List.getLast?_cons_cons]; exact hs), fun s hs e he hse => ?_⟩
      have es : u = s := by simpa using hs
      subst es
      rcases hse with rfl | hse
      · rw [bend_first]; exact Int.le_refl _
      · have hu := M.sub u (by simp)
        have ht := M.sub t (by simp)
        have h1 : lx u t := M.eds.1.1
        have h2 := M.eds.1.2 e he
        have h3 : 0 ≤ bend u c t := by
          have : bend u c t = - bend u t c := by simp only [bend]; grind
          omega
        rw [bend_cr] at h2 h3 ⊢
        exact up3 (uv_sb (hc u hu)) (uv_sb h1) (uv_sb hse) h3 h2
    · rw [if_neg h]
      refine ⟨M, fun t' u' r' e => ?_⟩
      injection e with e1 e2
      injection e2 with e2 e3
      subst e1 e2
      omega
theorem getLast?_cons_ne {c : Pt} {K : List Pt} (h : K ≠ []) : (c :: K).getLast? = K.getLast? := by
  cases K with
  | nil => exact absurd rfl h
  | cons x r => exact List.getLast?_cons_cons
theorem low_push {P K : List Pt} {c : Pt} (L : Low P K) (hc : ∀ e, e ∈ P → lx e c) : Low (P ++ [c]) (pushS K c) := by
  obtain ⟨M, hb⟩ := mid_pop hc K L.mid
  unfold pushS
  generalize popS c K = S at M hb
  have memP : ∀ e, e ∈ P ++ [c] ↔ e ∈ P ∨ e = c := fun e => by simp
  -- c is left of all edges of S
  have cl : Eds (fun u t => 0 ≤ bend u t c) S := by
    match S, M, hb with
    | [], M, _ => exact trivial
    | [_], M, _ => exact trivial
    | t :: u :: r, M, hb => exact left_all rfl (M.eds.mono fun _ _ h => h.1) M.tns (fun s hs => hc s (M.sub s hs)) (Int.le_of_lt (hb t u r rfl))
  have old : Eds (fun u t => lx u t ∧ ∀ e, e ∈ P ++ [c] → 0 ≤ bend u t e) S := (M.eds.and cl).mono fun u t h => ⟨h.1.1, fun e he => by
    rcases (memP e).mp he with he | rfl
    · exact h.1.2 e he
    · exact h.2⟩
  obtain ⟨t, r, rfl⟩ : ∃ t r, S = t :: r := by
    cases S with
    | nil => exact absurd rfl M.ne
    | cons t r => exact ⟨t, r, rfl⟩
  have tP := M.sub t (by simp)
  refine ⟨by simp, fun s hs => ?_, ⟨⟨hc t tP, fun e he => ?_⟩, old⟩, ?_, fun s hs e he => ?_, fun s hs e he => ?_⟩
  · rcases List.mem_cons.mp hs with rfl | hs
    · exact (memP _).mpr (.inr rfl)
    · exact (memP _).mpr (.inl (M.sub s hs))
  · rcases (memP e).mp he with he | rfl
    · rcases lx_tri e t with h | h | h
      · -- below t
        cases r with
        | nil =>
          rcases M.bot t (by simp) e he with h' | h'
          · subst h'; exact absurd h (lx_irr _)
          · exact absurd h (lx_asym h')
        | cons u r =>
          have h1 : lx u t := M.eds.1.1
          have h2 := M.eds.1.2 e he
          have h3 := hb t u r rfl
          -- z = t - e, w = c - t, v = t - u
          have k1 : 0 ≤ cr (sb t e) (sb t u) := by
            have : bend u t e = cr (sb t e) (sb t u) := by simp only [bend, cr, sb]; grind
            omega
          have k2 : 0 ≤ cr (sb t u) (sb c t) := by
            rw [bend_cr2] at h3
            omega
          have k3 := up3 (uv_sb h) (uv_sb h1) (uv_sb (hc t tP)) k1 k2
          have : bend t c e = cr (sb t e) (sb c t) := by simp only [bend, cr, sb]; grind
          omega
      · exact M.up t (by simp) e he (.inl h)
      · exact M.up t (by simp) e he (.inr h)
    · rw [bend_last]; exact Int.le_refl _
  · cases r with
    | nil => exact trivial
    | cons u r => exact ⟨hb t u r rfl, M.tns⟩
  · have : c = s := by simpa using hs
    subst this
    rcases (memP e).mp he with he | rfl
    · exact .inr (hc e he)
    · exact .inl rfl
  · rw [getLast?_cons_ne (by simp)] at hs
    rcases (memP e).mp he with he | rfl
    · exact M.bot s hs e he
    · have := M.sub s (List.mem_of_getLast? hs)
      exact .inr (hc s this)
theorem low_one (c : Pt) : Low [c] [c] := ⟨by simp, fun _ h => h, trivial, trivial, fun t h e he => by
  have e1 : c = t := by simpa using h
  have e2 : e = c := by simpa using he
  exact .inl (e2.trans e1), fun t h e he => by
  have e1 : c = t := by simpa using h
  have e2 : e = c := by simpa using he
  exact .inl (e2.trans e1)⟩
/-- strictly ascending -/
abbrev Asc (D : List Pt) : Prop := D.Pairwise lx
theorem low_fold : ∀ (D P K : List Pt), Low P K → (P ++ D).Pairwise lx → Low (P ++ D) (D.foldl pushS K)
  | [], P, K, L, _ => by rw [List.append_nil]; exact L
  | c :: D, P, K, L, h => by
    have e : P ++ c :: D = (P ++ [c]) ++ D := by simp
    rw [e] at h ⊢
    refine low_fold D (P ++ [c]) (pushS K c) (low_push L fun x hx => ?_) h
    have := (List.pairwise_append.mp (List.pairwise_append.mp h).1).2.2
    exact this x hx c (by simp)
theorem chain_low {D : List Pt} (h : Asc D) (hn : D ≠ []) : Low D (chainS D) := by
  cases D with
  | nil => exact absurd rfl hn
  | cons c D => exact low_fold D [c] [c] (low_one c) h

/-- nothing else can be left -/
theorem low_uniq {P : List Pt} : ∀ (K1 K2 : List Pt), K1 ≠ [] → K2 ≠ [] → K1.head? = K2.head? → (∀ s, s ∈ K1 → s ∈ P) → (∀ s, s ∈ K2 → s ∈ P) →
    Eds (fun u t => lx u t ∧ ∀ e, e ∈ P → 0 ≤ bend u t e) K1 → Eds (fun u t => lx u t ∧ ∀ e, e ∈ P → 0 ≤ bend u t e) K2 → Tns K1 → Tns K2 →
    (∀ t, K1.getLast? = some t → ∀ e, e ∈ P → e = t ∨ lx t e) → (∀ t, K2.getLast? = some t → ∀ e, e ∈ P → e = t ∨ lx t e) → K1 = K2
  | [], _, n1, _, _, _, _, _, _, _, _, _, _ => absurd rfl n1
  | _, [], _, n2, _, _, _, _, _, _, _, _, _ => absurd rfl n2
  | [t1], [t2], _, _, h, _, _, _, _, _, _, _, _ => by
    have : t1 = t2 := by simpa using h
    rw [this]
  | [t1], t2 :: u2 :: r2, _, _, h, _, s2, _, e2, _, _, b1, _ => by
    have : t1 = t2 := by simpa using h
    subst this
    have hu := e2.1.1
    rcases b1 t1 (by simp) u2 (s2 u2 (by simp)) with z | z
    · rw [z] at hu; exact absurd hu (lx_irr _)
    · exact absurd hu (lx_asym z)
  | t1 :: u1 :: r1, [t2], _, _, h, s1, _, e1, _, _, _, _, b2 => by
    have : t1 = t2 := by simpa using h
    subst this
    have hu := e1.1.1
    rcases b2 t1 (by simp) u1 (s1 u1 (by simp)) with z | z
    · rw [z] at hu; exact absurd hu (lx_irr _)
    · exact absurd hu (lx_asym z)
  | t1 :: u1 :: r1, t2 :: u2 :: r2, _, _, h, s1, s2, e1, e2, n1, n2, b1, b2 => by
    have et : t1 = t2 := by simpa using h
    subst et
    -- the one below the top is the same
    have no : ∀ (a b : Pt) (ra : List Pt), lx a b → lx b t1 → (∀ s, s ∈ b :: ra → s ∈ P) → a ∈ P → Eds (fun u t => lx u t ∧ ∀ e, e ∈ P → 0 ≤ bend u t e) (b :: ra) → Tns (t1 :: b :: ra) →
        (∀ t, (b :: ra).getLast? = some t → ∀ e, e ∈ P → e = t ∨ lx t e) → bend a t1 b = 0 → False := by
      intro a b ra hab hbt hs ha he ht hb z
      cases ra with
      | nil =>
        rcases hb b (by simp) a ha with q | q
        · rw [q] at hab; exact lx_irr _ hab
        · exact lx_asym q hab
      | cons v ra =>
        have k1 : 0 < bend v b t1 := ht.1
        have k2 := he.1.2 a ha
        have k3 : lx v b := he.1.1
        rw [bend_cr2] at k1 k2
        -- a - b against t1 - b along one line
        have l1 := uv_sb hab
        have l2 := uv_sb hbt
        obtain ⟨ax, ay⟩ := a
        obtain ⟨bx, by_⟩ := b
        obtain ⟨tx, ty⟩ := t1
        obtain ⟨vx, vy⟩ := v
        simp only [bend, cr, sb, uv] at *
        -- with e = b - v, w = t1 - b, s = b - a: cr e w > 0, cr e s <= 0, cr s w = 0, s and w up
        have e0 : (bx - ax) * (ty - by_) - (by_ - ay) * (tx - bx) = 0 := by grind
        have k2' : (bx - vx) * (by_ - ay) - (by_ - vy) * (bx - ax) ≤ 0 := by
          have : (bx - vx) * (ay - by_) - (by_ - vy) * (ax - bx) = - ((bx - vx) * (by_ - ay) - (by_ - vy) * (bx - ax)) := by
            clear k1 k2 l1 l2 e0 z; grind
          omega
        generalize bx - ax = sx at *
        generalize by_ - ay = sy at *
        generalize tx - bx = wx at *
        generalize ty - by_ = wy at *
        generalize bx - vx = ex at *
        generalize by_ - vy = ey at *
        clear k2 z
        rcases l1 with l1 | ⟨l1, l1'⟩
        · -- sx > 0: wx * cr e s = sx * cr e w
          have q : sx * (ex * wy - ey * wx) = wx * (ex * sy - ey * sx) + ex * (sx * wy - sy * wx) := by grind
          rw [e0] at q
          have q1 := mul_pp l1 k1
          have q2 : 0 ≤ wx := by omega
          have q3 := Int.mul_nonneg q2 (show 0 ≤ -(ex * sy - ey * sx) by omega)
          rw [Int.mul_neg] at q3
          simp at q
          omega
        · have w0 : wx = 0 := by
            subst l1
            have : sy * wx = 0 := by simp at e0; omega
            exact zero_of_mul l1' this
          subst w0
          subst l1
          have q : sy * (ex * wy - ey * 0) = wy * (ex * sy - ey * 0) := by grind
          have q1 := mul_pp l1' k1
          have q3 := Int.mul_nonneg (show 0 ≤ wy by omega) (show 0 ≤ -(ex * sy - ey * 0) by omega)
          rw [Int.mul_neg] at q3
          omega
    have eu : u1 = u2 := by
      have f1 := e1.1.2 u2 (s2 u2 (by simp))
      have f2 := e2.1.2 u1 (s1 u1 (by simp))
      have f3 : bend u1 t1 u2 = - bend u2 t1 u1 := by simp only [bend]; grind
      have z1 : bend u1 t1 u2 = 0 := by omega
      have z2 : bend u2 t1 u1 = 0 := by omega
      rcases lx_tri u1 u2 with q | q | q
      · exact (no u1 u2 r2 q e2.1.1 (fun s hs => s2 s (List.mem_cons_of_mem _ hs)) (s1 u1 (by simp)) e2.2 n2 (fun t ht => b2 t (by rw [List.getLast?_cons_cons]; exact ht)) z1).elim
      · exact q
      · exact (no u2 u1 r1 q e1.1.1 (fun s hs => s1 s (List.mem_cons_of_mem _ hs)) (s2 u2 (by simp)) e1.2 n1 (fun t ht => b1 t (by rw [List.getLast?_cons_cons]; exact ht)) z2).elim
    subst eu
    have ih := low_uniq (u1 :: r1) (u1 :: r2) (by simp) (by simp) rfl (fun s hs => s1 s (List.mem_cons_of_mem _ hs)) (fun s hs => s2 s (List.mem_cons_of_mem _ hs)) e1.2 e2.2 n1.tail n2.tail
      (fun t ht => b1 t (by rw [List.getLast?_cons_cons]; exact ht)) (fun t ht => b2 t (by rw [List.getLast?_cons_cons]; exact ht))
    rw [ih]
theorem Low.uniq {P K1 K2 : List Pt} (h : Low P K1) (k : Low P K2) : K1 = K2 := by
  obtain ⟨t1, r1, e1⟩ : ∃ t r, K1 = t :: r := by
    cases K1 with
    | nil => exact absurd rfl h.ne
    | cons t r => exact ⟨t, r, rfl⟩
  obtain ⟨t2, r2, e2⟩ : ∃ t r, K2 = t :: r := by
    cases K2 with
    | nil => exact absurd rfl k.ne
    | cons t r => exact ⟨t, r, rfl⟩
  refine low_uniq K1 K2 h.ne k.ne ?_ h.sub k.sub h.eds k.eds h.tns k.tns h.bot k.bot
  subst e1 e2
  have a := h.top t1 rfl t2 (k.sub t2 (by simp))
  have b := k.top t2 rfl t1 (h.sub t1 (by simp))
  rcases a with a | a
  · rw [a]; rfl
  · rcases b with b | b
    · rw [b]; rfl
    · exact absurd a (lx_asym b)
/-- fewer dots, the same border -/
theorem Low.less {P P' K : List Pt} (h : Low P K) (s : ∀ e, e ∈ P' → e ∈ P) (k : ∀ e, e ∈ K → e ∈ P') : Low P' K :=
  ⟨h.ne, k, h.eds.mono fun _ _ q => ⟨q.1, fun e he => q.2 e (s e he)⟩, h.tns, fun t ht e he => h.top t ht e (s e he), fun t ht e he => h.bot t ht e (s e he)⟩

/-! ### turned round, and in another measure -/
def ng (p : Pt) : Pt := (- p.1, - p.2)
theorem ng_ng (p : Pt) : ng (ng p) = p := by simp [ng]
theorem bend_ng (a b c : Pt) : bend (ng a) (ng b) (ng c) = bend a b c := by simp only [bend, ng]; grind
theorem lx_ng (a b : Pt) : lx (ng a) (ng b) ↔ lx b a := by unfold lx ng; simp only; omega
def ml (k : Int) (p : Pt) : Pt := (k * p.1, k * p.2)
theorem bend_ml (k : Int) (a b c : Pt) : bend (ml k a) (ml k b) (ml k c) = k * k * bend a b c := by simp only [bend, ml]; grind
theorem map_pop {f : Pt → Pt} (hf : ∀ a b c, bend (f a) (f b) (f c) ≤ 0 ↔ bend a b c ≤ 0) (c : Pt) : ∀ S : List Pt, popS (f c) (S.map f) = (popS c S).map f
  | [] => rfl
  | [_] => rfl
  | t :: u :: r => by
    have ih := map_pop hf c (u :: r)
    show popS (f c) (f t :: f u :: r.map f) = (popS c (t :: u :: r)).map f
    unfold popS
    by_cases h : bend u t c ≤ 0
    · rw [if_pos ((hf u t c).mpr h), if_pos h]
      exact ih
    · rw [if_neg (fun z => h ((hf u t c).mp z)), if_neg h]
      rfl
theorem map_chainS {f : Pt → Pt} (hf : ∀ a b c, bend (f a) (f b) (f c) ≤ 0 ↔ bend a b c ≤ 0) (D : List Pt) : chainS (D.map f) = (chainS D).map f := by
  have key : ∀ (D S : List Pt), (D.map f).foldl pushS (S.map f) = (D.foldl pushS S).map f := by
    intro D
    induction D with
    | nil => intro S; rfl
    | cons c D ih =>
      intro S
      show (D.map f).foldl pushS (pushS (S.map f) (f c)) = _
      have : pushS (S.map f) (f c) = (pushS S c).map f := by
        unfold pushS
        rw [map_pop hf]
        rfl
      rw [this]
      exact ih (pushS S c)
  exact key D []
theorem ml_le {k : Int} (hk : 0 < k) (a b c : Pt) : bend (ml k a) (ml k b) (ml k c) ≤ 0 ↔ bend a b c ≤ 0 := by
  rw [bend_ml]
  have h := mul_pp hk hk
  constructor
  · intro z
    have : 0 ≤ k * k * - bend a b c := by rw [Int.mul_neg]; omega
    have := nn_of_mul h this
    omega
  · intro z
    have := Int.mul_nonneg (Int.le_of_lt h) (show 0 ≤ - bend a b c by omega)
    rw [Int.mul_neg] at this
    omega
theorem ng_le (a b c : Pt) : bend (ng a) (ng b) (ng c) ≤ 0 ↔ bend a b c ≤ 0 := by rw [bend_ng]
end Wf

/-! The rim of dots: convex, and its own rim. -/
namespace Wf
def rimOf (S : List Pt) : List Pt := if S.length ≤ 1 then S else (chain S).dropLast ++ (chain S.reverse).dropLast

theorem dl_rev (K : List Pt) : K.reverse.dropLast = K.tail.reverse := by
  cases K with
  | nil => rfl
  | cons x r => simp
theorem len_pos {K : List Pt} (h : K ≠ []) : 0 < K.length := by
  cases K with
  | nil => exact absurd rfl h
  | cons x r => simp
theorem eds_suf {Q : Pt → Pt → Prop} : ∀ {A B : List Pt}, Eds Q (A ++ B) → Eds Q B
  | [], _, h => h
  | _ :: A, B, h => eds_suf (A := A) (Eds.tail h)
theorem gt_get {L : List Pt} {i : Nat} {p : Pt} (h : L[i]? = some p) : gt L i = p := by
  unfold gt
  rw [List.getD_eq_getElem?_getD, h]
  rfl
theorem gt_cons_zero (a : Pt) (L : List Pt) : gt (a :: L) 0 = a := rfl
theorem gt_cons_succ (a : Pt) (L : List Pt) (i : Nat) : gt (a :: L) (i + 1) = gt L i := by
  unfold gt
  rw [List.getD_cons_succ]
theorem eds_at {Q : Pt → Pt → Prop} : ∀ {K : List Pt}, Eds Q K → ∀ j, j + 1 < K.length → Q (gt K (j + 1)) (gt K j)
  | [], _, j, h => by simp at h
  | [_], _, j, h => by simp at h
  | t :: u :: r, e, 0, _ => e.1
  | t :: u :: r, e, j + 1, h => by
    rw [gt_cons_succ, gt_cons_succ]
    exact eds_at e.2 j (by simp at h ⊢; omega)
theorem tns_at : ∀ {K : List Pt}, Tns K → ∀ j, j + 2 < K.length → 0 < bend (gt K (j + 2)) (gt K (j + 1)) (gt K j)
  | [], _, j, h => by simp at h
  | [_], _, j, h => by simp at h
  | [_, _], _, j, h => absurd h (by simp)
  | t :: u :: w :: r, e, 0, _ => e.1
  | t :: u :: w :: r, e, j + 1, h => by
    rw [gt_cons_succ, gt_cons_succ, gt_cons_succ]
    exact tns_at e.2 j (by simp at h ⊢; omega)
theorem eds_join {Q : Pt → Pt → Prop} : ∀ {A : List Pt} {z : Pt} {B : List Pt}, Eds Q (A ++ [z]) → Eds Q (z :: B) → Eds Q (A ++ z :: B)
  | [], _, _, _, h => h
  | [a], z, B, h, k => ⟨h.1, k⟩
  | a :: b :: A, z, B, h, k => ⟨h.1, eds_join (A := b :: A) h.2 k⟩
theorem tns_join : ∀ {A : List Pt} {z q : Pt} {B : List Pt}, Tns (A ++ [q, z]) → Tns (z :: B) → (∀ p, B.head? = some p → 0 < bend p z q) → Tns (A ++ q :: z :: B)
  | [], z, q, [], _, _, _ => trivial
  | [], z, q, p :: B, _, k, j => ⟨j p rfl, k⟩
  | [a], z, q, B, h, k, j => ⟨h.1, tns_join (A := []) h.2 k j⟩
  | a :: b :: A, z, q, B, h, k, j => by
    cases A with
    | nil => exact ⟨h.1, tns_join (A := [b]) h.2 k j⟩
    | cons c A => exact ⟨h.1, tns_join (A := b :: c :: A) h.2 k j⟩

/-- all along one line -/
def Col (S : List Pt) (p z : Pt) : Prop := ∀ e, e ∈ S → bend p z e = 0
theorem col_bend {S : List Pt} {p z : Pt} (h : Col S p z) (hne : p ≠ z) {a b c : Pt} (ha : a ∈ S) (hb : b ∈ S) (hc : c ∈ S) : bend a b c = 0 := by
  have h1 := h a ha
  have h2 := h b hb
  have h3 := h c hc
  obtain ⟨px, py⟩ := p
  obtain ⟨zx, zy⟩ := z
  obtain ⟨ax, ay⟩ := a
  obtain ⟨bx, by_⟩ := b
  obtain ⟨cx, cy⟩ := c
  have hn : ¬ (zx - px = 0 ∧ zy - py = 0) := fun k => hne (by
    have e1 : px = zx := by omega
    have e2 : py = zy := by omega
    rw [e1, e2])
  have hs := sq_pos hn
  simp only [bend] at *
  refine zero_of_mul hs ?_
  generalize zx - px = wx at *
  generalize zy - py = wy at *
  have k1 : wx * (by_ - ay) = wy * (bx - ax) := by grind
  have k2 : wx * (cy - ay) = wy * (cx - ax) := by grind
  have : (wx * wx + wy * wy) * ((bx - ax) * (cy - ay) - (by_ - ay) * (cx - ax)) = (wx * (bx - ax)) * (wx * (cy - ay)) - (wx * (by_ - ay)) * (wx * (cx - ax)) + ((wy * (bx - ax)) * (wy * (cy - ay)) - (wy * (by_ - ay)) * (wy * (cx - ax))) := by
    clear k1 k2 hs hn h1 h2 h3
    grind
  rw [this, k1, k2]
  clear this
  have : (wx * (bx - ax)) * (wy * (cx - ax)) - (wy * (bx - ax)) * (wx * (cx - ax)) + ((wy * (bx - ax)) * (wy * (cy - ay)) - (wy * (by_ - ay)) * (wy * (cx - ax))) = wy * (cy - ay) * (wy * (bx - ax)) - (wy * (by_ - ay)) * (wy * (cx - ax)) := by
    clear k1 k2 hs hn h1 h2 h3
    grind
  rw [this, ← k1, ← k2]
  clear this
  clear k1 k2 hs hn h1 h2 h3
  grind
theorem joint_col {S : List Pt} {p z q : Pt} (hp : lx p z ∧ lx q z ∨ lx z p ∧ lx z q) (h1 : ∀ e, e ∈ S → 0 ≤ bend p z e) (h2 : ∀ e, e ∈ S → 0 ≤ bend z q e) (h0 : bend p z q = 0) : Col S p z := by
  intro e he
  have k1 := h1 e he
  have k2 := h2 e he
  rcases Int.lt_or_le 0 (bend p z e) with k | k
  · exfalso
    -- w = z - p, v = z - q, both up (or both down), x = e - z
    have key : ∀ w v x : Pt, uv w → uv v → cr w v = 0 → 0 < cr w x → 0 < cr v x := by
      intro w v x hw hv h0 hx
      rcases hw with hw | ⟨hw, hw'⟩
      · have e1 : w.1 * cr v x = v.1 * cr w x - x.1 * cr w v := by simp only [cr]; grind
        rw [h0] at e1
        have v1 : 0 < v.1 := by
          rcases hv with hv | ⟨hv, hv'⟩
          · exact hv
          · simp only [cr] at h0
            rw [hv] at h0
            have := mul_pp hw hv'
            simp at h0
            omega
        refine pos_of_mul hw ?_
        rw [e1]
        have := mul_pp v1 hx
        simp
        omega
      · have e1 : w.2 * cr v x = v.2 * cr w x - x.2 * cr w v := by simp only [cr]; grind
        rw [h0] at e1
        have v1 : v.1 = 0 := by
          simp only [cr] at h0
          rw [hw] at h0
          exact zero_of_mul hw' (by simp at h0; first | exact h0 | exact Int.mul_eq_zero.mpr h0)
        have v2 : 0 < v.2 := by unfold uv at hv; omega
        refine pos_of_mul hw' ?_
        rw [e1]
        have := mul_pp v2 hx
        simp
        omega
    rcases hp with ⟨a, b⟩ | ⟨a, b⟩
    · have := key (sb z p) (sb z q) (sb e z) (uv_sb a) (uv_sb b) (by
        have : cr (sb z p) (sb z q) = - bend p z q := by clear h1 h2 k1 k2 key; simp only [bend, cr, sb]; grind
        rw [this, h0]; rfl) (by rw [bend_cr2] at k; exact k)
      have e2 : bend z q e = - cr (sb z q) (sb e z) := by clear h1 h2 k1 k2 key h0 k this; simp only [bend, cr, sb]; grind
      omega
    · have := key (sb p z) (sb q z) (sb z e) (uv_sb a) (uv_sb b) (by
        have : cr (sb p z) (sb q z) = - bend p z q := by clear h1 h2 k1 k2 key; simp only [bend, cr, sb]; grind
        rw [this, h0]; rfl) (by
        have : bend p z e = cr (sb p z) (sb z e) := by clear h1 h2 k1 k2 key h0 k; simp only [bend, cr, sb]; grind
        omega)
      have e2 : bend z q e = - cr (sb q z) (sb z e) := by clear h1 h2 k1 k2 key h0 k this; simp only [bend, cr, sb]; grind
      omega
  · omega

theorem asc_rev_ng {S : List Pt} (h : Asc S) : Asc (S.reverse.map ng) := by
  rw [Asc, List.pairwise_map, List.pairwise_reverse]
  exact h.imp fun {a b} k => (lx_ng b a).mpr k
/-- the upper border by the lower one of the dots turned round -/
theorem upper {S : List Pt} (h : Asc S) (hn : S ≠ []) : Low (S.reverse.map ng) ((chainS S.reverse).map ng) := by
  rw [← map_chainS ng_le]
  exact chain_low (asc_rev_ng h) (by simpa using hn)
theorem eds_map {Q : Pt → Pt → Prop} {f : Pt → Pt} : ∀ {K : List Pt}, Eds Q (K.map f) ↔ Eds (fun u t => Q (f u) (f t)) K
  | [] => Iff.rfl
  | [_] => Iff.rfl
  | t :: u :: r => and_congr Iff.rfl (eds_map (K := u :: r))
theorem tns_ng : ∀ {K : List Pt}, Tns (K.map ng) ↔ Tns K
  | [] => Iff.rfl
  | [_] => Iff.rfl
  | [_, _] => Iff.rfl
  | t :: u :: w :: r => and_congr (by rw [bend_ng]) (tns_ng (K := u :: w :: r))

/-- two borders of S: the lower one, top first, from z down to a; the upper one, from a up to z -/
structure Two (S KL KU : List Pt) (a z : Pt) : Prop where
  subL : ∀ s, s ∈ KL → s ∈ S
  subU : ∀ s, s ∈ KU → s ∈ S
  edL : Eds (fun u t => lx u t ∧ ∀ e, e ∈ S → 0 ≤ bend u t e) KL
  edU : Eds (fun u t => lx t u ∧ ∀ e, e ∈ S → 0 ≤ bend u t e) KU
  tnL : Tns KL
  tnU : Tns KU
  hL : KL.head? = some z
  lL : KL.getLast? = some a
  hU : KU.head? = some a
  lU : KU.getLast? = some z
  az : lx a z
theorem two_of {S : List Pt} (h : Asc S) (h2 : 2 ≤ S.length) : ∃ a z, Two S (chainS S) (chainS S.reverse) a z := by
  have hn : S ≠ [] := fun z => by rw [z] at h2; simp at h2
  have L := chain_low h hn
  have U := upper h hn
  generalize chainS S = KL at *
  generalize chainS S.reverse = KU at *
  have memN : ∀ e, e ∈ S → ng e ∈ S.reverse.map ng := fun e he => List.mem_map_of_mem (List.mem_reverse.mpr he)
  have memB : ∀ e, ng e ∈ S.reverse.map ng → e ∈ S := fun e he => by
    obtain ⟨x, hx, ex⟩ := List.mem_map.mp he
    have : x = e := by rw [← ng_ng x, ex, ng_ng]
    subst this
    exact List.mem_reverse.mp hx
  obtain ⟨z, rL, rfl⟩ : ∃ z r, KL = z :: r := by
    cases KL with
    | nil => exact absurd rfl L.ne
    | cons z r => exact ⟨z, r, rfl⟩
  obtain ⟨a, rU, rfl⟩ : ∃ a r, KU = a :: r := by
    cases KU with
    | nil => exact absurd rfl U.ne
    | cons a r => exact ⟨a, r, rfl⟩
  have haS : a ∈ S := memB a (U.sub (ng a) (by simp))
  have hzS : z ∈ S := L.sub z (by simp)
  have amin : ∀ e, e ∈ S → e = a ∨ lx a e := fun e he => by
    rcases U.top (ng a) (by simp) (ng e) (memN e he) with k | k
    · left
      rw [← ng_ng e, k, ng_ng]
    · exact .inr ((lx_ng e a).mp k)
  have zmax : ∀ e, e ∈ S → e = z ∨ lx e z := fun e he => L.top z rfl e he
  have laz : lx a z := by
    rcases amin z hzS with k | k
    · -- then all dots are one
      exfalso
      match S, h2, h with
      | x :: y :: r, _, h =>
        have hxy : lx x y := (List.pairwise_cons.mp h).1 y (by simp)
        have q1 : x = a := by
          rcases amin x (by simp) with q | q
          · exact q
          · rcases zmax x (by simp) with q' | q'
            · rw [q', k]
            · rw [k] at q'; exact absurd q' (lx_asym q)
        have q2 : y = a := by
          rcases amin y (by simp) with q | q
          · exact q
          · rcases zmax y (by simp) with q' | q'
            · rw [q', k]
            · rw [k] at q'; exact absurd q' (lx_asym q)
        rw [q1, q2] at hxy
        exact lx_irr _ hxy
    · exact k
  obtain ⟨lo, hlo⟩ : ∃ lo, (z :: rL).getLast? = some lo := ⟨_, List.getLast?_eq_some_getLast (by simp)⟩
  obtain ⟨hi, hhi⟩ : ∃ hi, (a :: rU).getLast? = some hi := ⟨_, List.getLast?_eq_some_getLast (by simp)⟩
  have elo : lo = a := by
    have m := L.sub lo (List.mem_of_getLast? hlo)
    rcases L.bot lo hlo a haS with k | k
    · exact k.symm
    · rcases amin lo m with q | q
      · exact q
      · exact absurd k (lx_asym q)
  have ehi : hi = z := by
    have hhi' : ((a :: rU).map ng).getLast? = some (ng hi) := by rw [List.getLast?_map, hhi]; rfl
    have m := memB hi (U.sub (ng hi) (List.mem_of_getLast? hhi'))
    rcases U.bot (ng hi) hhi' (ng z) (memN z hzS) with k | k
    · have : z = hi := by rw [← ng_ng z, k, ng_ng]
      exact this.symm
    · have k' := (lx_ng hi z).mp k
      rcases zmax hi m with q | q
      · exact q
      · exact absurd k' (lx_asym q)
  refine ⟨a, z, L.sub, fun s hs => memB s (U.sub (ng s) (List.mem_map_of_mem hs)), L.eds, ?_, L.tns, tns_ng.mp U.tns, rfl, by rw [hlo, elo], rfl, by rw [hhi, ehi], laz⟩
  exact (eds_map.mp U.eds).mono fun u t k => ⟨(lx_ng u t).mp k.1, fun e he => by
    have := k.2 (ng e) (memN e he)
    rw [bend_ng] at this
    exact this⟩

theorem Two.shape {S KL KU : List Pt} {a z : Pt} (T : Two S KL KU a z) : (∃ B p, KL = z :: p :: B) ∧ (∃ A q, KU = A ++ [q, z]) ∧ (∃ B p, KU = a :: p :: B) ∧ ∃ A q, KL = A ++ [q, a] := by
  have ne : a ≠ z := fun k => by have := T.az; rw [k] at this; exact lx_irr _ this
  have frame : ∀ (K : List Pt) (x y : Pt), K.head? = some x → K.getLast? = some y → x ≠ y → (∃ B p, K = x :: p :: B) ∧ ∃ A q, K = A ++ [q, y] := by
    intro K x y h1 h2 h3
    match K, h1, h2 with
    | [w], h1, h2 =>
      have e1 : w = x := by simpa using h1
      have e2 : w = y := by simpa using h2
      exact absurd (e1.symm.trans e2) h3
    | w :: v :: B, h1, h2 =>
      have e1 : w = x := by simpa using h1
      subst e1
      refine ⟨⟨B, v, rfl⟩, ?_⟩
      have e3 : (w :: v :: B) = (w :: v :: B).dropLast ++ [y] := by
        have hne : (w :: v :: B) ≠ [] := by simp
        have := List.dropLast_concat_getLast hne
        rw [List.getLast?_eq_some_getLast hne] at h2
        have h2' := Option.some.inj h2
        rw [h2'] at this
        exact this.symm
      obtain ⟨C, q, e4⟩ : ∃ C q, (w :: v :: B).dropLast = C ++ [q] := by
        have hne : (w :: v :: B).dropLast ≠ [] := by simp [List.dropLast]
        exact ⟨_, _, (List.dropLast_concat_getLast hne).symm⟩
      refine ⟨C, q, ?_⟩
      rw [e3, e4]
      simp
  obtain ⟨f1, f2⟩ := frame KL z a T.hL T.lL (Ne.symm ne)
  obtain ⟨f3, f4⟩ := frame KU a z T.hU T.lU ne
  exact ⟨f1, f4, f3, f2⟩

/-- the rim from its two borders -/
theorem Two.cvx {S KL KU : List Pt} {a z : Pt} (T : Two S KL KU a z) (hz : a ∈ S ∧ z ∈ S) : Cvx (KL.reverse.dropLast ++ KU.reverse.dropLast) ∧ ∀ p, p ∈ KL.reverse.dropLast ++ KU.reverse.dropLast → p ∈ S := by
  obtain ⟨⟨BL, p, eL⟩, ⟨AU, q, eU⟩, ⟨BU, p', eU'⟩, ⟨AL, q', eL'⟩⟩ := T.shape
  have hR : KL.reverse.dropLast ++ KU.reverse.dropLast = (KU.tail ++ KL.tail).reverse := by
    rw [List.reverse_append]
    rw [dl_rev, dl_rev]
  generalize hRR : KL.reverse.dropLast ++ KU.reverse.dropLast = R at *
  have lenU : KU.length = AU.length + 2 := by rw [eU]; simp
  have lenL : KL.length = BL.length + 2 := by rw [eL]; simp
  -- the closed way round, backwards
  let CR := KU ++ KL.tail
  have lenC : CR.length = R.length + 1 := by
    show (KU ++ KL.tail).length = _
    rw [hR, List.length_reverse, List.length_append, List.length_append, List.length_tail, List.length_tail]
    omega
  have n2 : 2 ≤ R.length := by
    rw [hR, List.length_reverse, List.length_append, List.length_tail, List.length_tail]
    omega
  have subC : ∀ s, s ∈ CR → s ∈ S := fun s hs => by
    rcases List.mem_append.mp hs with k | k
    · exact T.subU s k
    · exact T.subL s (List.mem_of_mem_tail k)
  have subR : ∀ s, s ∈ R → s ∈ S := fun s hs => by
    rw [hR, List.mem_reverse] at hs
    rcases List.mem_append.mp hs with k | k
    · exact T.subU s (List.mem_of_mem_tail k)
    · exact T.subL s (List.mem_of_mem_tail k)
  have edC : Eds (fun u t => ∀ e, e ∈ S → 0 ≤ bend u t e) CR := by
    show Eds _ (KU ++ KL.tail)
    have h1 := T.edU.mono (R := fun u t => ∀ e, e ∈ S → 0 ≤ bend u t e) fun _ _ k => k.2
    have h2 := T.edL.mono (R := fun u t => ∀ e, e ∈ S → 0 ≤ bend u t e) fun _ _ k => k.2
    rw [eU] at h1
    rw [eL] at h2
    rw [eU, eL]
    have := eds_join (A := AU ++ [q]) (z := z) (B := p :: BL) (by simpa using h1) h2
    simpa using this
  -- R[i] = CR[n - i]
  have at_ : ∀ i, i < R.length → gt R i = gt CR (R.length - i) := by
    intro i hi
    have e1 : CR.tail = R.reverse := by
      show (KU ++ KL.tail).tail = _
      rw [hR, List.reverse_reverse, List.tail_append]
      rw [eU']
      simp
    have e2 : gt CR (R.length - i) = gt CR.tail (R.length - i - 1) := by
      have : R.length - i = (R.length - i - 1) + 1 := by omega
      rw [this]
      have hc : CR = gt CR 0 :: CR.tail := by
        match hCR : CR, lenC with
        | [], l => simp at l
        | x :: r, _ => rfl
      rw [hc, gt_cons_succ]
      rfl
    rw [e2, e1]
    unfold gt
    rw [List.getD_eq_getElem?_getD, List.getD_eq_getElem?_getD, List.getElem?_reverse (by omega)]
    have : R.length - 1 - (R.length - i - 1) = i := by omega
    rw [this]
  have c0 : gt CR 0 = a := by
    show gt (KU ++ KL.tail) 0 = a
    rw [eU']
    rfl
  have cn : gt CR R.length = a := by
    show gt (KU ++ KL.tail) R.length = a
    have e1 : KU ++ KL.tail = KU ++ (AL ++ [q', a]).tail := by rw [eL']
    have e2 : KL.length = AL.length + 2 := by rw [eL']; simp
    refine gt_get ?_
    rw [List.getElem?_append_right (by rw [hR, List.length_reverse, List.length_append, List.length_tail, List.length_tail]; omega)]
    rw [hR, List.length_reverse, List.length_append, List.length_tail, List.length_tail]
    have : KU.length - 1 + (KL.length - 1) - KU.length = AL.length := by omega
    rw [this]
    rw [List.getElem?_tail, eL']
    rw [List.getElem?_append_right (by omega)]
    simp
  have r0 : gt R 0 = a := by rw [at_ 0 (by omega), Nat.sub_zero, cn]
  have hedge : ∀ i, i < R.length → ∀ e, e ∈ S → 0 ≤ bend (gt R i) (gt R (nx R.length i)) e := by
    intro i hi e he
    have k := eds_at edC (R.length - i - 1) (by omega) e he
    rw [at_ i hi]
    have e1 : R.length - i - 1 + 1 = R.length - i := by omega
    rw [e1] at k
    by_cases h : i + 1 < R.length
    · have : nx R.length i = i + 1 := by unfold nx; rw [if_pos h]
      rw [this, at_ _ h]
      have e2 : R.length - (i + 1) = R.length - i - 1 := by omega
      rw [e2]
      exact k
    · have : nx R.length i = 0 := by unfold nx; rw [if_neg h]
      rw [this, r0, ← c0]
      have e2 : R.length - i - 1 = 0 := by omega
      rw [e2] at k
      exact k
  have naz : a ≠ z := fun k => by have := T.az; rw [k] at this; exact lx_irr _ this
  refine ⟨⟨by omega, fun _ => ?_, fun h3 => ?_, fun _ i hi p hp => hedge i hi p (subR p hp)⟩, subR⟩
  · -- two corners: a and z
    rename_i h2
    rw [r0]
    have l1 : KU.length + KL.length = 4 := by
      rw [hR, List.length_reverse, List.length_append, List.length_tail, List.length_tail] at h2
      omega
    have b0 : BL = [] := List.length_eq_zero_iff.mp (by omega)
    have u0 : AU = [] := List.length_eq_zero_iff.mp (by omega)
    have : gt R 1 = z := by
      rw [hR, eL, eU, b0, u0]
      rfl
    rw [this]
    exact naz
  · -- no dots all along one line
    have noCol : ∀ x y, Col S x y → x ≠ y → False := by
      intro x y hc hne
      have f1 : BL = [] := by
        cases hB : BL with
        | nil => rfl
        | cons v B =>
          exfalso
          have t := T.tnL
          rw [eL, hB] at t
          have k := t.1
          rw [col_bend hc hne (T.subL v (by rw [eL, hB]; simp)) (T.subL p (by rw [eL]; simp)) (T.subL z (by rw [eL]; simp))] at k
          exact Int.lt_irrefl _ k
      have f2 : BU = [] := by
        cases hB : BU with
        | nil => rfl
        | cons v B =>
          exfalso
          have t := T.tnU
          rw [eU', hB] at t
          have k := t.1
          rw [col_bend hc hne (T.subU v (by rw [eU', hB]; simp)) (T.subU p' (by rw [eU']; simp)) (T.subU a (by rw [eU']; simp))] at k
          exact Int.lt_irrefl _ k
      have : R.length = 2 := by
        rw [hR, List.length_reverse, List.length_append, List.length_tail, List.length_tail, eL, eU', f1, f2]
        rfl
      omega
    -- the joint at z
    have jz : 0 < bend p z q := by
      have h1 := T.edL
      rw [eL] at h1
      have h2 := T.edU
      rw [eU] at h2
      have h3 : lx q z ∧ ∀ e, e ∈ S → 0 ≤ bend z q e := by
        have : Eds (fun u t => lx t u ∧ ∀ e, e ∈ S → 0 ≤ bend u t e) [q, z] := eds_suf h2
        exact this.1
      have k := h1.1.2 q (T.subU q (by rw [eU]; simp))
      rcases Int.lt_or_le 0 (bend p z q) with j | j
      · exact j
      · exact (noCol p z (joint_col (.inl ⟨h1.1.1, h3.1⟩) h1.1.2 h3.2 (by omega)) fun e => by have := h1.1.1; rw [e] at this; exact lx_irr _ this).elim
    have ja : 0 < bend p' a q' := by
      have h1 := T.edU
      rw [eU'] at h1
      have h2 := T.edL
      rw [eL'] at h2
      have h3 : lx a q' ∧ ∀ e, e ∈ S → 0 ≤ bend a q' e := by
        have : Eds (fun u t => lx u t ∧ ∀ e, e ∈ S → 0 ≤ bend u t e) [q', a] := eds_suf h2
        exact this.1
      have k := h1.1.2 q' (T.subL q' (by rw [eL']; simp))
      rcases Int.lt_or_le 0 (bend p' a q') with j | j
      · exact j
      · exact (noCol p' a (joint_col (.inr ⟨h1.1.1, h3.1⟩) h1.1.2 h3.2 (by omega)) fun e => by have := h1.1.1; rw [e] at this; exact lx_irr _ this).elim
    have tnC : Tns CR := by
      show Tns (KU ++ KL.tail)
      have h1 := T.tnU
      have h2 := T.tnL
      rw [eU] at h1
      rw [eL] at h2
      rw [eU, eL]
      have := tns_join (A := AU) (z := z) (q := q) (B := p :: BL) h1 h2 (fun x hx => by
        have : p = x := by simpa using hx
        subst this
        exact jz)
      simpa using this
    intro i hi
    by_cases h : i + 2 ≤ R.length
    · have e1 : nx R.length i = i + 1 := by unfold nx; rw [if_pos (by omega)]
      have k := tns_at tnC (R.length - i - 2) (by omega)
      have e3 : R.length - i - 2 + 2 = R.length - i := by omega
      have e4 : R.length - i - 2 + 1 = R.length - (i + 1) := by omega
      rw [e3, e4, ← at_ i hi, ← at_ (i + 1) (by omega)] at k
      rw [e1]
      by_cases h' : i + 2 < R.length
      · have e2 : nx R.length (i + 1) = i + 2 := by unfold nx; rw [if_pos (by omega)]
        rw [e2, at_ (i + 2) h']
        exact k
      · have e2 : nx R.length (i + 1) = 0 := by unfold nx; rw [if_neg (by omega)]
        have e5 : R.length - i - 2 = 0 := by omega
        rw [e5] at k
        rw [e2, r0, ← c0]
        exact k
    · have ei : i = R.length - 1 := by omega
      have e1 : nx R.length i = 0 := by unfold nx; rw [if_neg (by omega)]
      have e2 : nx R.length 0 = 1 := by unfold nx; rw [if_pos (by omega)]
      rw [e1, e2, r0, at_ i hi, at_ 1 (by omega)]
      have e3 : R.length - i = 1 := by omega
      rw [e3]
      have g1 : gt CR 1 = p' := by
        show gt (KU ++ KL.tail) 1 = p'
        rw [eU']
        rfl
      have g2 : gt CR (R.length - 1) = q' := by
        show gt (KU ++ KL.tail) (R.length - 1) = q'
        have e5 : KL.length = AL.length + 2 := by rw [eL']; simp
        have e6 : R.length = KU.length - 1 + (KL.length - 1) := by rw [hR, List.length_reverse, List.length_append, List.length_tail, List.length_tail]
        by_cases hA : AL = []
        · -- KL = [q', a] = [z, a]
          rw [hA] at eL'
          have q1 : q' = z := by
            have := T.hL
            rw [eL'] at this
            simpa using this
          have e7 : KL.length = 2 := by rw [eL']; rfl
          have : R.length - 1 = AU.length + 1 := by omega
          rw [this, q1]
          refine gt_get ?_
          rw [List.getElem?_append_left (by omega), eU]
          rw [List.getElem?_append_right (by omega)]
          simp
        · have l1 : 1 ≤ AL.length := len_pos hA
          refine gt_get ?_
          rw [List.getElem?_append_right (by omega), List.getElem?_tail, eL']
          have : R.length - 1 - KU.length + 1 = AL.length := by omega
          rw [this, List.getElem?_append_right (by omega)]
          simp
      rw [g1, g2]
      exact ja
theorem rim_two {S : List Pt} (h : 2 ≤ S.length) : rimOf S = (chainS S).reverse.dropLast ++ (chainS S.reverse).reverse.dropLast := by
  unfold rimOf
  rw [if_neg (by omega)]
  rfl
theorem rim_cvx {S : List Pt} (h : Asc S) (hn : S ≠ []) : Cvx (rimOf S) ∧ ∀ p, p ∈ rimOf S → p ∈ S := by
  by_cases h2 : 2 ≤ S.length
  · obtain ⟨a, z, T⟩ := two_of h h2
    rw [rim_two h2]
    refine T.cvx ⟨?_, ?_⟩
    · exact T.subL a (List.mem_of_getLast? T.lL)
    · exact T.subU z (List.mem_of_getLast? T.lU)
  · have h1 : S.length = 1 := by have := len_pos hn; omega
    unfold rimOf
    rw [if_pos (by omega)]
    exact ⟨⟨by omega, fun z => by omega, fun z => by omega, fun z => by omega⟩, fun _ k => k⟩
theorem rim_map {S : List Pt} {k : Int} (hk : 0 < k) : rimOf (S.map (ml k)) = (rimOf S).map (ml k) := by
  unfold rimOf
  rw [List.length_map]
  split
  · rfl
  · unfold chain
    rw [← List.map_reverse, map_chainS (ml_le hk), map_chainS (ml_le hk), ← List.map_reverse, ← List.map_reverse, ← List.map_dropLast, ← List.map_dropLast, List.map_append]
/-- the rim of a rim -/
theorem rim_again {S S' : List Pt} (h : Asc S) (hn : S ≠ []) (h' : Asc S') (hm : ∀ p, p ∈ S' ↔ p ∈ rimOf S) : rimOf S' = rimOf S := by
  by_cases h2 : 2 ≤ S.length
  · obtain ⟨a, z, T⟩ := two_of h h2
    have naz : a ≠ z := fun k => by have := T.az; rw [k] at this; exact lx_irr _ this
    have L := chain_low h hn
    have U := upper h hn
    have sub := (rim_cvx h hn).2
    have e := rim_two h2
    have memL : ∀ s, s ∈ chainS S → s ∈ rimOf S := by
      intro s hs
      obtain ⟨⟨BL, p, eL⟩, _, ⟨BU, p', eU'⟩, _⟩ := T.shape
      rw [e, eL]
      rw [eL] at hs
      rcases List.mem_cons.mp hs with rfl | hs
      · -- z, the last of the upper border's backwards
        refine List.mem_append_right _ ?_
        have : (chainS S.reverse).reverse.dropLast = (chainS S.reverse).tail.reverse := dl_rev _
        rw [this, List.mem_reverse]
        have lU := T.lU
        rw [eU'] at lU ⊢
        rw [List.getLast?_cons_cons] at lU
        exact List.mem_of_getLast? lU
      · refine List.mem_append_left _ ?_
        have : (s :: p :: BL).reverse.dropLast = (p :: BL).reverse := by simp
        have : (z :: p :: BL).reverse.dropLast = (p :: BL).reverse := by simp
        rw [this]
        exact List.mem_reverse.mpr hs
    have memU : ∀ s, s ∈ chainS S.reverse → s ∈ rimOf S := by
      intro s hs
      obtain ⟨⟨BL, p, eL⟩, _, ⟨BU, p', eU'⟩, _⟩ := T.shape
      rw [e, eU']
      rw [eU'] at hs
      rcases List.mem_cons.mp hs with rfl | hs
      · refine List.mem_append_left _ ?_
        have lL := T.lL
        rw [eL] at lL ⊢
        rw [List.getLast?_cons_cons] at lL
        have : (z :: p :: BL).reverse.dropLast = (p :: BL).reverse := by simp
        rw [this]
        exact List.mem_reverse.mpr (List.mem_of_getLast? lL)
      · refine List.mem_append_right _ ?_
        have : (a :: p' :: BU).reverse.dropLast = (p' :: BU).reverse := by simp
        rw [this]
        exact List.mem_reverse.mpr hs
    have hn' : S' ≠ [] := fun k => by
      have : a ∈ S' := (hm a).mpr (memL a (List.mem_of_getLast? T.lL))
      rw [k] at this
      cases this
    have l2 : 2 ≤ S'.length := by
      have m1 : a ∈ S' := (hm a).mpr (memL a (List.mem_of_getLast? T.lL))
      have m2 : z ∈ S' := (hm z).mpr (memU z (List.mem_of_getLast? T.lU))
      match S', m1, m2 with
      | [x], m1, m2 =>
        have e1 : a = x := by simpa using m1
        have e2 : z = x := by simpa using m2
        exact absurd (e1.trans e2.symm) naz
      | x :: y :: r, _, _ => simp
    have c1 : chainS S' = chainS S := (chain_low h' hn').uniq (L.less (fun p hp => sub p ((hm p).mp hp)) fun p hp => (hm p).mpr (memL p hp))
    have c2 : (chainS S'.reverse).map ng = (chainS S.reverse).map ng := (upper h' hn').uniq (U.less (fun p hp => by
        obtain ⟨x, hx, rfl⟩ := List.mem_map.mp hp
        exact List.mem_map_of_mem (List.mem_reverse.mpr (sub x ((hm x).mp (List.mem_reverse.mp hx))))) fun p hp => by
        obtain ⟨x, hx, rfl⟩ := List.mem_map.mp hp
        exact List.mem_map_of_mem (List.mem_reverse.mpr ((hm x).mpr (memU x hx))))
    have c3 : chainS S'.reverse = chainS S.reverse := by
      have := congrArg (List.map ng) c2
      rw [List.map_map, List.map_map] at this
      have id_ : ng ∘ ng = id := by funext p; exact ng_ng p
      rw [id_, List.map_id, List.map_id] at this
      exact this
    rw [rim_two l2, rim_two h2, c1, c3]
  · have h1 : S.length = 1 := by have := len_pos hn; omega
    obtain ⟨x, rfl⟩ := len1 h1
    have r1 : rimOf [x] = [x] := rfl
    rw [r1] at hm ⊢
    have hx : x ∈ S' := (hm x).mpr (by simp)
    match S', h', hm, hx with
    | [], _, _, hx => cases hx
    | [y], _, hm, _ =>
      have : y = x := by simpa using (hm y).mp (by simp)
      rw [this]
      rfl
    | y :: w :: r, h', hm, _ =>
      exfalso
      have e1 : y = x := by simpa using (hm y).mp (by simp)
      have e2 : w = x := by simpa using (hm w).mp (by simp)
      have := (List.pairwise_cons.mp h').1 w (by simp)
      rw [e1, e2] at this
      exact lx_irr _ this
end Wf

namespace Wf
/-! ### the greatest common divisor of a list -/
def gcdl (ns : List Int) : Int := ns.foldl (fun f n => ((Nat.gcd f.natAbs n.natAbs : Nat) : Int)) 0
theorem gcd_fold_dvd : ∀ (ns : List Int) (f : Int), (ns.foldl (fun f n => ((Nat.gcd f.natAbs n.natAbs : Nat) : Int)) f) ∣ f ∧ ∀ n ∈ ns, (ns.foldl (fun f n => ((Nat.gcd f.natAbs n.natAbs : Nat) : Int)) f) ∣ n
  | [], f => ⟨Int.dvd_refl f, fun n h => nomatch h⟩
  | m :: ns, f => by
    obtain ⟨h1, h2⟩ := gcd_fold_dvd ns ((Nat.gcd f.natAbs m.natAbs : Nat) : Int)
    have a : ((Nat.gcd f.natAbs m.natAbs : Nat) : Int) ∣ f := Int.dvd_natAbs.mp (Int.natCast_dvd_natCast.mpr (Nat.gcd_dvd_left _ _))
    have b : ((Nat.gcd f.natAbs m.natAbs : Nat) : Int) ∣ m := Int.dvd_natAbs.mp (Int.natCast_dvd_natCast.mpr (Nat.gcd_dvd_right _ _))
    refine ⟨Int.dvd_trans h1 a, fun n hn => ?_⟩
    rcases List.mem_cons.mp hn with e | hn
    · rw [e]; exact Int.dvd_trans h1 b
    · exact h2 n hn
theorem gcdl_dvd {ns : List Int} {n : Int} (h : n ∈ ns) : gcdl ns ∣ n := (gcd_fold_dvd ns 0).2 n h
theorem fold_nn : ∀ (ns : List Int) (f : Int), 0 ≤ f → 0 ≤ ns.foldl (fun f n => ((Nat.gcd f.natAbs n.natAbs : Nat) : Int)) f
  | [], f, h => h
  | m :: ns, f, h => fold_nn ns _ (Int.natCast_nonneg _)
theorem gcdl_nn (ns : List Int) : 0 ≤ gcdl ns := fold_nn ns 0 (by decide)
theorem gcdl_pos {ns : List Int} {n : Int} (h : n ∈ ns) (h0 : n ≠ 0) : 0 < gcdl ns := by
  have h1 := gcdl_nn ns
  have h2 := gcdl_dvd h
  rcases Int.lt_or_eq_of_le h1 with h3 | h3
  · exact h3
  · rw [← h3] at h2
    exact absurd (Int.zero_dvd.mp h2) h0
theorem fold_dvd : ∀ (ns : List Int) (f d : Int), d ∣ f → (∀ n ∈ ns, d ∣ n) → d ∣ ns.foldl (fun f n => ((Nat.gcd f.natAbs n.natAbs : Nat) : Int)) f
  | [], f, d, h, _ => h
  | m :: ns, f, d, h, k => fold_dvd ns _ d (by
    have a := Int.natAbs_dvd_natAbs.mpr h
    have b := Int.natAbs_dvd_natAbs.mpr (k m List.mem_cons_self)
    exact Int.natAbs_dvd.mp (Int.natCast_dvd_natCast.mpr (Nat.dvd_gcd a b))) fun n hn => k n (List.mem_cons_of_mem _ hn)
theorem dvd_gcdl {ns : List Int} {d : Int} (h : ∀ n ∈ ns, d ∣ n) : d ∣ gcdl ns := fold_dvd ns 0 d (Int.dvd_zero d) h
/-- reduced -/
theorem gcdl_div {ns : List Int} (h : 0 < gcdl ns) : gcdl (ns.map (· / gcdl ns)) = 1 := by
  generalize hg : gcdl ns = g at h
  have e : ∀ n ∈ ns, n = g * (n / g) := fun n hn => by
    have : g ∣ n := by rw [← hg]; exact gcdl_dvd hn
    exact (Int.mul_ediv_cancel' this).symm
  have h1 : g * gcdl (ns.map (· / g)) ∣ g := by
    have : g * gcdl (ns.map (· / g)) ∣ gcdl ns := dvd_gcdl fun n hn => by
      rw [e n hn]
      exact Int.mul_dvd_mul_left g (gcdl_dvd (List.mem_map.mpr ⟨n, hn, rfl⟩))
    rw [hg] at this
    exact this
  obtain ⟨c, hc⟩ := h1
  have h2 : gcdl (ns.map (· / g)) * c = 1 := by
    have : g * (gcdl (ns.map (· / g)) * c) = g * 1 := by rw [← Int.mul_assoc, ← hc, Int.mul_one]
    exact Int.eq_of_mul_eq_mul_left (by omega) this
  have h3 := gcdl_nn (ns.map (· / g))
  exact Int.eq_one_of_mul_eq_one_right h3 h2
/-- what a list reduced is: the same times a positive number -/
theorem low_at {ns : List Int} (h : 0 < gcdl ns) {n : Int} (hn : n ∈ ns) : gcdl ns * (n / gcdl ns) = n ∧ (n / gcdl ns).natAbs ≤ n.natAbs := by
  have e := Int.mul_ediv_cancel' (gcdl_dvd hn)
  refine ⟨e, ?_⟩
  generalize gcdl ns = g at h e ⊢
  generalize n / g = q at e ⊢
  rw [← e, Int.natAbs_mul]
  have : 1 ≤ g.natAbs := by omega
  exact Nat.le_mul_of_pos_left _ this
theorem gcdl_le {ns : List Int} {n : Int} (h : n ∈ ns) (h0 : n ≠ 0) : (gcdl ns).natAbs ≤ n.natAbs :=
  Nat.le_of_dvd (by omega) (Int.natAbs_dvd_natAbs.mpr (gcdl_dvd h))
end Wf

namespace Wf
/-! ### the closing: the plain law. Of each side its gain g and its room r; of the pairs V and W the denominators -/
theorem fr_le {f h : Pt} {c r : Int} (hf : 0 < f.2) (hh : 0 < h.2) (l : f.1 * h.2 ≤ h.1 * f.2) (hc : 0 ≤ c) (k : h.1 * c ≤ h.2 * r) : f.1 * c ≤ f.2 * r := by
  have a := Int.mul_le_mul_of_nonneg_right l hc
  have b := Int.mul_le_mul_of_nonneg_left k (Int.le_of_lt hf)
  have e : h.2 * (f.1 * c) ≤ h.2 * (f.2 * r) := by
    have e1 : h.2 * (f.1 * c) = f.1 * h.2 * c := by grind
    have e2 : f.2 * (h.1 * c) = h.1 * f.2 * c := by grind
    have e3 : f.2 * (h.2 * r) = h.2 * (f.2 * r) := by grind
    omega
  exact Int.le_of_mul_le_mul_left e hh
theorem fr_ge {f l : Pt} {c r : Int} (hf : 0 < f.2) (hl : 0 < l.2) (q : l.1 * f.2 ≤ f.1 * l.2) (hc : c ≤ 0) (k : l.1 * c ≤ l.2 * r) : f.1 * c ≤ f.2 * r := by
  have a := Int.mul_le_mul_of_nonpos_right q hc
  have b := Int.mul_le_mul_of_nonneg_left k (Int.le_of_lt hf)
  have e : l.2 * (f.1 * c) ≤ l.2 * (f.2 * r) := by
    have e1 : l.2 * (f.1 * c) = f.1 * l.2 * c := by grind
    have e2 : f.2 * (l.1 * c) = l.1 * f.2 * c := by grind
    have e3 : f.2 * (l.2 * r) = l.2 * (f.2 * r) := by grind
    omega
  exact Int.le_of_mul_le_mul_left e hl
/-- from an equality on one side: t is not above f -/
theorem fr_up {f t : Pt} {c r : Int} (hf : 0 < f.2) (ht : 0 < t.2) (hc : 0 < c) (e : f.1 * c = f.2 * r) (k : t.1 * c ≤ t.2 * r) : t.1 * f.2 ≤ f.1 * t.2 := by
  have a := Int.mul_le_mul_of_nonneg_left k (Int.le_of_lt hf)
  have : c * (t.1 * f.2) ≤ c * (f.1 * t.2) := by
    have e1 : c * (t.1 * f.2) = f.2 * (t.1 * c) := by grind
    have e2 : c * (f.1 * t.2) = f.2 * (t.2 * r) := by
      have : c * (f.1 * t.2) = t.2 * (f.1 * c) := by grind
      rw [this, e]; grind
    omega
  exact Int.le_of_mul_le_mul_left this hc
theorem fr_dn {f t : Pt} {c r : Int} (hf : 0 < f.2) (ht : 0 < t.2) (hc : c < 0) (e : f.1 * c = f.2 * r) (k : t.1 * c ≤ t.2 * r) : f.1 * t.2 ≤ t.1 * f.2 := by
  have a := Int.mul_le_mul_of_nonneg_left k (Int.le_of_lt hf)
  have : -c * (f.1 * t.2) ≤ -c * (t.1 * f.2) := by
    have e1 : -c * (t.1 * f.2) = - (f.2 * (t.1 * c)) := by grind
    have e2 : -c * (f.1 * t.2) = - (f.2 * (t.2 * r)) := by
      have : -c * (f.1 * t.2) = - (t.2 * (f.1 * c)) := by grind
      rw [this, e]; grind
    omega
  exact Int.le_of_mul_le_mul_left this (by omega)

abbrev GR := Int × Int
def Feas (V W : Int) (f : Pt) (x : GR) : Prop := f.1 * (x.1 * V) ≤ f.2 * (x.2 * W)
def Tgt (V W : Int) (f : Pt) (x : GR) : Prop := f.1 * (x.1 * V) = f.2 * (x.2 * W)
def Hi (V W : Int) (L : List GR) : Option Pt → Prop
  | none => ∀ x ∈ L, ¬ 0 < x.1
  | some f => 0 < f.2 ∧ (∃ x ∈ L, 0 < x.1 ∧ Tgt V W f x) ∧ ∀ x ∈ L, 0 < x.1 → Feas V W f x
def Lo (V W : Int) (L : List GR) : Option Pt → Prop
  | none => ∀ x ∈ L, ¬ x.1 < 0
  | some f => 0 < f.2 ∧ (∃ x ∈ L, x.1 < 0 ∧ Tgt V W f x) ∧ ∀ x ∈ L, x.1 < 0 → Feas V W f x
section
variable {V W : Int} {L : List GR} {x : GR} {b : Pt}
theorem mem_snoc {α : Type} {L : List α} {x y : α} (h : y ∈ L ++ [x]) : y ∈ L ∨ y = x := by simpa using h
theorem Hi.skip {o : Option Pt} (h : Hi V W L o) (hx : ¬ 0 < x.1) : Hi V W (L ++ [x]) o := by
  cases o with
  | none => exact fun y hy => (mem_snoc hy).elim (h y) fun e => e ▸ hx
  | some f =>
    obtain ⟨a, ⟨y, hy, r⟩, c⟩ := h
    exact ⟨a, ⟨y, List.mem_append_left _ hy, r⟩, fun z hz hp => (mem_snoc hz).elim (fun q => c z q hp) fun e => absurd (e ▸ hp) hx⟩
theorem Lo.skip {o : Option Pt} (h : Lo V W L o) (hx : ¬ x.1 < 0) : Lo V W (L ++ [x]) o := by
  cases o with
  | none => exact fun y hy => (mem_snoc hy).elim (h y) fun e => e ▸ hx
  | some f =>
    obtain ⟨a, ⟨y, hy, r⟩, c⟩ := h
    exact ⟨a, ⟨y, List.mem_append_left _ hy, r⟩, fun z hz hp => (mem_snoc hz).elim (fun q => c z q hp) fun e => absurd (e ▸ hp) hx⟩
theorem Hi.first (h : Hi V W L none) (hx : 0 < x.1) (hb : 0 < b.2) (t : Tgt V W b x) : Hi V W (L ++ [x]) (some b) :=
  ⟨hb, ⟨x, by simp, hx, t⟩, fun y hy hp => (mem_snoc hy).elim (fun q => absurd hp (h y q)) fun e => by rw [e]; exact Int.le_of_eq t⟩
theorem Lo.first (h : Lo V W L none) (hx : x.1 < 0) (hb : 0 < b.2) (t : Tgt V W b x) : Lo V W (L ++ [x]) (some b) :=
  ⟨hb, ⟨x, by simp, hx, t⟩, fun y hy hp => (mem_snoc hy).elim (fun q => absurd hp (h y q)) fun e => by rw [e]; exact Int.le_of_eq t⟩
theorem Hi.next {f : Pt} (hV : 0 < V) (h : Hi V W L (some f)) (hx : 0 < x.1) (hb : 0 < b.2) (t : Tgt V W b x) : Hi V W (L ++ [x]) (some (if b.1 * f.2 < f.1 * b.2 then b else f)) := by
  obtain ⟨h1, ⟨y, hy, hp, ty⟩, h3⟩ := h
  split
  · rename_i c
    refine ⟨hb, ⟨x, by simp, hx, t⟩, fun z hz zp => (mem_snoc hz).elim (fun q => ?_) fun e => by rw [e]; exact Int.le_of_eq t⟩
    exact fr_le hb h1 (Int.le_of_lt c) (Int.le_of_lt (mul_pp zp hV)) (h3 z q zp)
  · rename_i c
    refine ⟨h1, ⟨y, List.mem_append_left _ hy, hp, ty⟩, fun z hz zp => (mem_snoc hz).elim (fun q => h3 z q zp) fun e => ?_⟩
    rw [e]
    exact fr_le h1 hb (Int.not_lt.mp c) (Int.le_of_lt (mul_pp hx hV)) (Int.le_of_eq t)
theorem neg_mul_pos {a V : Int} (h : a < 0) (hV : 0 < V) : a * V < 0 := by
  have : 0 < (-a) * V := mul_pp (by omega) hV
  have e : (-a) * V = - (a * V) := by grind
  omega
theorem Lo.next {f : Pt} (hV : 0 < V) (h : Lo V W L (some f)) (hx : x.1 < 0) (hb : 0 < b.2) (t : Tgt V W b x) : Lo V W (L ++ [x]) (some (if f.1 * b.2 < b.1 * f.2 then b else f)) := by
  obtain ⟨h1, ⟨y, hy, hp, ty⟩, h3⟩ := h
  split
  · rename_i c
    refine ⟨hb, ⟨x, by simp, hx, t⟩, fun z hz zp => (mem_snoc hz).elim (fun q => ?_) fun e => by rw [e]; exact Int.le_of_eq t⟩
    exact fr_ge hb h1 (Int.le_of_lt c) (Int.le_of_lt (neg_mul_pos zp hV)) (h3 z q zp)
  · rename_i c
    refine ⟨h1, ⟨y, List.mem_append_left _ hy, hp, ty⟩, fun z hz zp => (mem_snoc hz).elim (fun q => h3 z q zp) fun e => ?_⟩
    rw [e]
    exact fr_ge h1 hb (Int.not_lt.mp c) (Int.le_of_lt (neg_mul_pos hx hV)) (Int.le_of_eq t)
/-- there is a closing above 0 -/
def RayG (L : List GR) : Prop := ∃ p q : Int, 0 < p ∧ 0 < q ∧ ∀ x ∈ L, p * x.1 ≤ q * x.2
theorem RayG.feas (hV : 0 < V) (hW : 0 < W) (h : RayG L) : ∃ t : Pt, 0 < t.1 ∧ 0 < t.2 ∧ ∀ x ∈ L, Feas V W t x := by
  obtain ⟨p, q, hp, hq, h⟩ := h
  refine ⟨(p * W, q * V), mul_pp hp hW, mul_pp hq hV, fun x hx => ?_⟩
  have := Int.mul_le_mul_of_nonneg_left (h x hx) (Int.le_of_lt (mul_pp hV hW))
  unfold Feas
  have e1 : p * W * (x.1 * V) = V * W * (p * x.1) := by grind
  have e2 : q * V * (x.2 * W) = V * W * (q * x.2) := by grind
  simp only
  rw [e1, e2]
  exact this
theorem RayG.of_feas {t : Pt} (hV : 0 < V) (hW : 0 < W) (h1 : 0 < t.1) (h2 : 0 < t.2) (h : ∀ x ∈ L, Feas V W t x) : RayG L := by
  refine ⟨t.1 * V, t.2 * W, mul_pp h1 hV, mul_pp h2 hW, fun x hx => ?_⟩
  have := h x hx
  unfold Feas at this
  have e1 : t.1 * V * x.1 = t.1 * (x.1 * V) := by grind
  have e2 : t.2 * W * x.2 = t.2 * (x.2 * W) := by grind
  rw [e1, e2]
  exact this
theorem no_zero (hx : x ∈ L) (h0 : x.1 = 0) (hr : x.2 < 0) : ¬ RayG L := fun ⟨p, q, hp, hq, h⟩ => by
  have := h x hx
  rw [h0, Int.mul_zero] at this
  have k : 0 < q * (-x.2) := mul_pp hq (by omega)
  have e : q * (-x.2) = - (q * x.2) := by grind
  omega
theorem close_none {h l : Pt} (hV : 0 < V) (hW : 0 < W) (H : Hi V W L (some h)) (M : Lo V W L (some l)) (c : h.1 * l.2 < l.1 * h.2) : ¬ RayG L := fun r => by
  obtain ⟨t, t1, t2, ft⟩ := r.feas hV hW
  obtain ⟨h1, ⟨y, hy, hp, ty⟩, _⟩ := H
  obtain ⟨l1, ⟨z, hz, zp, tz⟩, _⟩ := M
  have a := fr_up h1 t2 (mul_pp hp hV) ty (ft y hy)
  have b := fr_dn l1 t2 (neg_mul_pos zp hV) tz (ft z hz)
  -- l <= t <= h
  have a' := Int.mul_le_mul_of_nonneg_right a (Int.le_of_lt l1)
  have b' := Int.mul_le_mul_of_nonneg_right b (Int.le_of_lt h1)
  have c' := Int.mul_lt_mul_of_pos_right c t2
  have e1 : l.1 * t.2 * h.2 = l.1 * h.2 * t.2 := by grind
  have e2 : t.1 * h.2 * l.2 = t.1 * l.2 * h.2 := by grind
  have e3 : h.1 * t.2 * l.2 = h.1 * l.2 * t.2 := by grind
  omega
theorem close_some {h l : Pt} (hV : 0 < V) (hW : 0 < W) (H : Hi V W L (some h)) (M : Lo V W L (some l)) (c : ¬ h.1 * l.2 < l.1 * h.2) (hz : ∀ x ∈ L, x.1 = 0 → 0 ≤ x.2) : 0 < h.1 ↔ RayG L := by
  obtain ⟨h1, ⟨y, hy, hp, ty⟩, h3⟩ := H
  obtain ⟨l1, _, l3⟩ := M
  constructor
  · intro k
    refine RayG.of_feas hV hW k h1 fun x hx => ?_
    rcases Int.lt_trichotomy x.1 0 with q | q | q
    · exact fr_ge h1 l1 (Int.not_lt.mp c) (Int.le_of_lt (neg_mul_pos q hV)) (l3 x hx q)
    · unfold Feas
      rw [q, Int.zero_mul, Int.mul_zero]
      exact mul_nn (Int.le_of_lt h1) (mul_nn (hz x hx q) (Int.le_of_lt hW))
    · exact h3 x hx q
  · intro r
    obtain ⟨t, t1, t2, ft⟩ := r.feas hV hW
    have a := fr_up h1 t2 (mul_pp hp hV) ty (ft y hy)
    have b : 0 < t.1 * h.2 := mul_pp t1 h1
    have : 0 < t.2 * h.1 := by
      have e : t.2 * h.1 = h.1 * t.2 := by grind
      omega
    exact pos_of_mul t2 this
end
/-- a bound is tight -/
theorem tight_of {g R V W : Int} {r1 r3 r4 : Pt} (hV : 0 < V) (hW : 0 < W) (p1 : 0 < r1.2) (p3 : 0 < r3.2) (e1 : r1.1 * W = g * r1.2) (e3 : r3.1 * V = R * r3.2) (e4 : r4.1 * (r3.2 * r1.1) = r3.1 * r1.2 * r4.2) : Tgt V W r4 (g, R) := by
  unfold Tgt
  simp only
  have k : r1.2 * r3.2 * (r4.1 * (g * V)) = r1.2 * r3.2 * (r4.2 * (R * W)) := by
    have a1 : r1.2 * r3.2 * (r4.1 * (g * V)) = r4.1 * r3.2 * V * (g * r1.2) := by grind
    have a2 : r4.1 * r3.2 * V * (r1.1 * W) = V * W * (r4.1 * (r3.2 * r1.1)) := by grind
    have a3 : V * W * (r3.1 * r1.2 * r4.2) = r1.2 * r4.2 * W * (r3.1 * V) := by grind
    have a4 : r1.2 * r4.2 * W * (R * r3.2) = r1.2 * r3.2 * (r4.2 * (R * W)) := by grind
    rw [a1, ← e1, a2, e4, a3, e3, a4]
  exact Int.eq_of_mul_eq_mul_left (Int.ne_of_gt (mul_pp p1 p3)) k
theorem room_of {h sv V : Int} {r2 r3 : Pt} (p2 : 0 < r2.2) (e2 : r2.1 * V = sv * r2.2) (e3 : r3.1 * (1 * r2.2) = (h * r2.2 - r2.1 * 1) * r3.2) : r3.1 * V = (h * V - sv) * r3.2 := by
  have k : r2.2 * (r3.1 * V) = r2.2 * ((h * V - sv) * r3.2) := by
    have a1 : r2.2 * (r3.1 * V) = V * (r3.1 * (1 * r2.2)) := by grind
    have a2 : V * ((h * r2.2 - r2.1 * 1) * r3.2) = (h * V * r2.2 - r2.1 * V) * r3.2 := by grind
    have a3 : (h * V * r2.2 - sv * r2.2) * r3.2 = r2.2 * ((h * V - sv) * r3.2) := by grind
    rw [a1, e3, a2, e2, a3]
  exact Int.eq_of_mul_eq_mul_left (Int.ne_of_gt p2) k
end Wf

namespace Wf
/-! ### triples of whole numbers that tell dots over a scale -/
abbrev V3 := Int × Int × Int
/-- v tells A / N -/
structure VRel (N : Int) (v : V3) (A : Pt) : Prop where
  ex : ∃ i j : Int, 0 < i ∧ 0 < j ∧ i * v.1 = j * A.1 ∧ i * v.2.1 = j * A.2 ∧ i * v.2.2 = j * N
/-- s tells the half-plane n · P ≤ n · A / N -/
structure SRel (N : Int) (s : V3) (sd : Sd) : Prop where
  ex : ∃ i j : Int, 0 < i ∧ 0 < j ∧ i * s.1 = j * (N * sd.1.1) ∧ i * s.2.1 = j * (N * sd.1.2) ∧ i * s.2.2 = j * dt sd.1 sd.2
/-- s is raw reduced -/
structure L3 (raw s : V3) : Prop where
  ex : ∃ g : Int, 0 < g ∧ g * s.1 = raw.1 ∧ g * s.2.1 = raw.2.1 ∧ g * s.2.2 = raw.2.2
  b1 : s.1.natAbs ≤ raw.1.natAbs
  b2 : s.2.1.natAbs ≤ raw.2.1.natAbs
  b3 : s.2.2.natAbs ≤ raw.2.2.natAbs
  one : gcdl [s.1, s.2.1, s.2.2] = 1
theorem l3_of {x y z : Int} (h : 0 < gcdl [x, y, z]) : L3 (x, y, z) (x / gcdl [x, y, z], y / gcdl [x, y, z], z / gcdl [x, y, z]) := by
  obtain ⟨a1, a2⟩ := low_at h (n := x) (by simp)
  obtain ⟨b1, b2⟩ := low_at h (n := y) (by simp)
  obtain ⟨c1, c2⟩ := low_at h (n := z) (by simp)
  exact ⟨⟨_, h, a1, b1, c1⟩, a2, b2, c2, gcdl_div h⟩
theorem VRel.pos {N : Int} {v : V3} {A : Pt} (h : VRel N v A) (hN : 0 < N) : 0 < v.2.2 := by
  obtain ⟨i, j, hi, hj, _, _, e⟩ := h.ex
  exact pos_of_mul hi (by rw [e]; exact mul_pp hj hN)
theorem SRel.par {N : Int} {s : V3} {n n' A : Pt} (h : SRel N s (n, A)) (p : Par n n') : SRel N s (n', A) := by
  obtain ⟨i, j, hi, hj, e1, e2, e3⟩ := h.ex
  obtain ⟨a, b, ha, hb, q1, q2⟩ := p
  simp only [dt] at *
  refine ⟨i * a, j * b, mul_pp hi ha, mul_pp hj hb, ?_, ?_, ?_⟩
  · have : i * a * s.1 = a * (i * s.1) := by grind
    simp only
    rw [this, e1]
    have : a * (j * (N * n.1)) = j * N * (a * n.1) := by grind
    rw [this, q1]; grind
  · have : i * a * s.2.1 = a * (i * s.2.1) := by grind
    simp only
    rw [this, e2]
    have : a * (j * (N * n.2)) = j * N * (a * n.2) := by grind
    rw [this, q2]; grind
  · have : i * a * s.2.2 = a * (i * s.2.2) := by grind
    simp only [dt]
    rw [this, e3]
    have : a * (j * (n.1 * A.1 + n.2 * A.2)) = j * ((a * n.1) * A.1 + (a * n.2) * A.2) := by grind
    rw [this, q1, q2]; grind
/-- the side with a normal at a point -/
theorem srel_at {N : Int} {p s : V3} {n A : Pt} (h : VRel N p A) (l : L3 (n.1 * p.2.2, n.2 * p.2.2, n.1 * p.1 + n.2 * p.2.1) s) : SRel N s (n, A) := by
  obtain ⟨i, j, hi, hj, e1, e2, e3⟩ := h.ex
  obtain ⟨g, hg, q1, q2, q3⟩ := l.ex
  simp only at q1 q2 q3
  refine ⟨i * g, j, mul_pp hi hg, hj, ?_, ?_, ?_⟩
  · simp only
    have : i * g * s.1 = i * (g * s.1) := by grind
    rw [this, q1]
    have : i * (n.1 * p.2.2) = n.1 * (i * p.2.2) := by grind
    rw [this, e3]; grind
  · simp only
    have : i * g * s.2.1 = i * (g * s.2.1) := by grind
    rw [this, q2]
    have : i * (n.2 * p.2.2) = n.2 * (i * p.2.2) := by grind
    rw [this, e3]; grind
  · simp only [dt]
    have : i * g * s.2.2 = i * (g * s.2.2) := by grind
    rw [this, q3]
    have : i * (n.1 * p.1 + n.2 * p.2.1) = n.1 * (i * p.1) + n.2 * (i * p.2.1) := by grind
    rw [this, e1, e2]; grind
/-- the way from a point to another one -/
abbrev stp (u v : V3) : Pt := (v.1 * u.2.2 - u.1 * v.2.2, v.2.1 * u.2.2 - u.2.1 * v.2.2)
theorem stp_par {N : Int} {u v : V3} {A B : Pt} (hN : 0 < N) (h : VRel N u A) (k : VRel N v B) : Par (stp u v) (sb B A) := by
  obtain ⟨i, j, hi, hj, e1, e2, e3⟩ := h.ex
  obtain ⟨a, b, ha, hb, q1, q2, q3⟩ := k.ex
  refine ⟨i * a, j * b * N, mul_pp hi ha, mul_pp (mul_pp hj hb) hN, ?_, ?_⟩
  · simp only [sb]
    have : i * a * (v.1 * u.2.2 - u.1 * v.2.2) = (a * v.1) * (i * u.2.2) - (i * u.1) * (a * v.2.2) := by grind
    rw [this, q1, e3, e1, q3]; grind
  · simp only [sb]
    have : i * a * (v.2.1 * u.2.2 - u.2.1 * v.2.2) = (a * v.2.1) * (i * u.2.2) - (i * u.2.1) * (a * v.2.2) := by grind
    rw [this, q2, e3, e2, q3]; grind
theorem Par.rot {u v : Pt} (h : Par u v) : Par (u.2, - u.1) (v.2, - v.1) := by
  obtain ⟨l, m, a, b, c, d⟩ := h
  exact ⟨l, m, a, b, d, by simp only; grind⟩
theorem Par.neg {u v : Pt} (h : Par u v) : Par (- u.1, - u.2) (- v.1, - v.2) := by
  obtain ⟨l, m, a, b, c, d⟩ := h
  exact ⟨l, m, a, b, by simp only; grind, by simp only; grind⟩
theorem Par.nz {u v : Pt} (h : Par u v) (hv : v ≠ (0, 0)) : u ≠ (0, 0) := fun e => by
  obtain ⟨l, m, a, b, c, d⟩ := h
  rw [e] at c d
  simp only [Int.mul_zero] at c d
  have c1 : v.1 = 0 := zero_of_mul b c.symm
  have d1 : v.2 = 0 := zero_of_mul b d.symm
  exact hv (Prod.ext c1 d1)
/-- a · x + b · y - h · w -/
abbrev val (s v : V3) : Int := s.1 * v.1 + s.2.1 * v.2.1 - s.2.2 * v.2.2
theorem val_out {N : Int} {s v : V3} {sd : Sd} {B : Pt} (hN : 0 < N) (h : SRel N s sd) (k : VRel N v B) : ∃ l m : Int, 0 < l ∧ 0 < m ∧ l * val s v = m * out sd B := by
  obtain ⟨i, j, hi, hj, e1, e2, e3⟩ := h.ex
  obtain ⟨a, b, ha, hb, q1, q2, q3⟩ := k.ex
  refine ⟨i * a, j * b * N, mul_pp hi ha, mul_pp (mul_pp hj hb) hN, ?_⟩
  simp only [val, out, sb]
  have : i * a * (s.1 * v.1 + s.2.1 * v.2.1 - s.2.2 * v.2.2) = (i * s.1) * (a * v.1) + (i * s.2.1) * (a * v.2.1) - (i * s.2.2) * (a * v.2.2) := by grind
  rw [this, e1, e2, e3, q1, q2, q3]
  simp only [dt]
  grind
theorem val_neg {N : Int} {s v : V3} {sd : Sd} {B : Pt} (hN : 0 < N) (h : SRel N s sd) (k : VRel N v B) : (val s v < 0 ↔ out sd B < 0) ∧ (val s v ≤ 0 ↔ out sd B ≤ 0) ∧ (val s v = 0 ↔ out sd B = 0) := by
  obtain ⟨l, m, hl, hm, e⟩ := val_out hN h k
  obtain ⟨a1, a2, a3⟩ := sgn_of hl hm e
  obtain ⟨b1, b2, b3⟩ := sgn_of hm hl e.symm
  refine ⟨⟨a2, b2⟩, ⟨fun z => ?_, fun z => ?_⟩, ⟨a3, b3⟩⟩
  · rcases Int.lt_or_eq_of_le z with q | q
    · exact Int.le_of_lt (a2 q)
    · exact Int.le_of_eq (a3 q)
  · rcases Int.lt_or_eq_of_le z with q | q
    · exact Int.le_of_lt (b2 q)
    · exact Int.le_of_eq (b3 q)
/-! ### rows that fit each other -/
structure All2 {α β : Type} (R : α → β → Prop) (S : List α) (M : List β) : Prop where
  len : S.length = M.length
  at_ : ∀ (i : Nat) (s : α) (m : β), S[i]? = some s → M[i]? = some m → R s m
section
variable {α β : Type} {R : α → β → Prop} {S : List α} {M : List β}
theorem All2.lft (h : All2 R S M) {s : α} (hs : s ∈ S) : ∃ m, m ∈ M ∧ R s m := by
  obtain ⟨i, hi, e⟩ := List.mem_iff_getElem.mp hs
  have hm : i < M.length := by rw [← h.len]; exact hi
  exact ⟨M[i], List.getElem_mem hm, h.at_ i s M[i] (by rw [List.getElem?_eq_getElem hi, e]) (List.getElem?_eq_getElem hm)⟩
theorem All2.rgt (h : All2 R S M) {m : β} (hm : m ∈ M) : ∃ s, s ∈ S ∧ R s m := by
  obtain ⟨i, hi, e⟩ := List.mem_iff_getElem.mp hm
  have hs : i < S.length := by rw [h.len]; exact hi
  exact ⟨S[i], List.getElem_mem hs, h.at_ i S[i] m (List.getElem?_eq_getElem hs) (by rw [List.getElem?_eq_getElem hi, e])⟩
end
/-- the gains and rooms of sides along a bearing, for a velocity -/
def grOf (S : List V3) (b v : V3) : List GR := S.map fun s => (s.1 * b.1 + s.2.1 * b.2.1, s.2.2 * v.2.2 - (s.1 * v.1 + s.2.1 * v.2.1))
theorem rayG_iff {N : Int} {S : List V3} {M : List Sd} {b v : V3} {d B : Pt} (hN : 0 < N) (h : All2 (SRel N) S M) (k : VRel N v B) (p : Par (b.1, b.2.1) d) : RayG (grOf S b v) ↔ Ray M B d := by
  obtain ⟨i', j', hi', hj', q1, q2, q3⟩ := k.ex
  obtain ⟨l, m, hl, hm, c1, c2⟩ := p
  simp only at c1 c2
  -- one side: both inequalities are the same one
  have one : ∀ (s : V3) (sd : Sd) (P Q P' Q' K : Int), SRel N s sd → 0 < K → P * i' * m = K * P' → Q * l * j' = K * Q' →
      (P * (s.1 * b.1 + s.2.1 * b.2.1) ≤ Q * (s.2.2 * v.2.2 - (s.1 * v.1 + s.2.1 * v.2.1)) ↔ P' * dt sd.1 d ≤ Q' * (- out sd B)) := by
    intro s sd P Q P' Q' K hs hK eP eQ
    obtain ⟨i, j, hi, hj, e1, e2, e3⟩ := hs.ex
    have g : i * i' * l * (P * (s.1 * b.1 + s.2.1 * b.2.1) - Q * (s.2.2 * v.2.2 - (s.1 * v.1 + s.2.1 * v.2.1))) = j * N * K * (P' * dt sd.1 d - Q' * (- out sd B)) := by
      have a1 : i * i' * l * (P * (s.1 * b.1 + s.2.1 * b.2.1) - Q * (s.2.2 * v.2.2 - (s.1 * v.1 + s.2.1 * v.2.1))) = P * i' * ((i * s.1) * (l * b.1) + (i * s.2.1) * (l * b.2.1)) - Q * l * ((i * s.2.2) * (i' * v.2.2) - ((i * s.1) * (i' * v.1) + (i * s.2.1) * (i' * v.2.1))) := by grind
      rw [a1, e1, e2, e3, q1, q2, q3, c1, c2]
      have a2 : P * i' * (j * (N * sd.1.1) * (m * d.1) + j * (N * sd.1.2) * (m * d.2)) = j * N * (P * i' * m) * (sd.1.1 * d.1 + sd.1.2 * d.2) := by grind
      have a3 : Q * l * (j * dt sd.1 sd.2 * (j' * N) - (j * (N * sd.1.1) * (j' * B.1) + j * (N * sd.1.2) * (j' * B.2))) = j * N * (Q * l * j') * (- out sd B) := by
        simp only [out, dt, sb]; grind
      rw [a2, a3, eP, eQ]
      simp only [dt]
      grind
    obtain ⟨s1, s2, s3⟩ := sgn_of (mul_pp (mul_pp hi hi') hl) (mul_pp (mul_pp hj hN) hK) g
    obtain ⟨t1, t2, t3⟩ := sgn_of (mul_pp (mul_pp hj hN) hK) (mul_pp (mul_pp hi hi') hl) g.symm
    constructor
    · intro z
      rcases Int.lt_trichotomy (P' * dt sd.1 d - Q' * (- out sd B)) 0 with w | w | w
      · omega
      · omega
      · have := t1 w; omega
    · intro z
      rcases Int.lt_trichotomy (P * (s.1 * b.1 + s.2.1 * b.2.1) - Q * (s.2.2 * v.2.2 - (s.1 * v.1 + s.2.1 * v.2.1))) 0 with w | w | w
      · omega
      · omega
      · have := s1 w; omega
  constructor
  · rintro ⟨P, Q, hP, hQ, all⟩
    refine ⟨P * i' * m, Q * l * j', mul_pp (mul_pp hP hi') hm, mul_pp (mul_pp hQ hl) hj', fun sd hsd => ?_⟩
    obtain ⟨s, hs, r⟩ := h.rgt hsd
    exact (one s sd P Q _ _ 1 r (by decide) (by rw [Int.one_mul]) (by rw [Int.one_mul])).mp (all _ (List.mem_map.mpr ⟨s, hs, rfl⟩))
  · rintro ⟨P, Q, hP, hQ, all⟩
    refine ⟨P * (l * j'), Q * (i' * m), mul_pp hP (mul_pp hl hj'), mul_pp hQ (mul_pp hi' hm), fun x hx => ?_⟩
    obtain ⟨s, hs, rfl⟩ := List.mem_map.mp hx
    obtain ⟨sd, hsd, r⟩ := h.lft hs
    exact (one s sd _ _ P Q (l * j' * i' * m) r (mul_pp (mul_pp (mul_pp hl hj') hi') hm) (by grind) (by grind)).mpr (all sd hsd)
end Wf

namespace Wf
/-! ### reduced triples are told by their direction -/
theorem fold_mul : ∀ (ns : List Int) (f k m : Int), k ∣ m * f → (∀ n ∈ ns, k ∣ m * n) → k ∣ m * ns.foldl (fun f n => ((Nat.gcd f.natAbs n.natAbs : Nat) : Int)) f
  | [], f, k, m, h, _ => h
  | a :: ns, f, k, m, h, hn => by
    refine fold_mul ns _ k m ?_ fun n q => hn n (List.mem_cons_of_mem _ q)
    have h1 := Int.natAbs_dvd_natAbs.mpr h
    have h2 := Int.natAbs_dvd_natAbs.mpr (hn a List.mem_cons_self)
    rw [Int.natAbs_mul] at h1 h2
    have h3 := Nat.dvd_gcd h1 h2
    rw [Nat.gcd_mul_left] at h3
    refine Int.natAbs_dvd_natAbs.mp ?_
    rw [Int.natAbs_mul]
    exact h3
theorem dvd_mul_gcdl {ns : List Int} {k m : Int} (h : ∀ n ∈ ns, k ∣ m * n) : k ∣ m * gcdl ns := fold_mul ns 0 k m (by simp) h
theorem low_same {s t : V3} {k m : Int} (hk : 0 < k) (hm : 0 < m) (h1 : gcdl [s.1, s.2.1, s.2.2] = 1) (h2 : gcdl [t.1, t.2.1, t.2.2] = 1) (e1 : k * s.1 = m * t.1) (e2 : k * s.2.1 = m * t.2.1) (e3 : k * s.2.2 = m * t.2.2) : s = t := by
  have a : k ∣ m := by
    have : k ∣ m * gcdl [t.1, t.2.1, t.2.2] := dvd_mul_gcdl fun n hn => by
      simp only [List.mem_cons, List.not_mem_nil, or_false] at hn
      rcases hn with rfl | rfl | rfl
      · exact ⟨_, e1.symm⟩
      · exact ⟨_, e2.symm⟩
      · exact ⟨_, e3.symm⟩
    rw [h2, Int.mul_one] at this
    exact this
  have b : m ∣ k := by
    have : m ∣ k * gcdl [s.1, s.2.1, s.2.2] := dvd_mul_gcdl fun n hn => by
      simp only [List.mem_cons, List.not_mem_nil, or_false] at hn
      rcases hn with rfl | rfl | rfl
      · exact ⟨_, e1⟩
      · exact ⟨_, e2⟩
      · exact ⟨_, e3⟩
    rw [h1, Int.mul_one] at this
    exact this
  have e : k = m := Int.le_antisymm (Int.le_of_dvd hm a) (Int.le_of_dvd hk b)
  subst e
  have c1 := Int.eq_of_mul_eq_mul_left (by omega) e1
  have c2 := Int.eq_of_mul_eq_mul_left (by omega) e2
  have c3 := Int.eq_of_mul_eq_mul_left (by omega) e3
  exact Prod.ext c1 (Prod.ext c2 c3)
theorem l3_same {a b : V3} {s t : V3} {k : Int} (hk : 0 < k) (ha : L3 a s) (hb : L3 b t) (e1 : a.1 = k * b.1) (e2 : a.2.1 = k * b.2.1) (e3 : a.2.2 = k * b.2.2) : s = t := by
  obtain ⟨g, hg, p1, p2, p3⟩ := ha.ex
  obtain ⟨g', hg', q1, q2, q3⟩ := hb.ex
  refine low_same hg (mul_pp hk hg') ha.one hb.one ?_ ?_ ?_
  · rw [p1, e1, ← q1]; grind
  · rw [p2, e2, ← q2]; grind
  · rw [p3, e3, ← q3]; grind
/-! ### the least common multiple -/
def lcml (ns : List Int) : Int := ns.foldl (fun f n => ((Nat.lcm f.natAbs n.natAbs : Nat) : Int)) 1
theorem lcm_fold : ∀ (ns : List Int) (f : Int), f ∣ ns.foldl (fun f n => ((Nat.lcm f.natAbs n.natAbs : Nat) : Int)) f ∧ ∀ n ∈ ns, n ∣ ns.foldl (fun f n => ((Nat.lcm f.natAbs n.natAbs : Nat) : Int)) f
  | [], f => ⟨Int.dvd_refl f, fun n h => (nomatch h)⟩
  | a :: ns, f => by
    obtain ⟨h1, h2⟩ := lcm_fold ns ((Nat.lcm f.natAbs a.natAbs : Nat) : Int)
    have x : f ∣ ((Nat.lcm f.natAbs a.natAbs : Nat) : Int) := Int.natAbs_dvd.mp (Int.natCast_dvd_natCast.mpr (Nat.dvd_lcm_left _ _))
    have y : a ∣ ((Nat.lcm f.natAbs a.natAbs : Nat) : Int) := Int.natAbs_dvd.mp (Int.natCast_dvd_natCast.mpr (Nat.dvd_lcm_right _ _))
    refine ⟨Int.dvd_trans x h1, fun n hn => ?_⟩
    rcases List.mem_cons.mp hn with e | hn
    · rw [e]; exact Int.dvd_trans y h1
    · exact h2 n hn
theorem lcm_dvd_fold : ∀ (ns : List Int) (f m : Int), f ∣ m → (∀ n ∈ ns, n ∣ m) → ns.foldl (fun f n => ((Nat.lcm f.natAbs n.natAbs : Nat) : Int)) f ∣ m
  | [], f, m, h, _ => h
  | a :: ns, f, m, h, k => lcm_dvd_fold ns _ m (by
    have x := Int.natAbs_dvd_natAbs.mpr h
    have y := Int.natAbs_dvd_natAbs.mpr (k a List.mem_cons_self)
    exact Int.dvd_natAbs.mp (Int.natCast_dvd_natCast.mpr (Nat.lcm_dvd x y))) fun n hn => k n (List.mem_cons_of_mem _ hn)
theorem lcml_dvd {ns : List Int} {m : Int} (h : ∀ n ∈ ns, n ∣ m) : lcml ns ∣ m := lcm_dvd_fold ns 1 m (Int.one_dvd m) h
theorem dvd_lcml {ns : List Int} {n : Int} (h : n ∈ ns) : n ∣ lcml ns := (lcm_fold ns 1).2 n h
theorem lcm_nn : ∀ (ns : List Int) (f : Int), 0 ≤ f → 0 ≤ ns.foldl (fun f n => ((Nat.lcm f.natAbs n.natAbs : Nat) : Int)) f
  | [], f, h => h
  | m :: ns, f, h => lcm_nn ns _ (Int.natCast_nonneg _)
theorem lcml_pos {ns : List Int} {m : Int} (hm : 0 < m) (h : ∀ n ∈ ns, n ∣ m) : 0 < lcml ns ∧ lcml ns ≤ m := by
  have d := lcml_dvd h
  have n0 : 0 ≤ lcml ns := lcm_nn ns 1 (by decide)
  refine ⟨?_, Int.le_of_dvd hm d⟩
  rcases Int.lt_or_eq_of_le n0 with q | q
  · exact q
  · rw [← q] at d
    have := Int.zero_dvd.mp d
    omega
end Wf

namespace Wf
/-! ### the sides of a cone of bearings -/
theorem sides_nz {D : List Pt} (C : Cvx D) : ∀ sd ∈ sidesOf D, sd.1 ≠ (0, 0) := by
  intro sd hsd e
  obtain ⟨sd2, h2, hp⟩ := sides_bound C (d := (1, 0)) (by decide)
  by_cases h1 : D.length = 1
  · obtain ⟨a, rfl⟩ := len1 h1
    simp only [sidesOf] at hsd
    simp at hsd
    rcases hsd with rfl | rfl | rfl | rfl <;> simp at e
  · by_cases h3 : D.length = 2
    · have ne := C.two h3
      obtain ⟨a, b, rfl⟩ := len2 h3
      have q : (a.1 = b.1 ∧ a.2 = b.2) → False := fun z => ne (by simp only [gt]; exact Prod.ext z.1 z.2)
      simp only [sidesOf, gt] at hsd
      simp at hsd
      rcases hsd with rfl | rfl | rfl | rfl <;> (simp at e; exact q (by omega))
    · have h4 : 3 ≤ D.length := by have := C.ne; omega
      obtain ⟨i, hi, rfl⟩ := (mem_sides3 h4).mp hsd
      have t := C.turn h4 i hi
      have e1 := congrArg Prod.fst e
      have e2 := congrArg Prod.snd e
      simp only [left] at e1 e2
      simp only [bend] at t
      have z1 : (gt D (nx D.length i)).1 - (gt D i).1 = 0 := by omega
      have z2 : (gt D (nx D.length i)).2 - (gt D i).2 = 0 := by omega
      rw [z1, z2] at t
      simp at t
/-- r has the direction of (a, b) -/
def Dir (r : V3) (n : Pt) : Prop := ∃ g : Int, 0 < g ∧ g * r.1 = n.1 ∧ g * r.2.1 = n.2
theorem Dir.le {r : V3} {n d : Pt} (h : Dir r n) : r.1 * d.1 + r.2.1 * d.2 ≤ 0 ↔ n.1 * d.1 + n.2 * d.2 ≤ 0 := by
  obtain ⟨g, hg, e1, e2⟩ := h
  have e : g * (r.1 * d.1 + r.2.1 * d.2) = 1 * (n.1 * d.1 + n.2 * d.2) := by rw [← e1, ← e2]; grind
  obtain ⟨a1, a2, a3⟩ := sgn_of hg (by decide) e
  obtain ⟨b1, b2, b3⟩ := sgn_of (by decide) hg e.symm
  constructor <;> intro z
  · rcases Int.lt_or_eq_of_le z with q | q
    · exact Int.le_of_lt (a2 q)
    · exact Int.le_of_eq (a3 q)
  · rcases Int.lt_or_eq_of_le z with q | q
    · exact Int.le_of_lt (b2 q)
    · exact Int.le_of_eq (b3 q)
theorem l3_dir {a b : Int} {r : V3} (h : L3 (a, b, 0) r) : Dir r (a, b) ∧ r.2.2 = 0 := by
  obtain ⟨g, hg, e1, e2, e3⟩ := h.ex
  exact ⟨⟨g, hg, e1, e2⟩, zero_of_mul hg e3⟩
/-- a side's normal and its half-plane's -/
theorem SRel.sgn {N : Int} {s : V3} {sd : Sd} {d : Pt} (hN : 0 < N) (h : SRel N s sd) : s.1 * d.1 + s.2.1 * d.2 ≤ 0 ↔ dt sd.1 d ≤ 0 := by
  obtain ⟨i, j, hi, hj, e1, e2, _⟩ := h.ex
  have e : i * (s.1 * d.1 + s.2.1 * d.2) = j * N * dt sd.1 d := by
    have : i * (s.1 * d.1 + s.2.1 * d.2) = (i * s.1) * d.1 + (i * s.2.1) * d.2 := by grind
    rw [this, e1, e2]; simp only [dt]; grind
  obtain ⟨a1, a2, a3⟩ := sgn_of hi (mul_pp hj hN) e
  obtain ⟨b1, b2, b3⟩ := sgn_of (mul_pp hj hN) hi e.symm
  constructor <;> intro z
  · rcases Int.lt_or_eq_of_le z with q | q
    · exact Int.le_of_lt (a2 q)
    · exact Int.le_of_eq (a3 q)
  · rcases Int.lt_or_eq_of_le z with q | q
    · exact Int.le_of_lt (b2 q)
    · exact Int.le_of_eq (b3 q)
theorem SRel.nz {N : Int} {s : V3} {sd : Sd} (hN : 0 < N) (h : SRel N s sd) (k : sd.1 ≠ (0, 0)) : ¬ (s.1 = 0 ∧ s.2.1 = 0) := fun ⟨z1, z2⟩ => by
  obtain ⟨i, j, hi, hj, e1, e2, _⟩ := h.ex
  rw [z1, Int.mul_zero] at e1
  rw [z2, Int.mul_zero] at e2
  have a := zero_of_mul hN (zero_of_mul hj e1.symm)
  have b := zero_of_mul hN (zero_of_mul hj e2.symm)
  exact k (Prod.ext a b)
/-- from a place on the rim -/
theorem tight_iff {N : Int} {S R : List V3} {D : List Pt} {v : V3} {B d : Pt} (hN : 0 < N) (C : Cvx D) (hd : d ≠ (0, 0)) (rel : All2 (SRel N) S (sidesOf D)) (vr : VRel N v B) (held : ∀ s ∈ sidesOf D, out s B ≤ 0)
    (to : ∀ r ∈ R, ∃ s ∈ S, val s v = 0 ∧ Dir r (s.1, s.2.1)) (back : ∀ s ∈ S, val s v = 0 → ∃ r ∈ R, Dir r (s.1, s.2.1)) : (∀ r ∈ R, r.1 * d.1 + r.2.1 * d.2 ≤ 0) ↔ Hit D B d := by
  rw [← ray_iff C hd, ray_held held]
  constructor
  · intro h sd hsd h0
    obtain ⟨s, hs, rs⟩ := rel.rgt hsd
    obtain ⟨r, hr, dr⟩ := back s hs ((val_neg hN rs vr).2.2.mpr h0)
    exact (rs.sgn hN).mp (dr.le.mp (h r hr))
  · intro h r hr
    obtain ⟨s, hs, h0, dr⟩ := to r hr
    obtain ⟨sd, hsd, rs⟩ := rel.lft hs
    exact dr.le.mpr ((rs.sgn hN).mpr (h sd hsd ((val_neg hN rs vr).2.2.mp h0)))
/-- from a place outside -/
theorem out_cone {N : Int} {L : List V3} {D : List Pt} {v : V3} {B : Pt} (hN : 0 < N) (C : Cvx D) (rel : All2 (VRel N) L D) (vr : VRel N v B) (no : ¬ ∀ s ∈ sidesOf D, out s B ≤ 0) :
    let T := L.map (stp v)
    let x := fstOf (T.getD 0 (0, 0)) T
    let y := lstOf (T.getD 0 (0, 0)) T
    x ≠ (0, 0) ∧ y ≠ (0, 0) ∧ x ∈ T ∧ y ∈ T ∧ ∀ d : Pt, d ≠ (0, 0) → ((0 ≤ cr x d ∧ 0 ≤ cr d y ∧ (cr x y = 0 → 0 ≤ dt x d)) ↔ Hit D B d) := by
  intro T x y
  have ⟨sd, hsd, hp⟩ : ∃ sd ∈ sidesOf D, 0 < out sd B := by
    refine Classical.byContradiction fun h => no fun s hs => ?_
    exact Int.not_lt.mp fun q => h ⟨s, hs, q⟩
  have hn : ∀ t, t ∈ T → dt sd.1 t < 0 := fun t ht => by
    obtain ⟨u, hu, rfl⟩ := List.mem_map.mp ht
    obtain ⟨A, hA, ru⟩ := rel.lft hu
    obtain ⟨l, m, hl, hm, e1, e2⟩ := stp_par hN vr ru
    have hold := sides_hold C sd hsd A hA
    have k : dt sd.1 (sb A B) = out sd A - out sd B := by simp only [out, dt, sb]; grind
    have e : l * dt sd.1 (stp v u) = m * dt sd.1 (sb A B) := by
      have : l * dt sd.1 (stp v u) = sd.1.1 * (l * (stp v u).1) + sd.1.2 * (l * (stp v u).2) := by simp only [dt]; grind
      rw [this, e1, e2]; simp only [dt]; grind
    exact (sgn_of hm hl e.symm).2.1 (by omega)
  have lpos : 0 < T.length := by
    have a := C.ne
    have b := rel.len
    show 0 < (L.map (stp v)).length
    rw [List.length_map]
    omega
  have m0 : T.getD 0 (0, 0) ∈ T := by simp [lpos]
  have h0 := hn _ m0
  obtain ⟨f1, f2⟩ := fst_ok (n := sd.1) T (T.getD 0 (0, 0)) [] h0 hn (fun t ht => (nomatch ht))
  obtain ⟨l1, l2⟩ := lst_ok (n := sd.1) T (T.getD 0 (0, 0)) [] h0 hn (fun t ht => (nomatch ht))
  have hx : x ∈ T := f1.elim (fun e => by show fstOf _ _ ∈ T; rw [e]; exact m0) id
  have hy : y ∈ T := l1.elim (fun e => by show lstOf _ _ ∈ T; rw [e]; exact m0) id
  have nz : ∀ t, t ∈ T → t ≠ (0, 0) := fun t ht e => by
    have := hn t ht
    rw [e] at this
    simp [dt] at this
  refine ⟨nz x hx, nz y hy, hx, hy, fun d hd => ?_⟩
  rw [← cone_iff hn hx hy (fun t ht => f2 t (.inr (.inl ht))) (fun t ht => l2 t (.inr (.inl ht))) hd, hit_steps]
  constructor
  · exact hitS_par fun t ht => by
      obtain ⟨u, hu, rfl⟩ := List.mem_map.mp ht
      obtain ⟨A, hA, ru⟩ := rel.lft hu
      exact ⟨sb A B, List.mem_map.mpr ⟨A, hA, rfl⟩, stp_par hN vr ru⟩
  · exact hitS_par fun t ht => by
      obtain ⟨A, hA, rfl⟩ := List.mem_map.mp ht
      obtain ⟨u, hu, ru⟩ := rel.rgt hA
      exact ⟨stp v u, List.mem_map.mpr ⟨u, hu, rfl⟩, (stp_par hN vr ru).symm⟩
theorem strict_hit {D : List Pt} {B d : Pt} (C : Cvx D) (hd : d ≠ (0, 0)) (h : ∀ s ∈ sidesOf D, out s B < 0) : Hit D B d :=
  (ray_iff C hd).mp ((ray_held fun s hs => Int.le_of_lt (h s hs)).mpr fun s hs e => absurd e (Int.ne_of_lt (h s hs)))
end Wf

namespace Wf
/-! ### the law's own line through the hull -/
/-- the steps from a corner to the dots of a rim over a scale -/
abbrev stepsOf (R : List Pt) (sc : Int) (v : V3) : List Pt := R.map fun p => (p.1 * v.2.2 - v.1 * sc, p.2 * v.2.2 - v.2.1 * sc)
/-- what two steps show -/
def PairHit (d s t : Pt) : Prop := (cr d s = 0 ∧ 0 < dt d s) ∨ (cr d t = 0 ∧ 0 < dt d t) ∨ (cr d s * cr d t < 0 ∧ 0 < (dt d s * cr d t - dt d t * cr d s) * (cr d t - cr d s))
theorem neg_of_mulneg {a b : Int} (h : a * b < 0) : (a < 0 ∧ 0 < b) ∨ (0 < a ∧ b < 0) := by
  rcases Int.lt_trichotomy a 0 with q | q | q
  · left
    refine ⟨q, ?_⟩
    have : 0 < (-a) * b ∨ (-a) * b ≤ 0 := by omega
    rcases this with z | z
    · exact pos_of_mul (by omega) z
    · have : (-a) * b = -(a * b) := by grind
      omega
  · subst q; simp at h
  · right
    refine ⟨q, ?_⟩
    have : 0 < a * (-b) := by
      have : a * (-b) = -(a * b) := by grind
      omega
    have := pos_of_mul q this
    omega
theorem pair_hit {T : List Pt} {d s t : Pt} (hs : s ∈ T) (ht : t ∈ T) (h : PairHit d s t) : HitS T d := by
  rcases h with ⟨h1, h2⟩ | ⟨h1, h2⟩ | ⟨h1, h2⟩
  · exact .inl ⟨s, hs, h1, h2⟩
  · exact .inl ⟨t, ht, h1, h2⟩
  · rcases neg_of_mulneg h1 with ⟨a, b⟩ | ⟨a, b⟩
    · refine .inr ⟨s, t, hs, ht, a, b, ?_⟩
      refine pos_of_mul (a := cr d t - cr d s) (by omega) ?_
      rw [Int.mul_comm]; exact h2
    · refine .inr ⟨t, s, ht, hs, b, a, ?_⟩
      refine pos_of_mul (a := cr d s - cr d t) (by omega) ?_
      have e : (cr d s - cr d t) * (dt d t * cr d s - dt d s * cr d t) = (dt d s * cr d t - dt d t * cr d s) * (cr d t - cr d s) := by grind
      rw [e]; exact h2
theorem hitS_pairs {T : List Pt} {d : Pt} : HitS T d ↔ ∃ j i, i ≤ j ∧ j < T.length ∧ PairHit d (gt T i) (gt T j) := by
  constructor
  · rintro (⟨t, ht, h1, h2⟩ | ⟨t, u, ht, hu, h1, h2, h3⟩)
    · obtain ⟨i, hi, e⟩ := mem_gt ht
      exact ⟨i, i, Nat.le_refl _, hi, .inl (by rw [e]; exact ⟨h1, h2⟩)⟩
    · obtain ⟨i, hi, e⟩ := mem_gt ht
      obtain ⟨j, hj, e'⟩ := mem_gt hu
      rcases Nat.le_total i j with q | q
      · refine ⟨j, i, q, hj, .inr (.inr ?_)⟩
        rw [e, e']
        exact ⟨Int.mul_neg_of_neg_of_pos h1 h2, mul_pp h3 (by omega)⟩
      · refine ⟨i, j, q, hi, .inr (.inr ?_)⟩
        rw [e, e']
        refine ⟨Int.mul_neg_of_pos_of_neg h2 h1, ?_⟩
        have e2 : (dt d u * cr d t - dt d t * cr d u) * (cr d t - cr d u) = (dt d t * cr d u - dt d u * cr d t) * (cr d u - cr d t) := by grind
        rw [e2]
        exact mul_pp h3 (by omega)
  · rintro ⟨j, i, hij, hj, h⟩
    exact pair_hit (gt_mem (by omega)) (gt_mem hj) h
/-- what is shown up to a pair -/
def Upto (T : List Pt) (d : Pt) (j i : Nat) : Prop := ∃ j' i', (j' < j ∧ i' ≤ j' ∨ j' = j ∧ i' < i) ∧ PairHit d (gt T i') (gt T j')
theorem upto_zero {T : List Pt} {d : Pt} : ¬ Upto T d 0 0 := fun ⟨j', i', h, _⟩ => by omega
theorem upto_row {T : List Pt} {d : Pt} {j : Nat} : Upto T d j (j + 1) ↔ Upto T d (j + 1) 0 := by
  constructor
  · rintro ⟨j', i', h, p⟩; exact ⟨j', i', by omega, p⟩
  · rintro ⟨j', i', h, p⟩; exact ⟨j', i', by omega, p⟩
theorem upto_next {T : List Pt} {d : Pt} {j i : Nat} : Upto T d j (i + 1) ↔ Upto T d j i ∨ PairHit d (gt T i) (gt T j) := by
  constructor
  · rintro ⟨j', i', h, p⟩
    by_cases q : j' = j ∧ i' = i
    · obtain ⟨rfl, rfl⟩ := q; exact .inr p
    · exact .inl ⟨j', i', by omega, p⟩
  · rintro (⟨j', i', h, p⟩ | p)
    · exact ⟨j', i', by omega, p⟩
    · exact ⟨j, i, by omega, p⟩
theorem upto_all {T : List Pt} {d : Pt} : Upto T d T.length 0 ↔ HitS T d := by
  rw [hitS_pairs]
  constructor
  · rintro ⟨j', i', h, p⟩; exact ⟨j', i', by omega, by omega, p⟩
  · rintro ⟨j', i', h1, h2, p⟩; exact ⟨j', i', by omega, p⟩
/-- the steps tell the hit -/
theorem steps_hit {R : List Pt} {cf cs : Int} {e d : Pt} {v : V3} (l : L3 (e.1, e.2, cs) v) (hf : 0 < cf) (hs : 0 < cs) : HitS (stepsOf R cf v) d ↔ Hit (R.map (ml cs)) (ml cf e) d := by
  rw [hit_steps, List.map_map]
  obtain ⟨g, hg, q1, q2, q3⟩ := l.ex
  simp only at q1 q2 q3
  have par : ∀ p : Pt, Par (p.1 * v.2.2 - v.1 * cf, p.2 * v.2.2 - v.2.1 * cf) (sb (ml cs p) (ml cf e)) := fun p => by
    refine ⟨g, 1, hg, by decide, ?_, ?_⟩
    · simp only [sb, ml]; rw [← q1, ← q3]; grind
    · simp only [sb, ml]; rw [← q2, ← q3]; grind
  constructor
  · intro h
    refine hitS_par (fun t ht => ?_) h
    obtain ⟨p, hp, rfl⟩ := List.mem_map.mp ht
    exact ⟨_, List.mem_map_of_mem hp, par p⟩
  · intro h
    refine hitS_par (fun t ht => ?_) h
    obtain ⟨p, hp, rfl⟩ := List.mem_map.mp ht
    exact ⟨_, List.mem_map_of_mem hp, (par p).symm⟩
/-- the sign of a reduced fraction -/
theorem rt_sign {o u : Int} {r : Pt} (hp : 0 < r.2) (he : r.1 * u = o * r.2) (h : u ≠ 0) : 0 < r.1 ↔ 0 < o * u := by
  have hu : 0 < u * u := by
    have := sq_pos (x := u) (y := 0) (by simp [h])
    simpa using this
  have e : (u * u) * r.1 = r.2 * (o * u) := by
    have : (u * u) * r.1 = (r.1 * u) * u := by grind
    rw [this, he]; grind
  constructor
  · intro q
    refine pos_of_mul hp ?_
    rw [← e]; exact mul_pp hu q
  · intro q
    refine pos_of_mul hu ?_
    rw [e]; exact mul_pp hp q
end Wf

namespace Wf
/-! ### directions in their order -/
def hlf (a : Pt) : Bool := decide (a.2 < 0) || (decide (a.2 = 0) && decide (a.1 < 0))
def bef (a b : Pt) : Bool := if hlf a ≠ hlf b then hlf b else decide (0 < cr a b)
theorem hlf_t {a : Pt} : hlf a = true ↔ a.2 < 0 ∨ a.2 = 0 ∧ a.1 < 0 := by simp [hlf]
theorem hlf_f {a : Pt} : hlf a = false ↔ 0 ≤ a.2 ∧ (a.2 = 0 → 0 ≤ a.1) := by
  rw [← Bool.not_eq_true, hlf_t]
  omega
theorem bef_ff {a b : Pt} (h : hlf a = hlf b) : bef a b = true ↔ 0 < cr a b := by simp [bef, h]
theorem bef_ne {a b : Pt} (h : hlf a ≠ hlf b) : bef a b = hlf b := by simp [bef, h]
theorem bef_asym {a b : Pt} (h : bef a b = true) : ¬ bef b a = true := by
  intro k
  by_cases q : hlf a = hlf b
  · rw [bef_ff q] at h
    rw [bef_ff q.symm] at k
    have := cr_swap a b
    omega
  · rw [bef_ne q] at h
    rw [bef_ne (Ne.symm q)] at k
    exact q (k.trans h.symm)
theorem bef_irr (a : Pt) : ¬ bef a a = true := fun h => bef_asym h h
theorem up_trans {a b c : Pt} (ha : 0 ≤ a.2 ∧ (a.2 = 0 → 0 ≤ a.1)) (hb : 0 ≤ b.2 ∧ (b.2 = 0 → 0 ≤ b.1)) (hc : 0 ≤ c.2 ∧ (c.2 = 0 → 0 ≤ c.1)) (h1 : 0 < cr a b) (h2 : 0 < cr b c) : 0 < cr a c := by
  obtain ⟨ax, ay⟩ := a
  obtain ⟨bx, b_⟩ := b
  obtain ⟨cx, cy⟩ := c
  simp only [cr] at *
  have id : b_ * (ax * cy - ay * cx) = cy * (ax * b_ - ay * bx) + ay * (bx * cy - b_ * cx) := by grind
  rcases Int.lt_or_le 0 b_ with q | q
  · refine pos_of_mul q ?_
    rw [id]
    have n1 := Int.mul_nonneg hc.1 (Int.le_of_lt h1)
    have n2 := Int.mul_nonneg ha.1 (Int.le_of_lt h2)
    rcases Int.lt_or_le 0 cy with z | z
    · have := mul_pp z h1
      omega
    · rcases Int.lt_or_le 0 ay with y | y
      · have := mul_pp y h2
        omega
      · have c0 : cy = 0 := by omega
        have a0 : ay = 0 := by omega
        subst c0 a0
        have := Int.mul_nonneg (Int.le_of_lt q) (hc.2 rfl)
        simp at h2
        omega
  · have b0 : b_ = 0 := by omega
    subst b0
    have := Int.mul_nonneg ha.1 (hb.2 rfl)
    simp at h1
    omega
theorem neg_up {a : Pt} (h : hlf a = true) : 0 ≤ (ng a).2 ∧ ((ng a).2 = 0 → 0 ≤ (ng a).1) := by
  rw [hlf_t] at h
  simp only [ng]
  omega
theorem cr_ng (a b : Pt) : cr (ng a) (ng b) = cr a b := by simp only [cr, ng]; grind
theorem bef_trans {a b c : Pt} (h1 : bef a b = true) (h2 : bef b c = true) : bef a c = true := by
  by_cases q : hlf a = hlf b
  · by_cases r : hlf b = hlf c
    · rw [bef_ff q] at h1
      rw [bef_ff r] at h2
      rw [bef_ff (q.trans r)]
      cases e : hlf b with
      | false =>
        exact up_trans (hlf_f.mp (q.trans e)) (hlf_f.mp e) (hlf_f.mp (r.symm.trans e)) h1 h2
      | true =>
        rw [← cr_ng] at h1 h2 ⊢
        exact up_trans (neg_up (q.trans e)) (neg_up e) (neg_up (r.symm.trans e)) h1 h2
    · rw [bef_ne r] at h2
      rw [bef_ne (by rw [q]; exact r)]
      exact h2
  · rw [bef_ne q] at h1
    by_cases r : hlf b = hlf c
    · rw [bef_ne (by rw [← r]; exact q), ← r]
      exact h1
    · rw [bef_ne r] at h2
      exact absurd (h1.trans h2.symm) r
theorem one_nz {a : Pt} (h : gcdl [a.1, a.2] = 1) : ¬ (a.1 = 0 ∧ a.2 = 0) := fun ⟨x, y⟩ => by
  rw [x, y] at h
  simp [gcdl] at h
theorem gcdl_pad (x y : Int) : gcdl [x, y, 0] = gcdl [x, y] := by simp [gcdl]
theorem bef_tri {a c : Pt} (ha : gcdl [a.1, a.2] = 1) (hc : gcdl [c.1, c.2] = 1) (hne : a ≠ c) (h : ¬ bef a c = true) : bef c a = true := by
  by_cases q : hlf a = hlf c
  · rw [bef_ff q] at h
    rw [bef_ff q.symm, cr_swap]
    rcases Int.lt_trichotomy (cr a c) 0 with z | z | z
    · omega
    · exfalso
      have na := one_nz ha
      have nc := one_nz hc
      have cc : 0 < c.1 * c.1 + c.2 * c.2 := sq_pos nc
      have aa : 0 < a.1 * a.1 + a.2 * a.2 := sq_pos na
      have e1 : (c.1 * c.1 + c.2 * c.2) * a.1 = dt a c * c.1 := by
        have : (c.1 * c.1 + c.2 * c.2) * a.1 = dt a c * c.1 + c.2 * cr a c := by simp only [dt, cr]; grind
        rw [this, z]; simp
      have e2 : (c.1 * c.1 + c.2 * c.2) * a.2 = dt a c * c.2 := by
        have : (c.1 * c.1 + c.2 * c.2) * a.2 = dt a c * c.2 - c.1 * cr a c := by simp only [dt, cr]; grind
        rw [this, z]; simp
      rcases Int.lt_trichotomy (dt a c) 0 with d | d | d
      · -- opposite
        have f1 : (c.1 * c.1 + c.2 * c.2) * a.1 = -((- dt a c) * c.1) := by rw [e1]; grind
        have f2 : (c.1 * c.1 + c.2 * c.2) * a.2 = -((- dt a c) * c.2) := by rw [e2]; grind
        have s1 := sgn_of (l := c.1 * c.1 + c.2 * c.2) (m := - dt a c) (x := a.1) (y := - c.1) cc (by omega) (by rw [f1]; grind)
        have s2 := sgn_of (l := c.1 * c.1 + c.2 * c.2) (m := - dt a c) (x := a.2) (y := - c.2) cc (by omega) (by rw [f2]; grind)
        cases e : hlf a with
        | false =>
          have ga := hlf_f.mp e
          have gc := hlf_f.mp (q.symm.trans e)
          rcases Int.lt_trichotomy a.2 0 with y | y | y
          · omega
          · have := s2.2.2 y
            have := ga.2 y
            have : 0 < a.1 := by
              rcases Int.lt_or_le 0 a.1 with t | t
              · exact t
              · exact absurd ⟨by omega, y⟩ na
            have := s1.1 this
            have := gc.2 (by omega)
            omega
          · have := s2.1 y
            omega
        | true =>
          have ga := hlf_t.mp e
          have gc := hlf_t.mp (q.symm.trans e)
          rcases ga with y | ⟨y, x⟩
          · have := s2.2.1 y
            omega
          · have := s2.2.2 y
            have := s1.2.1 x
            omega
      · rw [d] at e1 e2
        rw [Int.zero_mul] at e1 e2
        have a0 : a.1 = 0 := zero_of_mul cc e1
        have a1 : a.2 = 0 := zero_of_mul cc e2
        exact na ⟨a0, a1⟩
      · have := low_same (s := (a.1, a.2, 0)) (t := (c.1, c.2, 0)) cc d (by rw [gcdl_pad]; exact ha) (by rw [gcdl_pad]; exact hc) e1 e2 (by simp)
        refine hne (Prod.ext ?_ ?_)
        · exact congrArg (fun v : V3 => v.1) this
        · exact congrArg (fun v : V3 => v.2.1) this
    · exact absurd z h
  · rw [bef_ne q] at h
    rw [bef_ne (Ne.symm q)]
    cases e : hlf a with
    | true => rfl
    | false =>
      cases e2 : hlf c with
      | true => exact absurd e2 h
      | false => exact absurd (e.trans e2.symm) q

structure Turned (L : List Pt) : Prop where
  pw : L.Pairwise fun a b => bef a b = true
  one : ∀ p ∈ L, gcdl [p.1, p.2] = 1
theorem turned_nil : Turned [] := ⟨.nil, fun p hp => nomatch hp⟩
theorem bef_split (n : Pt) : ∀ {L : List Pt}, (L.Pairwise fun a b => bef a b = true) → ∃ A B, L = A ++ B ∧ (∀ a ∈ A, bef a n = true) ∧ (∀ b ∈ B, ¬ bef b n = true) ∧ A.length = (L.filter (bef · n)).length
  | [], _ => ⟨[], [], rfl, (fun a h => nomatch h), (fun a h => nomatch h), rfl⟩
  | x :: L, h => by
    have h1 := List.pairwise_cons.mp h
    by_cases hx : bef x n = true
    · obtain ⟨A, B, e, ha, hb, hl⟩ := bef_split n h1.2
      refine ⟨x :: A, B, by rw [e]; rfl, fun a q => ?_, hb, ?_⟩
      · rcases List.mem_cons.mp q with rfl | q
        · exact hx
        · exact ha a q
      · have : (x :: L).filter (bef · n) = x :: L.filter (bef · n) := by simp [hx]
        rw [this, List.length_cons, List.length_cons, hl]
    · have none : ∀ y ∈ L, ¬ bef y n = true := fun y hy k => hx (bef_trans (h1.1 y hy) k)
      refine ⟨[], x :: L, rfl, (fun a h => nomatch h), fun b q => ?_, ?_⟩
      · rcases List.mem_cons.mp q with rfl | q
        · exact hx
        · exact none b q
      · have : (x :: L).filter (bef · n) = [] := by
          refine List.filter_eq_nil_iff.mpr fun b q => ?_
          rcases List.mem_cons.mp q with rfl | q
          · exact hx
          · exact none b q
        rw [this]
theorem turned_insert {L : List Pt} {n : Pt} (h : Turned L) (hn : gcdl [n.1, n.2] = 1) (hm : n ∉ L) : Turned (L.take (L.filter (bef · n)).length ++ [n] ++ L.drop (L.filter (bef · n)).length) ∧ ∀ p, p ∈ L.take (L.filter (bef · n)).length ++ [n] ++ L.drop (L.filter (bef · n)).length ↔ p = n ∨ p ∈ L := by
  obtain ⟨A, B, e, ha, hb, hl⟩ := bef_split n h.pw
  have e1 : L.take (L.filter (bef · n)).length = A := by rw [← hl, e]; simp
  have e2 : L.drop (L.filter (bef · n)).length = B := by rw [← hl, e]; simp
  rw [e1, e2]
  have pw := h.pw
  rw [e] at pw
  obtain ⟨pa, pb, pab⟩ := List.pairwise_append.mp pw
  have hb' : ∀ b ∈ B, bef n b = true := fun b q => by
    have inL : b ∈ L := by rw [e]; exact List.mem_append_right _ q
    exact bef_tri (h.one b inL) hn (fun z => hm (by rw [← z]; exact inL)) (hb b q)
  have mem : ∀ p, p ∈ A ++ [n] ++ B ↔ p = n ∨ p ∈ L := fun p => by
    rw [e]
    simp only [List.mem_append, List.mem_singleton]
    constructor
    · rintro ((q | q) | q)
      · exact .inr (.inl q)
      · exact .inl q
      · exact .inr (.inr q)
    · rintro (q | q | q)
      · exact .inl (.inr q)
      · exact .inl (.inl q)
      · exact .inr q
  refine ⟨⟨?_, fun p q => ?_⟩, mem⟩
  · rw [List.append_assoc]
    refine List.pairwise_append.mpr ⟨pa, ?_, fun a q b r => ?_⟩
    · rw [List.singleton_append]
      exact List.pairwise_cons.mpr ⟨hb', pb⟩
    · rw [List.singleton_append] at r
      rcases List.mem_cons.mp r with rfl | r
      · exact ha a q
      · exact pab a q b r
  · rcases (mem p).mp q with rfl | q
    · exact hn
    · exact h.one p q
theorem turned_at {L : List Pt} (h : Turned L) {i j : Nat} (hij : i < j) (hj : j < L.length) : bef (gt L i) (gt L j) = true := by
  have := List.pairwise_iff_getElem.mp h.pw i j (by omega) hj hij
  simpa [gt, show i < L.length by omega, hj] using this
/-- two neighbours are never opposite, as the four ways along the axes are there -/
theorem turned_sum {L : List Pt} (h : Turned L) (h1 : ((1, 0) : Pt) ∈ L) (h2 : ((0, 1) : Pt) ∈ L) (h3 : ((-1, 0) : Pt) ∈ L) (h4 : ((0, -1) : Pt) ∈ L) {k : Nat} (hk : k < L.length) :
    ((gt L (pv L.length k)).1 + (gt L k).1, (gt L (pv L.length k)).2 + (gt L k).2) ≠ ((0, 0) : Pt) := by
  intro e
  have x0 : (gt L (pv L.length k)).1 + (gt L k).1 = 0 := congrArg Prod.fst e
  have y0 : (gt L (pv L.length k)).2 + (gt L k).2 = 0 := congrArg Prod.snd e
  -- nothing stands between neighbours
  have idx : ∀ p, p ∈ L → ∃ i, i < L.length ∧ gt L i = p := fun p hp => mem_gt hp
  by_cases hk0 : k = 0
  · subst hk0
    have pe : pv L.length 0 = L.length - 1 := rfl
    rw [pe] at x0 y0
    have first : gt L 0 = (1, 0) := by
      obtain ⟨i, hi, ei⟩ := idx _ h1
      by_cases i0 : i = 0
      · subst i0; exact ei
      · exfalso
        have b := turned_at h (i := 0) (j := i) (by omega) hi
        rw [ei] at b
        by_cases q : hlf (gt L 0) = hlf (1, 0)
        · rw [bef_ff q] at b
          have f := hlf_f.mp (q.trans rfl)
          simp only [cr] at b
          omega
        · rw [bef_ne q] at b
          cases b
    have last : gt L (L.length - 1) = (-1, 0) := by
      rw [first] at x0 y0
      simp only at x0 y0
      exact Prod.ext (by simp only; omega) (by simp only; omega)
    obtain ⟨i, hi, ei⟩ := idx _ h4
    by_cases il : i = L.length - 1
    · subst il
      rw [last] at ei
      cases ei
    · have b := turned_at h (i := i) (j := L.length - 1) (by omega) (by omega)
      rw [ei, last] at b
      exact absurd b (by decide)
  · have pe : pv L.length k = k - 1 := by unfold pv; rw [if_neg hk0]
    rw [pe] at x0 y0
    have bab := turned_at h (i := k - 1) (j := k) (by omega) hk
    have nz := one_nz (h.one _ (gt_mem (L := L) (i := k - 1) (by omega)))
    -- some c strictly between is a contradiction
    have no : ∀ c, c ∈ L → bef (gt L (k - 1)) c = true → bef c (gt L k) = true → False := fun c hc b1 b2 => by
      obtain ⟨i, hi, ei⟩ := idx c hc
      rcases Nat.lt_trichotomy i (k - 1) with q | q | q
      · exact bef_asym b1 (by rw [← ei]; exact turned_at h q (by omega))
      · subst q; rw [ei] at b1; exact bef_irr _ b1
      · by_cases r : i = k
        · subst r; rw [ei] at b2; exact bef_irr _ b2
        · exact bef_asym b2 (by rw [← ei]; exact turned_at h (by omega) hi)
    generalize gt L (k - 1) = a at *
    generalize gt L k = b at *
    have hb : b = (-a.1, -a.2) := Prod.ext (by simp only; omega) (by simp only; omega)
    have ne : hlf a ≠ hlf b := by
      intro q
      cases z : hlf a with
      | false =>
        have f := hlf_f.mp z
        have g := hlf_f.mp (q.symm.trans z)
        rw [hb] at g
        simp only at g
        exact nz ⟨by omega, by omega⟩
      | true =>
        have f := hlf_t.mp z
        have g := hlf_t.mp (q.symm.trans z)
        rw [hb] at g
        simp only at g
        omega
    rw [bef_ne ne] at bab
    have fa : hlf a = false := by
      cases z : hlf a with
      | false => rfl
      | true => exact absurd (z.trans bab.symm) ne
    have ga := hlf_f.mp fa
    by_cases a2 : a.2 = 0
    · refine no (0, 1) h2 ?_ ?_
      · rw [bef_ff (by rw [fa]; rfl)]
        simp only [cr]
        have := ga.2 a2
        have : a.1 ≠ 0 := fun z => nz ⟨z, a2⟩
        omega
      · rw [bef_ne (by rw [bab]; decide)]
        exact bab
    · refine no (-1, 0) h3 ?_ ?_
      · rw [bef_ne (by rw [fa]; decide)]
        rfl
      · rw [bef_ff (by rw [bab]; rfl), hb]
        simp only [cr]
        omega

/-! ### strictly inside -/
theorem all_strict {D E : List Pt} (C : Cvx D) (hE : E ≠ []) : (∀ B ∈ E, ∀ s ∈ sidesOf D, out s B < 0) ↔ 2 < D.length ∧ ∀ B ∈ E, ∀ k, k < D.length → 0 < bend (gt D (pv D.length k)) (gt D k) B := by
  obtain ⟨B0, hB0⟩ := List.exists_mem_of_ne_nil _ hE
  constructor
  · intro h
    have h3 : 2 < D.length := by
      rcases Nat.lt_or_ge 2 D.length with q | q
      · exact q
      · exfalso
        have ne := C.ne
        have hb := h B0 hB0
        by_cases l1 : D.length = 1
        · have m1 : ((1, 0), gt D 0) ∈ sidesOf D := by unfold sidesOf; rw [if_pos l1]; simp
          have m2 : ((-1, 0), gt D 0) ∈ sidesOf D := by unfold sidesOf; rw [if_pos l1]; simp
          have a := hb _ m1
          have b := hb _ m2
          simp only [out, dt, sb] at a b
          omega
        · have l2 : D.length = 2 := by omega
          have m1 : ((((gt D 1).2 - (gt D 0).2, (gt D 0).1 - (gt D 1).1), gt D 0) : Sd) ∈ sidesOf D := by unfold sidesOf; rw [if_neg l1, if_pos l2]; simp
          have m2 : ((((gt D 0).2 - (gt D 1).2, (gt D 1).1 - (gt D 0).1), gt D 1) : Sd) ∈ sidesOf D := by unfold sidesOf; rw [if_neg l1, if_pos l2]; simp
          have a := hb _ m1
          have b := hb _ m2
          simp only [out, dt, sb] at a b
          have : ((gt D 1).2 - (gt D 0).2) * (B0.1 - (gt D 0).1) + ((gt D 0).1 - (gt D 1).1) * (B0.2 - (gt D 0).2) + (((gt D 0).2 - (gt D 1).2) * (B0.1 - (gt D 1).1) + ((gt D 1).1 - (gt D 0).1) * (B0.2 - (gt D 1).2)) = 0 := by grind
          omega
    refine ⟨h3, fun B hB k hk => ?_⟩
    have m := (mem_sides3 (by omega)).mpr ⟨pv D.length k, pv_lt hk, rfl⟩
    have := h B hB _ m
    rw [out_left, nx_pv hk] at this
    omega
  · rintro ⟨h3, h⟩ B hB s hs
    obtain ⟨i, hi, rfl⟩ := (mem_sides3 (by omega)).mp hs
    have := h B hB (nx D.length i) (nx_lt hi)
    rw [pv_nx hi] at this
    rw [out_left]
    omega
end Wf

/-! A judgement over data: slots told by PyData, over the readings of the hand layer. -/
namespace Wf
open PySem PySem.Spec PyProof.Rows L2

/-! ### canonical readings: what must hold so that the code runs well -/
section
variable (X : Cx)
def wE (e : Expr) : TE := fun σ H Q => ∀ (pins : List (Addr × Obj)) (s : Shared), Inv X pins σ H s → wpAny (model X.prog X.w) X.A (eval e X.env) (EP X pins σ Q) X.xe s
def wT (e : Expr) : TT := fun σ H Q => ∀ (pins : List (Addr × Obj)) (s : Shared), Inv X pins σ H s → wpAny (model X.prog X.w) X.A (isTrue e X.env (eval e X.env)) (TP X pins σ Q) X.xe s
def wW (e : Expr) : TT := fun σ H Q => ∀ (whole : Sem Value) (pins : List (Addr × Obj)) (s : Shared), Inv X pins σ H s → wpAny (model X.prog X.w) X.A (isTrue e X.env whole) (TP X pins σ Q) X.xe s
def wA (es : List Expr) : TA := fun σ H Q => ∀ (pos : Pos) (pins : List (Addr × Obj)) (s : Shared), Inv X pins σ H s → wpAny (model X.prog X.w) X.A (spliced (backTo pos (starEach es X.env))) (AP X pins σ Q) X.xe s
def wS (st : Stmt) : TS := fun D σ H => ∀ (pins : List (Addr × Obj)) (s : Shared), Inv X pins σ H s → wpAny (model X.prog X.w) X.A (exec st X.env) (SP X pins D) X.xe s
def wB (sts : List Stmt) : TS := fun D σ H => ∀ (pins : List (Addr × Obj)) (s : Shared), Inv X pins σ H s → wpAny (model X.prog X.w) X.A (execs sts X.env) (SP X pins D) X.xe s
end
section
variable {X : Cx} {e : Expr} {es : List Expr} {st : Stmt} {sts : List Stmt} {t : TE} {tt : TT} {ta : TA} {ts : TS} {σ : L2.St} {H : Hp}
theorem pE : PE X e (wE X e) := ⟨fun pins s _ _ _ I h => h pins s I⟩
theorem pT : PT X e (wT X e) := ⟨fun pins s _ _ _ I h => h pins s I⟩
theorem pW : PW X e (wW X e) := ⟨fun wh pins s _ _ _ I h => h wh pins s I⟩
theorem pA : PA X es (wA X es) := ⟨fun pos pins s _ _ _ I h => h pos pins s I⟩
theorem pS : PS X st (wS X st) := ⟨fun pins s _ _ _ I h => h pins s I⟩
theorem pB : PSs X sts (wB X sts) := ⟨fun pins s _ _ _ I h => h pins s I⟩
theorem toE (h : PE X e t) {Q : VK} (q : t σ H Q) : wE X e σ H Q := fun pins s I => h.run pins s σ H Q I q
theorem toT (h : PT X e tt) {Q : Bool → Hp → Prop} (q : tt σ H Q) : wT X e σ H Q := fun pins s I => h.run pins s σ H Q I q
theorem toW (h : PW X e tt) {Q : Bool → Hp → Prop} (q : tt σ H Q) : wW X e σ H Q := fun wh pins s I => h.run wh pins s σ H Q I q
theorem toA (h : PA X es ta) {Q : List V → Hp → Prop} (q : ta σ H Q) : wA X es σ H Q := fun pos pins s I => h.run pos pins s σ H Q I q
theorem toS (h : PS X st ts) {D : Ends} (q : ts D σ H) : wS X st D σ H := fun pins s I => h.run pins s σ H D I q
theorem toB (h : PSs X sts ts) {D : Ends} (q : ts D σ H) : wB X sts D σ H := fun pins s I => h.run pins s σ H D I q
end

/-! ### heaps -/
theorem same_new {H : Hp} {p : Addr} {o : HO} (h : H p = none) : Same H (upd H p o) := fun a u e => by
  rw [upd_ne (ne_of_none e h)]
  exact e
/-- F: what data lean on; B: what must stay; H: all that is tracked -/
structure Grow (B F F' H' : Hp) : Prop where
  ff : Same F F'
  fh : Same F' H'
  bh : Same B H'
  nw : ∀ a o, F' a = some o → F a = some o ∨ B a = none
theorem Grow.refl {B F H : Hp} (h : Same F H) (b : Same B H) : Grow B F F H := ⟨Same.refl F, h, b, fun _ _ e => .inl e⟩
theorem Grow.trans {B F F1 F2 H1 H2 : Hp} (a : Grow B F F1 H1) (b : Grow B F1 F2 H2) : Grow B F F2 H2 :=
  ⟨a.ff.trans b.ff, b.fh, b.bh, fun x o e => by
    rcases b.nw x o e with h | h
    · exact a.nw x o h
    · exact .inr h⟩
/-- a step that keeps all of H keeps what must stay -/
theorem Grow.wide {B F H F' H' : Hp} (bh : Same B H) (g : Grow H F F' H') : Grow B F F' H' :=
  ⟨g.ff, g.fh, bh.trans g.bh, fun x o e => by
    rcases g.nw x o e with h | h
    · exact .inl h
    · exact .inr (bh.free h)⟩
/-- a new object, known to the data from now on -/
theorem Grow.new {F H : Hp} {p : Addr} {o : HO} (fh : Same F H) (h : H p = none) : Grow H F (upd F p o) (upd H p o) := by
  have fp : F p = none := fh.free h
  refine ⟨same_new fp, fun a u e => ?_, same_new h, fun a u e => ?_⟩
  · by_cases hp : a = p
    · subst hp; rw [upd_same] at e ⊢; exact e
    · rw [upd_ne hp] at e ⊢; exact fh a u e
  · by_cases hp : a = p
    · subst hp; exact .inr h
    · rw [upd_ne hp] at e; exact .inl e

/-! ### data -/
theorem sqL_same {K : PySem.W.Frag} {H H' : Hp} {a : Addr} {xs : List V} (e : Same H H') (h : SqL K H a xs) : SqL K H' a xs := e.seq h
theorem sqT_same {K : PySem.W.Frag} {H H' : Hp} {a : Addr} {xs : List V} (e : Same H H') (h : SqT K H a xs) : SqT K H' a xs := by
  rcases h with (h | ⟨o, h⟩) | h
  · exact .inl (.inl (e _ _ h))
  · exact .inl (.inr ⟨o, e _ _ h⟩)
  · exact .inr h
end Wf
namespace L2
open PySem PySem.Spec PyProof.Rows Wf
mutual
theorem Dp.same {K : PySem.W.Frag} {H H' : Hp} (e : Same H H') : ∀ {v : V} {d : PyData}, Dp K H v d → Dp K H' v d
  | _, _, .non => .non
  | _, _, .bl b => .bl b
  | _, _, .int i => .int i
  | _, _, .str x => .str x
  | _, _, .lst h k => .lst (sqL_same e h) (DpAll.same e k)
  | _, _, .tup h k => .tup (sqT_same e h) (DpAll.same e k)
theorem DpAll.same {K : PySem.W.Frag} {H H' : Hp} (e : Same H H') : ∀ {vs : List V} {ds : List PyData}, DpAll K H vs ds → DpAll K H' vs ds
  | _, _, .nil => .nil
  | _, _, .cons h k => .cons (Dp.same e h) (DpAll.same e k)
end
theorem DpAll.length {K : PySem.W.Frag} {H : Hp} : ∀ {vs : List V} {ds : List PyData}, DpAll K H vs ds → vs.length = ds.length
  | _, _, .nil => rfl
  | _, _, .cons _ k => congrArg (· + 1) (DpAll.length k)
theorem DpAll.get {K : PySem.W.Frag} {H : Hp} : ∀ {vs : List V} {ds : List PyData}, DpAll K H vs ds → ∀ {i : Nat} {d : PyData}, ds[i]? = some d → ∃ v, vs[i]? = some v ∧ Dp K H v d
  | _, _, .nil, i, d, e => by simp at e
  | _, _, .cons h _, 0, d, e => by
    have : _ = d := Option.some.inj (by simpa using e)
    subst this
    exact ⟨_, rfl, h⟩
  | _, _, .cons _ k, i + 1, d, e => by
    obtain ⟨v, h1, h2⟩ := DpAll.get k (i := i) (d := d) (by simpa using e)
    exact ⟨v, by simpa using h1, h2⟩
theorem DpAll.get' {K : PySem.W.Frag} {H : Hp} : ∀ {vs : List V} {ds : List PyData}, DpAll K H vs ds → ∀ {i : Nat} {v : V}, vs[i]? = some v → ∃ d, ds[i]? = some d ∧ Dp K H v d
  | _, _, .nil, i, d, e => by simp at e
  | _, _, .cons h _, 0, d, e => by
    have : _ = d := Option.some.inj (by simpa using e)
    subst this
    exact ⟨_, rfl, h⟩
  | _, _, .cons _ k, i + 1, d, e => by
    obtain ⟨v, h1, h2⟩ := DpAll.get' k (i := i) (v := d) (by simpa using e)
    exact ⟨v, by simpa using h1, h2⟩
theorem DpAll.append {K : PySem.W.Frag} {H : Hp} : ∀ {vs : List V} {ds : List PyData} {ws : List V} {es : List PyData}, DpAll K H vs ds → DpAll K H ws es → DpAll K H (vs ++ ws) (ds ++ es)
  | _, _, _, _, .nil, h => h
  | _, _, _, _, .cons h k, h' => .cons h (DpAll.append k h')
theorem DpAll.take {K : PySem.W.Frag} {H : Hp} : ∀ {vs : List V} {ds : List PyData} (n : Nat), DpAll K H vs ds → DpAll K H (vs.take n) (ds.take n)
  | _, _, 0, _ => .nil
  | _, _, _ + 1, .nil => .nil
  | _, _, n + 1, .cons h k => .cons h (DpAll.take n k)
theorem DpAll.drop {K : PySem.W.Frag} {H : Hp} : ∀ {vs : List V} {ds : List PyData} (n : Nat), DpAll K H vs ds → DpAll K H (vs.drop n) (ds.drop n)
  | _, _, 0, h => h
  | _, _, _ + 1, .nil => .nil
  | _, _, n + 1, .cons _ k => DpAll.drop n k
theorem DpAll.reverse {K : PySem.W.Frag} {H : Hp} : ∀ {vs : List V} {ds : List PyData}, DpAll K H vs ds → DpAll K H vs.reverse ds.reverse
  | _, _, .nil => .nil
  | _, _, .cons h k => by
    rw [List.reverse_cons, List.reverse_cons]
    exact (DpAll.reverse k).append (.cons h .nil)
theorem DpAll.ints {K : PySem.W.Frag} {H : Hp} : ∀ {vs : List V} {ns : List Int}, DpAll K H vs (ns.map PyData.int) → vs = ns.map V.int
  | _, [], .nil => rfl
  | _, n :: ns, .cons h k => by
    cases h
    rw [DpAll.ints k]
    rfl
theorem DpAll.of_ints {K : PySem.W.Frag} {H : Hp} : ∀ (ns : List Int), DpAll K H (ns.map V.int) (ns.map PyData.int)
  | [] => .nil
  | n :: ns => .cons (.int n) (DpAll.of_ints ns)
theorem DpAll.bools {K : PySem.W.Frag} {H : Hp} : ∀ {vs : List V} {bs : List Bool}, DpAll K H vs (bs.map PyData.bool) → vs = bs.map V.bl
  | _, [], .nil => rfl
  | _, n :: ns, .cons h k => by
    cases h
    rw [DpAll.bools k]
    rfl
theorem Dp.int_ {K : PySem.W.Frag} {H : Hp} {v : V} {i : Int} (h : Dp K H v (.int i)) : v = .int i := by cases h; rfl
theorem Dp.bool_ {K : PySem.W.Frag} {H : Hp} {v : V} {b : Bool} (h : Dp K H v (.bool b)) : v = .bl b := by cases h; rfl
theorem Dp.none_ {K : PySem.W.Frag} {H : Hp} {v : V} (h : Dp K H v .none) : v = .non := by cases h; rfl
theorem Dp.tup_ {K : PySem.W.Frag} {H : Hp} {v : V} {ds : List PyData} (h : Dp K H v (.tuple ds)) : ∃ a vs, v = .ref a ∧ SqT K H a vs ∧ DpAll K H vs ds := by
  cases h with
  | tup h k => exact ⟨_, _, rfl, h, k⟩
theorem Dp.lst_ {K : PySem.W.Frag} {H : Hp} {v : V} {ds : List PyData} (h : Dp K H v (.list ds)) : ∃ a vs, v = .ref a ∧ SqL K H a vs ∧ DpAll K H vs ds := by
  cases h with
  | lst h k => exact ⟨_, _, rfl, h, k⟩
end L2
namespace Wf
open PySem PySem.Spec PyProof.Rows L2
theorem atI_all {K : PySem.W.Frag} {H : Hp} {vs : List V} {ds : List PyData} (h : DpAll K H vs ds) {i : Int} {d : PyData} (e : atI ds i = some d) : ∃ v, atI vs i = some v ∧ Dp K H v d := by
  unfold atI at e ⊢
  rw [h.length]
  cases q : ixN ds.length i with
  | none => rw [q] at e; cases e
  | some j =>
    rw [q] at e
    exact h.get (show ds[j]? = some d from e)

/-! ### slots -/
inductive SD where
  | no
  | val (d : PyData)
  /-- a list of this def's own, that it changes -/
  | own (ds : List PyData)
  /-- the list of three whole numbers, the first one not below 0, that is drawn from -/
  | sack (o : Addr)
def SD.mut : SD → Bool
  | .own _ => true
  | .sack _ => true
  | _ => false
def SlotOk (K : PySem.W.Frag) (B F H : Hp) (x : Option (Option V)) : SD → Prop
  | .no => True
  | .val d => ∃ v, x = some (some v) ∧ Dp K F v d
  | .own ds => ∃ a vs, x = some (some (.ref a)) ∧ B a = none ∧ F a = none ∧ H a = some (.lst vs) ∧ DpAll K F vs ds
  | .sack o => ∃ i j k : Int, x = some (some (.ref o)) ∧ B o = none ∧ F o = none ∧ H o = some (.lst [.int i, .int j, .int k]) ∧ 0 ≤ i
abbrev Rho := List SD
def IsMut (ρ : Rho) (i : Nat) : Prop := ∃ s, ρ[i]? = some s ∧ s.mut = true
structure Slots (K : PySem.W.Frag) (B F H : Hp) (σ : L2.St) (ρ : Rho) : Prop where
  len : σ.length = ρ.length
  ok : ∀ (i : Nat) (s : SD), ρ[i]? = some s → SlotOk K B F H σ[i]? s
  dis : ∀ (i j : Nat) (a : Addr), i ≠ j → IsMut ρ i → IsMut ρ j → σ[i]? = some (some (.ref a)) → σ[j]? = some (some (.ref a)) → False
section
variable {K : PySem.W.Frag} {B F F' H H' : Hp} {σ : L2.St} {ρ : Rho} {i : Nat} {d : PyData}
theorem Grow.non {a : Addr} {o : HO} (g : Grow H F F' H') (f : F a = none) (h : H a = some o) : F' a = none := by
  cases q : F' a with
  | none => rfl
  | some u =>
    rcases g.nw a u q with z | z
    · rw [f] at z; cases z
    · rw [h] at z; cases z
theorem SlotOk.up {x : Option (Option V)} (g : Grow H F F' H') : ∀ {s : SD}, SlotOk K B F H x s → SlotOk K B F' H' x s
  | .no, _ => trivial
  | .val _, ⟨v, e, h⟩ => ⟨v, e, h.same g.ff⟩
  | .own _, ⟨a, vs, e, b, f, h, k⟩ => ⟨a, vs, e, b, g.non f h, g.bh a _ h, k.same g.ff⟩
  | .sack o, ⟨i, j, k, e, b, f, h, z⟩ => ⟨i, j, k, e, b, g.non f h, g.bh o _ h, z⟩
theorem Slots.up (S : Slots K B F H σ ρ) (g : Grow H F F' H') : Slots K B F' H' σ ρ := ⟨S.len, fun i s e => (S.ok i s e).up g, S.dis⟩
theorem Slots.get (S : Slots K B F H σ ρ) (h : ρ[i]? = some (.val d)) : ∃ v, σ[i]? = some (some v) ∧ Dp K F v d := S.ok i _ h
theorem isMut_set {s : SD} (hs : s.mut = false) {j : Nat} (h : IsMut (ρ.set i s) j) : IsMut ρ j ∧ j ≠ i := by
  obtain ⟨u, e, m⟩ := h
  by_cases hj : i = j
  · subst hj
    rw [List.getElem?_set] at e
    simp at e
    rw [← e.2] at m
    rw [hs] at m
    cases m
  · rw [List.getElem?_set_ne hj] at e
    exact ⟨⟨u, e, m⟩, fun z => hj z.symm⟩
theorem Slots.set (S : Slots K B F H σ ρ) {v : V} (h : Dp K F v d) : Slots K B F H (σ.set i (some v)) (ρ.set i (.val d)) := by
  refine ⟨by rw [List.length_set, List.length_set]; exact S.len, fun j s e => ?_, fun j k a hn hj hk e1 e2 => ?_⟩
  · by_cases hj : i = j
    · subst hj
      rw [List.getElem?_set] at e
      simp at e
      obtain ⟨hl, e⟩ := e
      subst e
      refine ⟨v, ?_, h⟩
      rw [List.getElem?_set]
      simp [S.len, hl]
    · rw [List.getElem?_set_ne hj] at e ⊢
      exact S.ok j s e
  · obtain ⟨mj, nj⟩ := isMut_set rfl hj
    obtain ⟨mk, nk⟩ := isMut_set rfl hk
    rw [List.getElem?_set_ne (Ne.symm nj)] at e1
    rw [List.getElem?_set_ne (Ne.symm nk)] at e2
    exact S.dis j k a hn mj mk e1 e2
/-- what is forgotten -/
def forget : List Nat → Rho → Rho
  | [], ρ => ρ
  | i :: is, ρ => forget is (ρ.set i .no)
theorem Slots.drop1 (S : Slots K B F H σ ρ) (i : Nat) : Slots K B F H σ (ρ.set i .no) := by
  refine ⟨by rw [List.length_set]; exact S.len, fun j s e => ?_, fun j k a hn hj hk e1 e2 => S.dis j k a hn (isMut_set rfl hj).1 (isMut_set rfl hk).1 e1 e2⟩
  by_cases hj : i = j
  · subst hj
    rw [List.getElem?_set] at e
    simp at e
    rw [← e.2]
    trivial
  · rw [List.getElem?_set_ne hj] at e
    exact S.ok j s e
theorem Slots.forget : ∀ (is : List Nat) {ρ : Rho}, Slots K B F H σ ρ → Slots K B F H σ (forget is ρ)
  | [], _, S => S
  | i :: is, _, S => Slots.forget is (S.drop1 i)
end

/-! ### expressions -/
def JE (X : Cx) (e : Expr) (ρ : Rho) (Q : PyData → Prop) : Prop :=
  ∀ (B F H : Hp) (σ : L2.St) (k : VK), Same F H → Same B H → Slots X.K B F H σ ρ → (∀ v d F' H', Q d → Grow B F F' H' → Slots X.K B F' H' σ ρ → Dp X.K F' v d → k v H') → wE X e σ H k
abbrev JV (X : Cx) (e : Expr) (ρ : Rho) (d : PyData) : Prop := JE X e ρ (· = d)
/-- the arguments -/
def JA (X : Cx) (es : List Expr) (ρ : Rho) (Q : List PyData → Prop) : Prop :=
  ∀ (B F H : Hp) (σ : L2.St) (k : List V → Hp → Prop), Same F H → Same B H → Slots X.K B F H σ ρ → (∀ vs ds F' H', Q ds → Grow B F F' H' → Slots X.K B F' H' σ ρ → DpAll X.K F' vs ds → k vs H') → wA X es σ H k
abbrev JAV (X : Cx) (es : List Expr) (ρ : Rho) (ds : List PyData) : Prop := JA X es ρ (· = ds)
/-- a new list, nobody else's -/
def JN (X : Cx) (e : Expr) (ρ : Rho) (Q : List PyData → Prop) : Prop :=
  ∀ (B F H : Hp) (σ : L2.St) (k : VK), Same F H → Same B H → Slots X.K B F H σ ρ →
    (∀ a vs ds F' H', Q ds → Grow B F F' H' → Slots X.K B F' H' σ ρ → B a = none → F' a = none → H' a = some (.lst vs) → DpAll X.K F' vs ds → (∀ i : Nat, IsMut ρ i → σ[i]? ≠ some (some (.ref a))) → k (.ref a) H') → wE X e σ H k
/-- a test -/
def JT (X : Cx) (e : Expr) (ρ : Rho) (Q : Bool → Prop) : Prop :=
  ∀ (B F H : Hp) (σ : L2.St) (k : Bool → Hp → Prop), Same F H → Same B H → Slots X.K B F H σ ρ → (∀ b F' H', Q b → Grow B F F' H' → Slots X.K B F' H' σ ρ → k b H') → wT X e σ H k
def JW (X : Cx) (e : Expr) (ρ : Rho) (Q : Bool → Prop) : Prop :=
  ∀ (B F H : Hp) (σ : L2.St) (k : Bool → Hp → Prop), Same F H → Same B H → Slots X.K B F H σ ρ → (∀ b F' H', Q b → Grow B F F' H' → Slots X.K B F' H' σ ρ → k b H') → wW X e σ H k
abbrev JTV (X : Cx) (e : Expr) (ρ : Rho) (b : Bool) : Prop := JT X e ρ (· = b)

section
variable {X : Cx} {e a b c : Expr} {es : List Expr} {ρ : Rho} {Q Q' : PyData → Prop} {d : PyData} {pos : Pos}
theorem JE.imp (h : JE X e ρ Q) (i : ∀ d, Q d → Q' d) : JE X e ρ Q' := fun B F H σ k f b S q => h B F H σ k f b S fun v d F' H' qd => q v d F' H' (i d qd)
theorem JV.to (h : JV X e ρ d) (q : Q d) : JE X e ρ Q := JE.imp h fun d' e' => by rw [e']; exact q
theorem JT.imp {Q Q' : Bool → Prop} (h : JT X e ρ Q) (i : ∀ d, Q d → Q' d) : JT X e ρ Q' := fun B F H σ k f b S q => h B F H σ k f b S fun v F' H' qd => q v F' H' (i v qd)
theorem JA.imp {Q Q' : List PyData → Prop} (h : JA X es ρ Q) (i : ∀ d, Q d → Q' d) : JA X es ρ Q' := fun B F H σ k f b S q => h B F H σ k f b S fun v d F' H' qd => q v d F' H' (i d qd)
theorem JV.is {d' : PyData} (h : JV X e ρ d) (q : d = d') : JV X e ρ d' := by rw [← q]; exact h

/-- an expression that is read off and makes nothing -/
theorem je_pure {t : TE} (h : PE X e t) (r : ∀ B F H σ, Same F H → Slots X.K B F H σ ρ → ∃ v d, Q d ∧ Dp X.K F v d ∧ ∀ k : VK, k v H → t σ H k) : JE X e ρ Q := fun B F H σ k f b S q => by
  obtain ⟨v, d, hq, hd, hk⟩ := r B F H σ f S
  exact toE h (hk k (q v d F H hq (Grow.refl f b) S hd))
theorem jv_var (i : Nat) {x : Str} (h : ρ[i]? = some (.val d)) (hN : X.N[i]? = some x := by rfl) (hv : Vis X.env.scope x := by first | exact Or.inl rfl | exact Or.inr (Or.inl rfl) | exact Or.inr (Or.inr rfl)) (hd : (x == ("__debug__" : Str)) = false := by decide)
    (hcd : (x == ("__classdict__" : Str)) = false := by decide) : JV X (.Name x pos) ρ d :=
  je_pure (pe_var hN hv hd hcd) fun B F H σ f S => by
    obtain ⟨v, e, hd⟩ := S.get h
    exact ⟨v, d, rfl, hd, fun k q => ⟨v, e, q⟩⟩
theorem jv_int {i : Int} {j} : JV X (.Constant (.int i) j pos) ρ (.int i) := je_pure pe_int fun B F H σ f S => ⟨.int i, _, rfl, .int i, fun k q => q⟩
theorem jv_bool {i : Bool} {j} : JV X (.Constant (.bool i) j pos) ρ (.bool i) := je_pure pe_bl fun B F H σ f S => ⟨.bl i, _, rfl, .bl i, fun k q => q⟩
theorem jv_none {j} : JV X (.Constant .none j pos) ρ .none := je_pure pe_non fun B F H σ f S => ⟨.non, _, rfl, .non, fun k q => q⟩

/-! ### by values -/
def RD (K : PySem.W.Frag) (r : R2) (x y : PyData) (Q : PyData → Prop) : Prop :=
  ∀ (F H : Hp) (v w : V) (k : VK), Same F H → Dp K F v x → Dp K F w y → (∀ u d F' H', Q d → Grow H F F' H' → Dp K F' u d → k u H') → r v w H k
theorem je_op {op : Operator} {r : R2} (ho : OpR X (binaryOp op) r) {P : PyData → Prop} (ha : JE X a ρ P) (hb : ∀ x, P x → JE X b ρ fun y => RD X.K r x y Q) : JE X (.BinOp a op b pos) ρ Q := fun B F H σ k f bb S q => by
  refine toE (pe_op ho pE pE) ?_
  refine ha B F H σ _ f bb S fun v x F1 H1 px g1 S1 d1 => ?_
  refine hb x px B F1 H1 σ _ g1.fh g1.bh S1 fun w y F2 H2 ry g2 S2 d2 => ?_
  refine ry F2 H2 v w k g2.fh (d1.same g2.ff) d2 fun u d F3 H3 qd g3 d3 => ?_
  exact q u d F3 H3 qd ((g1.trans g2).trans (g3.wide g2.bh)) (S2.up g3) d3
theorem je_cmp {op : CmpOp} {r : R2} (ho : OpR X (compareOp op) r) {P : PyData → Prop} (ha : JE X a ρ P) (hb : ∀ x, P x → JE X b ρ fun y => RD X.K r x y Q) (hm : behindInMarks op b = false) : JE X (.Compare a [op] [b] pos) ρ Q := fun B F H σ k f bb S q => by
  refine toE (pe_cmpR ho pE pE hm) ?_
  refine ha B F H σ _ f bb S fun v x F1 H1 px g1 S1 d1 => ?_
  refine hb x px B F1 H1 σ _ g1.fh g1.bh S1 fun w y F2 H2 ry g2 S2 d2 => ?_
  refine ry F2 H2 v w k g2.fh (d1.same g2.ff) d2 fun u d F3 H3 qd g3 d3 => ?_
  exact q u d F3 H3 qd ((g1.trans g2).trans (g3.wide g2.bh)) (S2.up g3) d3
theorem jt_cmp {op : CmpOp} {r : R2} (ho : OpR X (compareOp op) r) {P : PyData → Prop} {Q : Bool → Prop} (ha : JE X a ρ P) (hb : ∀ x, P x → JE X b ρ fun y => RD X.K r x y fun d => ∃ k, d = .bool k ∧ Q k) (hm : behindInMarks op b = false) : JT X (.Compare a [op] [b] pos) ρ Q := fun B F H σ k f bb S q => by
  refine toT (pt_cmpR ho pE pE hm) ?_
  refine ha B F H σ _ f bb S fun v x F1 H1 px g1 S1 d1 => ?_
  refine hb x px B F1 H1 σ _ g1.fh g1.bh S1 fun w y F2 H2 ry g2 S2 d2 => ?_
  refine ry F2 H2 v w _ g2.fh (d1.same g2.ff) d2 fun u d F3 H3 qd g3 d3 => ?_
  obtain ⟨kb, rfl, qd⟩ := qd
  rw [d3.bool_]
  exact ⟨kb, rfl, q kb F3 H3 qd ((g1.trans g2).trans (g3.wide g2.bh)) (S2.up g3)⟩
/-- from values alone -/
theorem rd_val {r : R2} {K : PySem.W.Frag} {x y : PyData} {z : PyData} (hq : Q z) (h : ∀ (F H : Hp) (v w : V), Same F H → Dp K F v x → Dp K F w y → ∃ u, Dp K F u z ∧ ∀ k : VK, k u H → r v w H k) : RD K r x y Q := fun F H v w k f d1 d2 q => by
  obtain ⟨u, du, hk⟩ := h F H v w f d1 d2
  exact hk k (q u z F H hq (Grow.refl f (Same.refl H)) du)
theorem rd_I {K : PySem.W.Frag} {C : Int → Int → Prop} {g : Int → Int → Int} {i j : Int} (hc : C i j) (hq : Q (.int (g i j))) : RD K (rI C fun i j => .int (g i j)) (.int i) (.int j) Q :=
  rd_val hq fun F H v w f d1 d2 => ⟨.int (g i j), .int _, fun k q => by rw [d1.int_, d2.int_]; exact ⟨i, j, rfl, rfl, hc, q⟩⟩
theorem rd_I0 {K : PySem.W.Frag} {g : Int → Int → Int} {i j : Int} (hq : Q (.int (g i j))) : RD K (rI0 fun i j => .int (g i j)) (.int i) (.int j) Q :=
  rd_val hq fun F H v w f d1 d2 => ⟨.int (g i j), .int _, fun k q => by rw [d1.int_, d2.int_]; exact ⟨i, j, rfl, rfl, q⟩⟩
theorem rd_B0 {K : PySem.W.Frag} {g : Int → Int → Bool} {i j : Int} (hq : Q (.bool (g i j))) : RD K (rI0 fun i j => .bl (g i j)) (.int i) (.int j) Q :=
  rd_val hq fun F H v w f d1 d2 => ⟨.bl (g i j), .bl _, fun k q => by rw [d1.int_, d2.int_]; exact ⟨i, j, rfl, rfl, q⟩⟩

/-! ### whole numbers; how large -/
/-- below a power of 2 -/
class Bd (k : outParam Nat) (x : Int) : Prop where
  lt : x.natAbs < 2 ^ k
theorem Bd.mono {k m : Nat} {x : Int} (h : Bd k x) (l : k ≤ m) : Bd m x := ⟨Nat.lt_of_lt_of_le h.lt (Nat.pow_le_pow_right (by decide) l)⟩
instance Bd.mul {k m : Nat} {x y : Int} [hx : Bd k x] [hy : Bd m y] : Bd (k + m) (x * y) := ⟨by
  rw [Int.natAbs_mul, Nat.pow_add]
  exact Nat.mul_lt_mul'' hx.lt hy.lt⟩
instance Bd.add {k m : Nat} {x y : Int} [hx : Bd k x] [hy : Bd m y] : Bd (max k m + 1) (x + y) := ⟨by
  have h1 := (hx.mono (Nat.le_max_left k m)).lt
  have h2 := (hy.mono (Nat.le_max_right k m)).lt
  have := Int.natAbs_add_le x y
  rw [Nat.pow_succ]
  omega⟩
instance Bd.neg {k : Nat} {x : Int} [hx : Bd k x] : Bd k (- x) := ⟨by rw [Int.natAbs_neg]; exact hx.lt⟩
instance Bd.sub {k m : Nat} {x y : Int} [hx : Bd k x] [hy : Bd m y] : Bd (max k m + 1) (x - y) := ⟨by
  have := (Bd.add (x := x) (y := - y)).lt
  rw [Int.sub_eq_add_neg]
  exact this⟩
theorem jv_add {i j : Int} (ha : JV X a ρ (.int i)) (hb : JV X b ρ (.int j)) : JV X (.BinOp a .Add b pos) ρ (.int (i + j)) := je_op op_add ha fun x e => by subst e; exact hb.to (rd_I0 rfl)
theorem jv_sub {i j : Int} (ha : JV X a ρ (.int i)) (hb : JV X b ρ (.int j)) : JV X (.BinOp a .Sub b pos) ρ (.int (i - j)) := je_op op_sub ha fun x e => by subst e; exact hb.to (rd_I0 rfl)
theorem jv_mul {i j : Int} {k m : Nat} (ha : JV X a ρ (.int i)) (hb : JV X b ρ (.int j)) [hi : Bd k i] [hj : Bd m j] (hk : k + m ≤ 900000 := by decide) : JV X (.BinOp a .Mult b pos) ρ (.int (i * j)) :=
  je_op op_mulW ha fun x e => by subst e; exact hb.to (rd_I (wide_mul (hi.mono (Nat.le_succ k)).lt (hj.mono (Nat.le_succ m)).lt (Nat.succ_pos _) (Nat.succ_pos _) (by omega)) rfl)
theorem jv_neg {i : Int} (ha : JV X a ρ (.int i)) : JV X (.UnaryOp .USub a pos) ρ (.int (-i)) := fun B F H σ k f bb S q => by
  refine toE (pe_un un_neg pE) ?_
  refine ha B F H σ _ f bb S fun v x F1 H1 px g1 S1 d1 => ?_
  subst px
  rw [d1.int_]
  exact ⟨i, rfl, q _ _ F1 H1 rfl g1 S1 (.int _)⟩
theorem jv_fdiv {i j : Int} {m : Nat} (ha : JV X a ρ (.int i)) (hb : JV X b ρ (.int j)) (h0 : 0 < j) [hj : Bd m j] (hk : m ≤ 8000 := by decide) : JV X (.BinOp a .FloorDiv b pos) ρ (.int (i / j)) :=
  je_op op_fdivW ha fun x e => by subst e; exact hb.to (rd_I (wide_div h0 (hj.mono (Nat.le_succ m)).lt (Nat.succ_pos _) (by omega)) rfl)
theorem jv_mod {i j : Int} (ha : JV X a ρ (.int i)) (hb : JV X b ρ (.int j)) (h0 : 0 < j) : JV X (.BinOp a .Mod b pos) ρ (.int (i % j)) :=
  je_op op_mod ha fun x e => by subst e; exact hb.to (rd_I h0 rfl)
theorem jv_lt {i j : Int} (ha : JV X a ρ (.int i)) (hb : JV X b ρ (.int j)) : JV X (.Compare a [.Lt] [b] pos) ρ (.bool (decide (i < j))) := je_cmp op_lt ha (fun x e => by subst e; exact hb.to (rd_B0 rfl)) (nomark _)
theorem jv_le {i j : Int} (ha : JV X a ρ (.int i)) (hb : JV X b ρ (.int j)) : JV X (.Compare a [.LtE] [b] pos) ρ (.bool (decide (i ≤ j))) := je_cmp op_le ha (fun x e => by subst e; exact hb.to (rd_B0 rfl)) (nomark _)
theorem jv_gt {i j : Int} (ha : JV X a ρ (.int i)) (hb : JV X b ρ (.int j)) : JV X (.Compare a [.Gt] [b] pos) ρ (.bool (decide (j < i))) := je_cmp op_gt ha (fun x e => by subst e; exact hb.to (rd_B0 rfl)) (nomark _)
theorem jv_ge {i j : Int} (ha : JV X a ρ (.int i)) (hb : JV X b ρ (.int j)) : JV X (.Compare a [.GtE] [b] pos) ρ (.bool (decide (j ≤ i))) := je_cmp op_ge ha (fun x e => by subst e; exact hb.to (rd_B0 rfl)) (nomark _)
theorem jt_lt {i j : Int} (ha : JV X a ρ (.int i)) (hb : JV X b ρ (.int j)) : JTV X (.Compare a [.Lt] [b] pos) ρ (decide (i < j)) := jt_cmp op_lt ha (fun x e => by subst e; exact hb.to (rd_B0 ⟨_, rfl, rfl⟩)) (nomark _)
theorem jt_le {i j : Int} (ha : JV X a ρ (.int i)) (hb : JV X b ρ (.int j)) : JTV X (.Compare a [.LtE] [b] pos) ρ (decide (i ≤ j)) := jt_cmp op_le ha (fun x e => by subst e; exact hb.to (rd_B0 ⟨_, rfl, rfl⟩)) (nomark _)
theorem jt_gt {i j : Int} (ha : JV X a ρ (.int i)) (hb : JV X b ρ (.int j)) : JTV X (.Compare a [.Gt] [b] pos) ρ (decide (j < i)) := jt_cmp op_gt ha (fun x e => by subst e; exact hb.to (rd_B0 ⟨_, rfl, rfl⟩)) (nomark _)
theorem jt_ge {i j : Int} (ha : JV X a ρ (.int i)) (hb : JV X b ρ (.int j)) : JTV X (.Compare a [.GtE] [b] pos) ρ (decide (j ≤ i)) := jt_cmp op_ge ha (fun x e => by subst e; exact hb.to (rd_B0 ⟨_, rfl, rfl⟩)) (nomark _)
/-- == of scalars -/
def isSc : PyData → Option V
  | .none => some .non
  | .bool b => some (.bl b)
  | .int i => some (.int i)
  | .str s => some (.str s)
  | _ => none
theorem isSc_dp {K : PySem.W.Frag} {H : Hp} {x : PyData} {u v : V} (e : isSc x = some u) (h : Dp K H v x) : v = u := by
  cases h <;> simp [isSc] at e <;> first | exact e | exact e.symm | skip
theorem rd_eq {K : PySem.W.Frag} {x y : PyData} {u v : V} (hx : isSc x = some u) (hy : isSc y = some v) (hs : scal u v = true) (hq : Q (.bool (decide (u = v)))) : RD K rEq x y Q :=
  rd_val hq fun F H v' w' f d1 d2 => ⟨.bl _, .bl _, fun k q => by rw [isSc_dp hx d1, isSc_dp hy d2]; exact ⟨hs, q⟩⟩
theorem rd_ne {K : PySem.W.Frag} {x y : PyData} {u v : V} (hx : isSc x = some u) (hy : isSc y = some v) (hs : scal u v = true) (hq : Q (.bool (!decide (u = v)))) : RD K rNe x y Q :=
  rd_val hq fun F H v' w' f d1 d2 => ⟨.bl _, .bl _, fun k q => by rw [isSc_dp hx d1, isSc_dp hy d2]; exact ⟨hs, q⟩⟩
theorem dint {i j : Int} : decide (V.int i = V.int j) = decide (i = j) := by
  by_cases h : i = j
  · rw [h]; simp
  · rw [decide_eq_false h, decide_eq_false fun q => h (V.int.inj q)]
theorem jv_eq {i j : Int} (ha : JV X a ρ (.int i)) (hb : JV X b ρ (.int j)) : JV X (.Compare a [.Eq] [b] pos) ρ (.bool (decide (i = j))) := je_cmp op_eq ha (fun x e => by subst e; exact hb.to (rd_eq rfl rfl rfl (by rw [dint]))) (nomark _)
theorem jv_ne {i j : Int} (ha : JV X a ρ (.int i)) (hb : JV X b ρ (.int j)) : JV X (.Compare a [.NotEq] [b] pos) ρ (.bool (!decide (i = j))) := je_cmp op_ne ha (fun x e => by subst e; exact hb.to (rd_ne rfl rfl rfl (by rw [dint]))) (nomark _)
theorem jt_eq {i j : Int} (ha : JV X a ρ (.int i)) (hb : JV X b ρ (.int j)) : JTV X (.Compare a [.Eq] [b] pos) ρ (decide (i = j)) := jt_cmp op_eq ha (fun x e => by subst e; exact hb.to (rd_eq rfl rfl rfl ⟨_, rfl, by rw [dint]⟩)) (nomark _)
theorem jt_ne {i j : Int} (ha : JV X a ρ (.int i)) (hb : JV X b ρ (.int j)) : JTV X (.Compare a [.NotEq] [b] pos) ρ (!decide (i = j)) := jt_cmp op_ne ha (fun x e => by subst e; exact hb.to (rd_ne rfl rfl rfl ⟨_, rfl, by rw [dint]⟩)) (nomark _)

/-! ### tests -/
theorem jt_val {Q : Bool → Prop} (h : JE X e ρ fun d => ∃ b, d = .bool b ∧ Q b) (he : ∀ whole, isTrue e X.env whole = (do let v ← whole; standAt e.pos; holding [v] (truthy v)) := by intro _; rfl) : JT X e ρ Q := fun B F H σ k f bb S q => by
  refine toT (pt_val pE he) ?_
  refine h B F H σ _ f bb S fun v x F1 H1 px g1 S1 d1 => ?_
  obtain ⟨b, rfl, qb⟩ := px
  rw [d1.bool_]
  exact ⟨b, rfl, q b F1 H1 qb g1 S1⟩
theorem jt_valV {k : Bool} (h : JV X e ρ (.bool k)) (he : ∀ whole, isTrue e X.env whole = (do let v ← whole; standAt e.pos; holding [v] (truthy v)) := by intro _; rfl) : JTV X e ρ k := jt_val (h.to ⟨k, rfl, rfl⟩) he
theorem jt_not {Q : Bool → Prop} (h : JT X a ρ fun b => Q (!b)) : JT X (.UnaryOp .Not a pos) ρ Q := fun B F H σ k f bb S q => by
  refine toT (pt_not pT) ?_
  exact h B F H σ _ f bb S fun b F1 H1 qb g1 S1 => q _ F1 H1 qb g1 S1
theorem jt_notV {k : Bool} (h : JTV X a ρ k) : JTV X (.UnaryOp .Not a pos) ρ (!k) := jt_not (h.imp fun d e => by rw [e])
theorem jt_w {Q : Bool → Prop} (h : JW X e ρ Q) : JT X e ρ Q := fun B F H σ k f bb S q => toT pW.pt (h B F H σ k f bb S q)
theorem jw_and1 {Q : Bool → Prop} (h : JT X a ρ Q) : JW X (.BoolOp .And [a] pos) ρ Q := fun B F H σ k f bb S q => toW (pw_and1 pT) (h B F H σ k f bb S q)
theorem jw_or1 {Q : Bool → Prop} (h : JT X a ρ Q) : JW X (.BoolOp .Or [a] pos) ρ Q := fun B F H σ k f bb S q => toW (pw_or1 pT) (h B F H σ k f bb S q)
theorem jw_and {rest : List Expr} {Q P : Bool → Prop} (h : JT X a ρ P) (h0 : P false → Q false) (h1 : P true → JW X (.BoolOp .And (b :: rest) pos) ρ Q) : JW X (.BoolOp .And (a :: b :: rest) pos) ρ Q := fun B F H σ k f bb S q => by
  refine toW (pw_and pT pW) ?_
  refine h B F H σ _ f bb S fun c F1 H1 qb g1 S1 => ?_
  cases c with
  | false => exact iteF (q false F1 H1 (h0 qb) g1 S1)
  | true => exact iteT (h1 qb B F1 H1 σ _ g1.fh g1.bh S1 fun c F2 H2 qb g2 S2 => q c F2 H2 qb (g1.trans g2) S2)
theorem jw_or {rest : List Expr} {Q P : Bool → Prop} (h : JT X a ρ P) (h0 : P true → Q true) (h1 : P false → JW X (.BoolOp .Or (b :: rest) pos) ρ Q) : JW X (.BoolOp .Or (a :: b :: rest) pos) ρ Q := fun B F H σ k f bb S q => by
  refine toW (pw_or pT pW) ?_
  refine h B F H σ _ f bb S fun c F1 H1 qb g1 S1 => ?_
  cases c with
  | true => exact iteT (q true F1 H1 (h0 qb) g1 S1)
  | false => exact iteF (h1 qb B F1 H1 σ _ g1.fh g1.bh S1 fun c F2 H2 qb g2 S2 => q c F2 H2 qb (g1.trans g2) S2)
/-- and, or of tests that are known -/
theorem jt_and2 {k m : Bool} (h : JTV X a ρ k) (h1 : k = true → JTV X b ρ m) : JTV X (.BoolOp .And [a, b] pos) ρ (k && m) :=
  jt_w (jw_and h (fun e => by rw [← e]; rfl) fun e => jw_and1 ((h1 e.symm).imp fun d q => by rw [q, ← e]; rfl))
theorem jt_or2 {k m : Bool} (h : JTV X a ρ k) (h1 : k = false → JTV X b ρ m) : JTV X (.BoolOp .Or [a, b] pos) ρ (k || m) :=
  jt_w (jw_or h (fun e => by rw [← e]; rfl) fun e => jw_or1 ((h1 e.symm).imp fun d q => by rw [q, ← e]; rfl))
/-- .. as values -/
theorem je_one {op} (h : JE X a ρ Q) : JE X (.BoolOp op [a] pos) ρ Q := fun B F H σ k f bb S q => toE (pe_one pE) (h B F H σ k f bb S q)
theorem je_and {rest : List Expr} {P : Bool → Prop} (h : JE X a ρ fun d => ∃ b, d = .bool b ∧ P b) (h0 : P false → Q (.bool false)) (h1 : P true → JE X (.BoolOp .And (b :: rest) pos) ρ Q) : JE X (.BoolOp .And (a :: b :: rest) pos) ρ Q := fun B F H σ k f bb S q => by
  refine toE (pe_and pE pE) ?_
  refine h B F H σ _ f bb S fun v x F1 H1 px g1 S1 d1 => ?_
  obtain ⟨c, rfl, pc⟩ := px
  rw [d1.bool_]
  cases c with
  | false => exact ⟨false, rfl, iteF (q _ _ F1 H1 (h0 pc) g1 S1 (.bl false))⟩
  | true => exact ⟨true, rfl, iteT (h1 pc B F1 H1 σ _ g1.fh g1.bh S1 fun v d F2 H2 qb g2 S2 d2 => q v d F2 H2 qb (g1.trans g2) S2 d2)⟩
theorem je_or {rest : List Expr} {P : Bool → Prop} (h : JE X a ρ fun d => ∃ b, d = .bool b ∧ P b) (h0 : P true → Q (.bool true)) (h1 : P false → JE X (.BoolOp .Or (b :: rest) pos) ρ Q) : JE X (.BoolOp .Or (a :: b :: rest) pos) ρ Q := fun B F H σ k f bb S q => by
  refine toE (pe_or pE pE) ?_
  refine h B F H σ _ f bb S fun v x F1 H1 px g1 S1 d1 => ?_
  obtain ⟨c, rfl, pc⟩ := px
  rw [d1.bool_]
  cases c with
  | true => exact ⟨true, rfl, iteT (q _ _ F1 H1 (h0 pc) g1 S1 (.bl true))⟩
  | false => exact ⟨false, rfl, iteF (h1 pc B F1 H1 σ _ g1.fh g1.bh S1 fun v d F2 H2 qb g2 S2 d2 => q v d F2 H2 qb (g1.trans g2) S2 d2)⟩
theorem jv_and2 {k m : Bool} (h : JV X a ρ (.bool k)) (h1 : k = true → JV X b ρ (.bool m)) : JV X (.BoolOp .And [a, b] pos) ρ (.bool (k && m)) :=
  je_and (P := (· = k)) (h.to ⟨k, rfl, rfl⟩) (fun e => by rw [← e]; rfl) fun e => je_one ((h1 e.symm).to (by rw [← e]; rfl))
theorem jv_or2 {k m : Bool} (h : JV X a ρ (.bool k)) (h1 : k = false → JV X b ρ (.bool m)) : JV X (.BoolOp .Or [a, b] pos) ρ (.bool (k || m)) :=
  je_or (P := (· = k)) (h.to ⟨k, rfl, rfl⟩) (fun e => by rw [← e]; rfl) fun e => je_one ((h1 e.symm).to (by rw [← e]; rfl))
theorem je_not {P : Bool → Prop} (h : JE X a ρ fun d => ∃ b, d = .bool b ∧ Q (.bool (!b))) : JE X (.UnaryOp .Not a pos) ρ Q := fun B F H σ k f bb S q => by
  refine toE (pe_not pE) ?_
  refine h B F H σ _ f bb S fun v x F1 H1 px g1 S1 d1 => ?_
  obtain ⟨c, rfl, pc⟩ := px
  rw [d1.bool_]
  exact ⟨c, rfl, q _ _ F1 H1 pc g1 S1 (.bl _)⟩
theorem jv_not {k : Bool} (h : JV X a ρ (.bool k)) : JV X (.UnaryOp .Not a pos) ρ (.bool (!k)) := je_not (P := fun _ => True) (h.to ⟨k, rfl, rfl⟩)
theorem je_if {P : Bool → Prop} (h : JT X c ρ P) (h1 : P true → JE X a ρ Q) (h0 : P false → JE X b ρ Q) : JE X (.IfExp c a b pos) ρ Q := fun B F H σ k f bb S q => by
  refine toE (pe_ifExp pT pE pE) ?_
  refine h B F H σ _ f bb S fun z F1 H1 pz g1 S1 => ?_
  cases z with
  | true => exact iteT (h1 pz B F1 H1 σ _ g1.fh g1.bh S1 fun v d F2 H2 qb g2 S2 d2 => q v d F2 H2 qb (g1.trans g2) S2 d2)
  | false => exact iteF (h0 pz B F1 H1 σ _ g1.fh g1.bh S1 fun v d F2 H2 qb g2 S2 d2 => q v d F2 H2 qb (g1.trans g2) S2 d2)
theorem je_ifV {k : Bool} (h : JTV X c ρ k) (h1 : k = true → JE X a ρ Q) (h0 : k = false → JE X b ρ Q) : JE X (.IfExp c a b pos) ρ Q := je_if h (fun e => h1 e.symm) fun e => h0 e.symm

/-! ### arguments, displays -/
theorem ja_nil {Q : List PyData → Prop} (h : Q []) : JA X [] ρ Q := fun B F H σ k f bb S q => toA pa_nil (q [] [] F H h (Grow.refl f bb) S .nil)
theorem ja_cons {Q : List PyData → Prop} {P : PyData → Prop} (h : JE X e ρ P) (h1 : ∀ d, P d → JA X es ρ fun ds => Q (d :: ds)) (hs : starEach (e :: es) X.env = (false, eval e X.env) :: starEach es X.env := by rfl) : JA X (e :: es) ρ Q := fun B F H σ k f bb S q => by
  refine toA (pa_cons pE pA hs) ?_
  refine h B F H σ _ f bb S fun v d F1 H1 pd g1 S1 d1 => ?_
  exact h1 d pd B F1 H1 σ _ g1.fh g1.bh S1 fun vs ds F2 H2 qd g2 S2 d2 => q (v :: vs) (d :: ds) F2 H2 qd (g1.trans g2) S2 (.cons (d1.same g2.ff) d2)
theorem jav_nil : JAV X [] ρ [] := ja_nil rfl
theorem jav_cons {ds : List PyData} (h : JV X e ρ d) (h1 : JAV X es ρ ds) (hs : starEach (e :: es) X.env = (false, eval e X.env) :: starEach es X.env := by rfl) : JAV X (e :: es) ρ (d :: ds) := ja_cons h (fun d' e' => by subst e'; exact h1.imp fun ds' e'' => by rw [e'']) hs
theorem je_tup {x1} {P : List PyData → Prop} (h : JA X es ρ P) (hl : ∀ ds, P ds → ds.length ≤ sizeLine ∧ Q (.tuple ds)) : JE X (.Tuple es x1 pos) ρ Q := fun B F H σ k f bb S q => by
  refine toE (pe_tup pA) ?_
  refine h B F H σ _ f bb S fun vs ds F1 H1 pd g1 S1 d1 => ⟨by rw [d1.length]; exact (hl ds pd).1, fun p hp => ?_⟩
  have g2 : Grow H1 F1 (upd F1 p (.tup vs)) (upd H1 p (.tup vs)) := Grow.new g1.fh hp
  exact q (.ref p) (.tuple ds) _ _ (hl ds pd).2 (g1.trans (g2.wide g1.bh)) (S1.up g2) (.tup (SqT.of upd_same) (d1.same g2.ff))
theorem jv_tup {x1} {ds : List PyData} (h : JAV X es ρ ds) (hl : ds.length ≤ 100000 := by exact Nat.le_of_ble_eq_true rfl) : JV X (.Tuple es x1 pos) ρ (.tuple ds) := je_tup h fun ds' e' => by
  subst e'
  exact ⟨Nat.le_trans hl (by decide), rfl⟩
theorem jn_lst {P : List PyData → Prop} (h : JA X es ρ P) (hl : ∀ ds, P ds → ds.length ≤ sizeLine) : JN X (.List es pos) ρ P := fun B F H σ k f bb S q => by
  refine toE (pe_lst pA) ?_
  refine h B F H σ _ f bb S fun vs ds F1 H1 pd g1 S1 d1 => ⟨by rw [d1.length]; exact hl ds pd, fun p hp => ?_⟩
  have g2 : Grow H1 F1 F1 (upd H1 p (.lst vs)) := ⟨Same.refl _, g1.fh.trans (same_new hp), same_new hp, fun _ _ e => .inl e⟩
  refine q p vs ds F1 _ pd (g1.trans (g2.wide g1.bh)) (S1.up g2) (g1.bh.free hp) (g1.fh.free hp) upd_same d1 fun i hm e => ?_
  obtain ⟨s, hs, m⟩ := hm
  have := S1.ok i s hs
  cases s with
  | no => cases m
  | val d => cases m
  | own es' =>
    obtain ⟨a, ws, e', _, _, h', _⟩ := this
    rw [e] at e'
    have : p = a := by simpa using e'
    subst this
    rw [hp] at h'
    cases h'
  | sack o =>
    obtain ⟨_, _, _, e', _, _, h', _⟩ := this
    rw [e] at e'
    have : p = o := by simpa using e'
    subst this
    rw [hp] at h'
    cases h'
theorem JN.je {P : List PyData → Prop} (h : JN X e ρ P) (hq : ∀ ds, P ds → Q (.list ds)) : JE X e ρ Q := fun B F H σ k f bb S q => by
  refine h B F H σ k f bb S fun a vs ds F1 H1 pd g1 S1 ba fa ha d1 hm => ?_
  have gf : Same F1 (upd F1 a (.lst vs)) := same_new fa
  have gh : Same (upd F1 a (.lst vs)) H1 := fun b o e => by
    by_cases hb : b = a
    · subst hb; rw [upd_same] at e; rw [← e]; exact ha
    · rw [upd_ne hb] at e; exact g1.fh b o e
  refine q (.ref a) (.list ds) (upd F1 a (.lst vs)) H1 (hq ds pd) ⟨g1.ff.trans gf, gh, g1.bh, fun b o e => ?_⟩ ⟨S1.len, fun i s hs => ?_, S1.dis⟩ (.lst (SqL.of upd_same) (d1.same gf))
  · by_cases hb : b = a
    · subst hb; exact .inr ba
    · rw [upd_ne hb] at e; exact g1.nw b o e
  · have k1 := S1.ok i s hs
    cases s with
    | no => trivial
    | val d =>
      obtain ⟨v, e, hd⟩ := k1
      exact ⟨v, e, hd.same gf⟩
    | own es' =>
      obtain ⟨b, ws, e, b0, f0, h0, d0⟩ := k1
      refine ⟨b, ws, e, b0, ?_, h0, d0.same gf⟩
      have : b ≠ a := fun z => hm i ⟨_, hs, rfl⟩ (by rw [e, z])
      rw [upd_ne this]
      exact f0
    | sack o =>
      obtain ⟨i1, i2, i3, e, b0, f0, h0, z0⟩ := k1
      refine ⟨i1, i2, i3, e, b0, ?_, h0, z0⟩
      have : o ≠ a := fun z => hm i ⟨_, hs, rfl⟩ (by rw [e, z])
      rw [upd_ne this]
      exact f0
theorem jv_lst {ds : List PyData} (h : JAV X es ρ ds) (hl : ds.length ≤ 100000 := by exact Nat.le_of_ble_eq_true rfl) : JV X (.List es pos) ρ (.list ds) :=
  (jn_lst h fun ds' e' => by subst e'; exact Nat.le_trans hl (by decide)).je fun ds' e' => by rw [e']

/-! ### subscripts, slices -/
theorem je_ixT {P : PyData → Prop} (h : JE X a ρ P) (h1 : ∀ x, P x → JE X b ρ fun y => ∃ ds i d, x = .tuple ds ∧ y = .int i ∧ atI ds i = some d ∧ Q d) (hs : PlainIx b := by exact fun _ _ => rfl) : JE X (.Subscript a b pos) ρ Q := fun B F H σ k f bb S q => by
  refine toE (pe_ix ix_tup pE pE hs) ?_
  refine h B F H σ _ f bb S fun v x F1 H1 px g1 S1 d1 => ?_
  refine h1 x px B F1 H1 σ _ g1.fh g1.bh S1 fun w y F2 H2 py g2 S2 d2 => ?_
  obtain ⟨ds, i, d, rfl, rfl, ha, qd⟩ := py
  obtain ⟨p, vs, rfl, hp, hv⟩ := (d1.same g2.ff).tup_
  obtain ⟨u, hu, du⟩ := atI_all hv ha
  rw [d2.int_]
  exact ⟨p, vs, i, u, rfl, rfl, sqT_same g2.fh hp, hu, q u d F2 H2 qd (g1.trans g2) S2 du⟩
theorem je_ixL {P : PyData → Prop} (h : JE X a ρ P) (h1 : ∀ x, P x → JE X b ρ fun y => ∃ ds i d, x = .list ds ∧ y = .int i ∧ atI ds i = some d ∧ Q d) (hs : PlainIx b := by exact fun _ _ => rfl) : JE X (.Subscript a b pos) ρ Q := fun B F H σ k f bb S q => by
  refine toE (pe_ix ix_list pE pE hs) ?_
  refine h B F H σ _ f bb S fun v x F1 H1 px g1 S1 d1 => ?_
  refine h1 x px B F1 H1 σ _ g1.fh g1.bh S1 fun w y F2 H2 py g2 S2 d2 => ?_
  obtain ⟨ds, i, d, rfl, rfl, ha, qd⟩ := py
  obtain ⟨p, vs, rfl, hp, hv⟩ := (d1.same g2.ff).lst_
  obtain ⟨u, hu, du⟩ := atI_all hv ha
  rw [d2.int_]
  exact ⟨p, vs, i, u, rfl, rfl, sqL_same g2.fh hp, hu, q u d F2 H2 qd (g1.trans g2) S2 du⟩
theorem jv_ixT {ds : List PyData} {i : Int} (h : JV X a ρ (.tuple ds)) (h1 : JV X b ρ (.int i)) (ha : atI ds i = some d) (hs : PlainIx b := by exact fun _ _ => rfl) : JV X (.Subscript a b pos) ρ d := je_ixT h (fun x e => by subst e; exact h1.to ⟨ds, i, d, rfl, rfl, ha, rfl⟩) hs
theorem jv_ixL {ds : List PyData} {i : Int} (h : JV X a ρ (.list ds)) (h1 : JV X b ρ (.int i)) (ha : atI ds i = some d) (hs : PlainIx b := by exact fun _ _ => rfl) : JV X (.Subscript a b pos) ρ d := je_ixL h (fun x e => by subst e; exact h1.to ⟨ds, i, d, rfl, rfl, ha, rfl⟩) hs
/-- xs[i] of a list of one's own -/
theorem jv_ixO {x : Str} {px : Pos} {ds : List PyData} {i : Int} (j : Nat) (h : ρ[j]? = some (.own ds)) (h1 : JV X b ρ (.int i)) (ha : atI ds i = some d) (hs : PlainIx b := by exact fun _ _ => rfl) (hN : X.N[j]? = some x := by rfl)
    (hv : Vis X.env.scope x := by first | exact Or.inl rfl | exact Or.inr (Or.inl rfl) | exact Or.inr (Or.inr rfl)) (hd : (x == ("__debug__" : Str)) = false := by decide) (hcd : (x == ("__classdict__" : Str)) = false := by decide) : JV X (.Subscript (.Name x px) b pos) ρ d := fun B F H σ k f bb S q => by
  refine toE (pe_ix ix_list (pe_var hN hv hd hcd) pE hs) ?_
  obtain ⟨o, vs, e, b0, f0, h0, d0⟩ := S.ok j _ h
  refine ⟨.ref o, e, ?_⟩
  refine h1 B F H σ _ f bb S fun w y F2 H2 py g2 S2 d2 => ?_
  subst py
  obtain ⟨o', vs', e', b0', f0', h0', d0'⟩ := S2.ok j _ h
  rw [e] at e'
  have : o = o' := by simpa using e'
  subst this
  obtain ⟨u, hu, du⟩ := atI_all d0' ha
  rw [d2.int_]
  exact ⟨o, vs', i, u, rfl, rfl, SqL.of h0', hu, q u d F2 H2 rfl g2 S2 du⟩
theorem _root_.L2.DpAll.cut {K : PySem.W.Frag} {H : Hp} {vs : List V} {ds : List PyData} (h : DpAll K H vs ds) (lo hi : Option Int) : DpAll K H (cutV vs lo hi) ((ds.drop (HT.sIx ds.length 0 lo)).take (HT.sIx ds.length ds.length hi - HT.sIx ds.length 0 lo)) := by
  unfold cutV
  rw [h.length]
  exact (h.drop _).take _
end
end Wf

namespace Wf
open PySem PySem.Spec PyProof.Rows L2

/-! ### statements -/
structure AE where
  nx : Rho → Prop
  rt : PyData → Rho → Prop
  bk : Rho → Prop := fun _ => False
  ct : Rho → Prop := fun _ => False
  /-- a list of one's own is given back -/
  ro : List PyData → Rho → Prop := fun _ _ => False
structure Real (K : PySem.W.Frag) (B F : Hp) (A : AE) (D : Ends) : Prop where
  nx : ∀ ρ' σ' F' H', A.nx ρ' → Grow B F F' H' → Slots K B F' H' σ' ρ' → D.nx σ' H'
  rt : ∀ v d ρ' σ' F' H', A.rt d ρ' → Grow B F F' H' → Slots K B F' H' σ' ρ' → Dp K F' v d → D.rt v H'
  bk : ∀ ρ' σ' F' H', A.bk ρ' → Grow B F F' H' → Slots K B F' H' σ' ρ' → D.bk σ' H'
  ct : ∀ ρ' σ' F' H', A.ct ρ' → Grow B F F' H' → Slots K B F' H' σ' ρ' → D.ct σ' H'
  ro : ∀ a ws ds ρ' σ' F' H', A.ro ds ρ' → Grow B F F' H' → Slots K B F' H' σ' ρ' → B a = none → F' a = none → H' a = some (.lst ws) → DpAll K F' ws ds → D.rt (.ref a) H'
theorem Real.up {K : PySem.W.Frag} {B F F' H' : Hp} {A : AE} {D : Ends} (R : Real K B F A D) (g : Grow B F F' H') : Real K B F' A D :=
  ⟨fun ρ' σ' F' H' a g' S => R.nx ρ' σ' F' H' a (g.trans g') S, fun v d ρ' σ' F' H' a g' S h => R.rt v d ρ' σ' F' H' a (g.trans g') S h, fun ρ' σ' F' H' a g' S => R.bk ρ' σ' F' H' a (g.trans g') S, fun ρ' σ' F' H' a g' S => R.ct ρ' σ' F' H' a (g.trans g') S, fun a ws ds ρ' σ' F' H' h g' S b0 f0 h0 d0 => R.ro a ws ds ρ' σ' F' H' h (g.trans g') S b0 f0 h0 d0⟩
/-- a block -/
def JB (X : Cx) (sts : List Stmt) (ρ : Rho) (A : AE) : Prop :=
  ∀ (B F H : Hp) (σ : L2.St) (D : Ends), Same F H → Same B H → Slots X.K B F H σ ρ → Real X.K B F A D → wB X sts D σ H
/-- a target takes a value -/
def wG (X : Cx) (tg : Expr) : TG := fun v σ H Q => ∀ (pins : List (Addr × Obj)) (s : Shared) (u : Value), Inv X pins σ H s → RelV v u →
  wpAny (model X.prog X.w) X.A (assign tg X.env u) (fun _ s' => ∃ σ' H', Inv X pins σ' H' s' ∧ Q σ' H') X.xe s
theorem pG {X : Cx} {tg : Expr} : PG X tg (wG X tg) := ⟨fun pins s _ _ _ u _ I r h => h pins s u I r⟩
theorem toG {X : Cx} {tg : Expr} {t : TG} {v : V} {σ : L2.St} {H : Hp} {Q : L2.St → Hp → Prop} (h : PG X tg t) (q : t v σ H Q) : wG X tg v σ H Q := fun pins s u I r => h.run pins s σ H v u Q I r q
def JG (X : Cx) (tg : Expr) (d : PyData) (ρ : Rho) (R : Rho → Prop) : Prop :=
  ∀ (B F H : Hp) (σ : L2.St) (v : V) (k : L2.St → Hp → Prop), Same F H → Same B H → Slots X.K B F H σ ρ → Dp X.K F v d → (∀ ρ' σ' F' H', R ρ' → Grow B F F' H' → Slots X.K B F' H' σ' ρ' → k σ' H') → wG X tg v σ H k
/-- a thing to walk: n turns, item i -/
structure Wk (K : PySem.W.Frag) (F0 : Hp) (J : It) (n : Nat) (item : Nat → PyData) : Prop where
  go : ∀ i H, i < n → Same F0 H → J.go i H
  stop : ∀ H, Same F0 H → J.stop n H
  yld : ∀ i F H x H', i < n → Same F0 F → Same F H → J.yld i H x H' → ∃ F', Grow H F F' H' ∧ Dp K F' x (item i)
def wI (X : Cx) (tg iter : Expr) : TI := fun σ H R => ∀ (pins : List (Addr × Obj)) (s : Shared), Inv X pins σ H s →
  wpAny (model X.prog X.w) X.A (eval iter X.env) (fun v s1 => wpAny (model X.prog X.w) X.A (pyIter v) (PIE X pins σ tg R) X.xe s1) X.xe s
theorem pI {X : Cx} {tg iter : Expr} : PI X tg iter (wI X tg iter) := ⟨fun pins s _ _ _ I h => h pins s I⟩
theorem toI {X : Cx} {tg iter : Expr} {t : TI} {σ : L2.St} {H : Hp} {R : It → Hp → Prop} (h : PI X tg iter t) (q : t σ H R) : wI X tg iter σ H R := fun pins s I => h.run pins s σ H R I q
def JI (X : Cx) (tg iter : Expr) (ρ : Rho) (n : Nat) (item : Nat → PyData) : Prop :=
  ∀ (B F H : Hp) (σ : L2.St) (R : It → Hp → Prop), Same F H → Same B H → Slots X.K B F H σ ρ → (∀ J F' H', Grow B F F' H' → Slots X.K B F' H' σ ρ → Wk X.K F' J n item → R J H') → wI X tg iter σ H R

section
variable {X : Cx} {ρ : Rho} {A : AE} {e c tg iter : Expr} {st : Stmt} {rest a b body : List Stmt} {pos : Pos} {Q : PyData → Prop}
theorem jb_nil (is : List Nat) (h : A.nx (forget is ρ)) : JB X [] ρ A := fun B F H σ D f bb S R => toB pss_nil (R.nx _ σ F H h (Grow.refl f bb) (S.forget is))
theorem jb_forget (is : List Nat) (h : JB X rest (forget is ρ) A) : JB X rest ρ A := fun B F H σ D f bb S R => h B F H σ D f bb (S.forget is) R
theorem jb_ret (h : JE X e ρ fun d => A.rt d ρ) : JB X (.Return (some e) pos :: rest) ρ A := fun B F H σ D f bb S R => by
  refine toB (pss_cons (ps_ret pE) pss_never) ?_
  exact h B F H σ _ f bb S fun v d F1 H1 q g1 S1 d1 => R.rt v d ρ σ F1 H1 q g1 S1 d1
theorem jb_retN (h : JN X e ρ fun ds => A.ro ds ρ) : JB X (.Return (some e) pos :: rest) ρ A := fun B F H σ D f bb S R => by
  refine toB (pss_cons (ps_ret pE) pss_never) ?_
  exact h B F H σ _ f bb S fun a ws ds F1 H1 q g1 S1 b1 f1 h1 d1 _ => R.ro a ws ds ρ σ F1 H1 q g1 S1 b1 f1 h1 d1
theorem jb_drop (h : JE X e ρ Q) (k : ∀ d, Q d → JB X rest ρ A) (hs : swapsWith e none pos.line X.env = pure false := by rfl) : JB X (.Expr e pos :: rest) ρ A := fun B F H σ D f bb S R => by
  refine toB (pss_cons (ps_expr pE hs) pB) ?_
  exact h B F H σ _ f bb S fun v d F1 H1 q g1 S1 d1 => k d q B F1 H1 σ D g1.fh g1.bh S1 (R.up g1)
theorem jb_asg (h : JE X e ρ Q) (k : ∀ d, Q d → JG X tg d ρ fun ρ' => JB X rest ρ' A) (hs : swapsWithSole [tg] e pos.line X.env = pure false := by rfl) (hw : swappedStores [tg] e X.env = pure none := by rfl) (h1 : (assignEach [tg] X.env).map (·.2) = [assign tg X.env] := by rfl) : JB X (.Assign [tg] e pos :: rest) ρ A := fun B F H σ D f bb S R => by
  refine toB (pss_cons (ps_asg pE pG hs hw h1) pB) ?_
  refine h B F H σ _ f bb S fun v d F1 H1 q g1 S1 d1 => ?_
  exact k d q B F1 H1 σ v _ g1.fh g1.bh S1 d1 fun ρ' σ' F2 H2 r g2 S2 => r B F2 H2 σ' D g2.fh g2.bh S2 (R.up (g1.trans g2))
theorem jb_set (i : Nat) {x : Str} {px : Pos} (h : JE X e ρ Q) (k : ∀ d, Q d → JB X rest (ρ.set i (.val d)) A) (hN : X.N.Nodup) (hi : X.N[i]? = some x := by rfl) (hx : Loc X.env.scope x := by first | exact Or.inl rfl | exact Or.inr rfl)
    (hs : swapsWith e (some (.Name x px)) pos.line X.env = pure false := by rfl) (hf : X.fn x = true ∨ X.env.scope.names.lookup x = some .local := by first | exact .inl rfl | exact .inr rfl) : JB X (.Assign [.Name x px] e pos :: rest) ρ A := fun B F H σ D f bb S R => by
  refine toB (pss_cons (ps_set hN hi hx pE hs hf) pB) ?_
  refine h B F H σ _ f bb S fun v d F1 H1 q g1 S1 d1 => ?_
  exact k d q B F1 H1 _ D g1.fh g1.bh (S1.set d1) (R.up g1)
theorem jb_setV (i : Nat) {x : Str} {px : Pos} {d : PyData} (h : JV X e ρ d) (k : JB X rest (ρ.set i (.val d)) A) (hN : X.N.Nodup) (hi : X.N[i]? = some x := by rfl) (hx : Loc X.env.scope x := by first | exact Or.inl rfl | exact Or.inr rfl)
    (hs : swapsWith e (some (.Name x px)) pos.line X.env = pure false := by rfl) (hf : X.fn x = true ∨ X.env.scope.names.lookup x = some .local := by first | exact .inl rfl | exact .inr rfl) : JB X (.Assign [.Name x px] e pos :: rest) ρ A :=
  jb_set i h (fun d' e' => by subst e'; exact k) hN hi hx hs hf
theorem jb_if {P : Bool → Prop} (h : JT X c ρ P) (h1 : P true → JB X a ρ { A with nx := fun ρ' => JB X rest ρ' A }) (h0 : P false → JB X b ρ { A with nx := fun ρ' => JB X rest ρ' A }) : JB X (.If c a b pos :: rest) ρ A := fun B F H σ D f bb S R => by
  refine toB (pss_cons (ps_if pT pB pB) pB) ?_
  refine h B F H σ _ f bb S fun z F1 H1 pz g1 S1 => ?_
  have R1 : Real X.K B F1 { A with nx := fun ρ' => JB X rest ρ' A } { D with nx := wB X rest D } := ⟨fun ρ' σ' F2 H2 r g2 S2 => r B F2 H2 σ' D g2.fh g2.bh S2 (R.up (g1.trans g2)), (R.up g1).rt, (R.up g1).bk, (R.up g1).ct, (R.up g1).ro⟩
  cases z with
  | true => exact iteT (h1 pz B F1 H1 σ _ g1.fh g1.bh S1 R1)
  | false => exact iteF (h0 pz B F1 H1 σ _ g1.fh g1.bh S1 R1)
theorem jb_ifV {k : Bool} (h : JTV X c ρ k) (h1 : k = true → JB X a ρ { A with nx := fun ρ' => JB X rest ρ' A }) (h0 : k = false → JB X b ρ { A with nx := fun ρ' => JB X rest ρ' A }) : JB X (.If c a b pos :: rest) ρ A := jb_if h (fun e => h1 e.symm) fun e => h0 e.symm
/-- no else -/
theorem jb_when {P : Bool → Prop} (h : JT X c ρ P) (h1 : P true → JB X a ρ { A with nx := fun ρ' => JB X rest ρ' A }) (h0 : P false → JB X rest ρ A) : JB X (.If c a [] pos :: rest) ρ A := jb_if h h1 fun p => jb_nil [] (h0 p)
theorem jb_whenV {k : Bool} (h : JTV X c ρ k) (h1 : k = true → JB X a ρ { A with nx := fun ρ' => JB X rest ρ' A }) (h0 : k = false → JB X rest ρ A) : JB X (.If c a [] pos :: rest) ρ A := jb_when h (fun e => h1 e.symm) fun e => h0 e.symm
/-- a test that is never true -/
theorem jb_unless {k : Bool} (h : JTV X c ρ k) (hk : k = false) (h0 : JB X rest ρ A) : JB X (.If c a [] pos :: rest) ρ A := jb_when h (fun e => by rw [hk] at e; cases e) fun _ => h0

/-! ### targets -/
theorem jg_name (i : Nat) {x : Str} {px : Pos} {d : PyData} {R : Rho → Prop} (h : R (ρ.set i (.val d))) (hN : X.N.Nodup) (hi : X.N[i]? = some x := by rfl) (hx : Loc X.env.scope x := by first | exact Or.inl rfl | exact Or.inr rfl)
    (hf : X.fn x = true ∨ X.env.scope.names.lookup x = some .local := by first | exact .inl rfl | exact .inr rfl) : JG X (.Name x px) d ρ R := fun B F H σ v k f bb S hd q =>
  toG (pg_name hN hi hx hf) (q _ _ F H h (Grow.refl f bb) (S.set hd))
def wGs (X : Cx) (tgs : List Expr) : TGs := fun vs σ H Q => ∀ (pins : List (Addr × Obj)) (s : Shared) (us : List Value), Inv X pins σ H s → Vals vs us →
  wpAny (model X.prog X.w) X.A (assignInOrder ((assignEach tgs X.env).map (·.2)) us) (fun _ s' => ∃ σ' H', Inv X pins σ' H' s' ∧ Q σ' H') X.xe s
theorem pGs {tgs : List Expr} : PGs X tgs (wGs X tgs) := ⟨fun pins s _ _ _ us _ I r h => h pins s us I r⟩
def JGs (X : Cx) (tgs : List Expr) (ds : List PyData) (ρ : Rho) (R : Rho → Prop) : Prop :=
  ∀ (B F H : Hp) (σ : L2.St) (vs : List V) (k : L2.St → Hp → Prop), Same F H → Same B H → Slots X.K B F H σ ρ → DpAll X.K F vs ds → (∀ ρ' σ' F' H', R ρ' → Grow B F F' H' → Slots X.K B F' H' σ' ρ' → k σ' H') → wGs X tgs vs σ H k
theorem jgs_nil {R : Rho → Prop} (h : R ρ) : JGs X [] [] ρ R := fun B F H σ vs k f bb S hd q pins s us I r => by
  cases hd
  exact pgs_nil.run pins s σ H [] us k I r ⟨rfl, q ρ σ F H h (Grow.refl f bb) S⟩
theorem jgs_cons {t : Expr} {ts : List Expr} {d : PyData} {ds : List PyData} {R : Rho → Prop} (h : JG X t d ρ fun ρ' => JGs X ts ds ρ' R) (hs : (assignEach (t :: ts) X.env).map (·.2) = assign t X.env :: (assignEach ts X.env).map (·.2) := by rfl) : JGs X (t :: ts) (d :: ds) ρ R := fun B F H σ vs k f bb S hd q pins s us I r => by
  cases hd with
  | cons h1 h2 =>
    rename_i v vs
    refine (pgs_cons pG pGs hs).run pins s σ H (v :: vs) us k I r ⟨v, vs, rfl, ?_⟩
    exact h B F H σ v _ f bb S h1 fun ρ' σ' F1 H1 r1 g1 S1 => r1 B F1 H1 σ' vs k g1.fh g1.bh S1 (h2.same g1.ff) fun ρ'' σ'' F2 H2 r2 g2 S2 => q ρ'' σ'' F2 H2 r2 (g1.trans g2) S2

theorem jg_tup {es : List Expr} {k : Nat} {ds : List PyData} {R : Rho → Prop} (h : JGs X es ds ρ R) (hc : X.calm = true := by rfl) (hn : (assignEach es X.env).length = ds.length := by rfl) (hst : (assignEach es X.env).findIdx? (·.1) = none := by rfl) : JG X (.Tuple es k pos) (.tuple ds) ρ R := fun B F H σ v kk f bb S hd q => by
  refine toG (pg_tup hc pGs hn hst) ?_
  obtain ⟨a, vs, rfl, hs, hv⟩ := hd.tup_
  exact ⟨a, vs, rfl, sqT_same f hs, hv.length, h B F H σ vs kk f bb S hv q⟩
theorem jg_unl {es : List Expr} {k : Nat} {ds : List PyData} {R : Rho → Prop} (h : JGs X es ds ρ R) (hc : X.calm = true := by rfl) (hn : (assignEach es X.env).length = ds.length := by rfl) (hst : (assignEach es X.env).findIdx? (·.1) = none := by rfl) : JG X (.Tuple es k pos) (.list ds) ρ R := fun B F H σ v kk f bb S hd q => by
  refine toG (pg_unl hc pGs hn hst) ?_
  obtain ⟨a, vs, rfl, hs, hv⟩ := hd.lst_
  exact ⟨a, vs, rfl, sqL_same f hs, hv.length, h B F H σ vs kk f bb S hv q⟩
/-- a, b = x, y: two local names -/
theorem jb_par (i j : Nat) {x y : Str} {px py pt : Pos} {kt k2 : Nat} {pt2 : Pos} {a b : Expr} {P : List PyData → Prop} (h : JA X [a, b] ρ P) (k : ∀ ds, P ds → ∃ d1 d2, ds = [d1, d2] ∧ JB X rest ((ρ.set i (.val d1)).set j (.val d2)) A) (hN : X.N.Nodup) (hc : X.calm = true := by rfl)
    (hi : X.N[i]? = some x := by rfl) (hj : X.N[j]? = some y := by rfl) (hij : i ≠ j := by decide) (hx : X.env.scope.names.lookup x = some .local := by rfl) (hy : X.env.scope.names.lookup y = some .local := by rfl)
    (hw : swappedStores [.Tuple [.Name x px, .Name y py] kt pt] (.Tuple [a, b] k2 pt2) X.env = pure (some [x, y]) := by rfl) (hs : swapsWithSole [.Tuple [.Name x px, .Name y py] kt pt] (.Tuple [a, b] k2 pt2) pos.line X.env = pure false := by rfl) :
    JB X (.Assign [.Tuple [.Name x px, .Name y py] kt pt] (.Tuple [a, b] k2 pt2) pos :: rest) ρ A := fun B F H σ D f bb S R => by
  refine toB (pss_cons (ps_par hc hN hi hj hij hx hy pA hw hs) pB) ?_
  refine h B F H σ _ f bb S fun vs ds F1 H1 pd g1 S1 d1 => ?_
  obtain ⟨e1, e2, rfl, hk⟩ := k ds pd
  cases d1 with
  | cons q1 q2 =>
    cases q2 with
    | cons q2 q3 =>
      cases q3
      exact ⟨_, _, rfl, hk B F1 H1 _ D g1.fh g1.bh ((S1.set q1).set q2) (R.up g1)⟩
theorem jb_parV (i j : Nat) {x y : Str} {px py pt : Pos} {kt k2 : Nat} {pt2 : Pos} {a b : Expr} {d1 d2 : PyData} (h1 : JV X a ρ d1) (h2 : JV X b ρ d2) (k : JB X rest ((ρ.set i (.val d1)).set j (.val d2)) A) (hN : X.N.Nodup) (hc : X.calm = true := by rfl)
    (hi : X.N[i]? = some x := by rfl) (hj : X.N[j]? = some y := by rfl) (hij : i ≠ j := by decide) (hx : X.env.scope.names.lookup x = some .local := by rfl) (hy : X.env.scope.names.lookup y = some .local := by rfl)
    (hw : swappedStores [.Tuple [.Name x px, .Name y py] kt pt] (.Tuple [a, b] k2 pt2) X.env = pure (some [x, y]) := by rfl) (hs : swapsWithSole [.Tuple [.Name x px, .Name y py] kt pt] (.Tuple [a, b] k2 pt2) pos.line X.env = pure false := by rfl)
    (s1 : starEach [a, b] X.env = (false, eval a X.env) :: starEach [b] X.env := by rfl) (s2 : starEach [b] X.env = (false, eval b X.env) :: starEach [] X.env := by rfl) :
    JB X (.Assign [.Tuple [.Name x px, .Name y py] kt pt] (.Tuple [a, b] k2 pt2) pos :: rest) ρ A :=
  jb_par i j (jav_cons h1 (jav_cons h2 jav_nil s2) s1) (fun ds e => ⟨d1, d2, e, k⟩) hN hc hi hj hij hx hy hw hs

/-! ### what is walked -/
theorem ji_list {ds : List PyData} (h : JV X iter ρ (.list ds)) : JI X tg iter ρ ds.length (fun i => ds.getD i .none) := fun B F H σ R f bb S q => by
  refine toI (pi_list pE) ?_
  refine h B F H σ _ f bb S fun v d F1 H1 e g1 S1 d1 => ?_
  subst e
  obtain ⟨a, vs, rfl, hs, hv⟩ := d1.lst_
  refine ⟨a, rfl, ⟨vs, sqL_same g1.fh hs⟩, q _ F1 H1 g1 S1 ⟨fun i H' hi hh => ?_, fun H' hh => ⟨vs, sqL_same hh hs, by rw [hv.length]; exact Nat.le_refl _⟩, fun i F2 H2 x H3 hi h1 h2 y => ?_⟩⟩
  · have hl : i < vs.length := by rw [hv.length]; exact hi
    exact ⟨vs, vs[i], sqL_same hh hs, by simp [hl]⟩
  · obtain ⟨rfl, y⟩ := y
    have e := y vs (sqL_same (h1.trans h2) hs)
    obtain ⟨d, ed, hd⟩ := hv.get' e
    refine ⟨F2, Grow.refl h2 (Same.refl _), ?_⟩
    have : ds.getD i .none = d := by rw [List.getD_eq_getElem?_getD, ed]; rfl
    rw [this]
    exact hd.same h1
theorem ji_tup {ds : List PyData} (h : JV X iter ρ (.tuple ds)) : JI X tg iter ρ ds.length (fun i => ds.getD i .none) := fun B F H σ R f bb S q => by
  refine toI (pi_tup pE) ?_
  refine h B F H σ _ f bb S fun v d F1 H1 e g1 S1 d1 => ?_
  subst e
  obtain ⟨a, vs, rfl, hs, hv⟩ := d1.tup_
  refine ⟨a, rfl, ⟨vs, sqT_same g1.fh hs⟩, q _ F1 H1 g1 S1 ⟨fun i H' hi hh => ?_, fun H' hh => ⟨vs, sqT_same hh hs, by rw [hv.length]; exact Nat.le_refl _⟩, fun i F2 H2 x H3 hi h1 h2 y => ?_⟩⟩
  · have hl : i < vs.length := by rw [hv.length]; exact hi
    exact ⟨vs, vs[i], sqT_same hh hs, by simp [hl]⟩
  · obtain ⟨rfl, y⟩ := y
    have e := y vs (sqT_same (h1.trans h2) hs)
    obtain ⟨d, ed, hd⟩ := hv.get' e
    refine ⟨F2, Grow.refl h2 (Same.refl _), ?_⟩
    have : ds.getD i .none = d := by rw [List.getD_eq_getElem?_getD, ed]; rfl
    rw [this]
    exact hd.same h1
theorem ji_range {a : Expr} {p : Pos} {n : Nat} {P : PyData → Prop} (hg : Gl X "range") (hm : X.mg "range" = none) (h : JV X a ρ (.int n)) (hn : n ≤ 100000) (hs : starEach [a] X.env = [(false, eval a X.env)] := by rfl) (s1 : starEach [a] X.env = (false, eval a X.env) :: starEach [] X.env := by rfl) :
    JI X tg (.Call (.Name "range" p) [a] [] pos) ρ n (fun i => .int i) := fun B F H σ R f bb S q => by
  refine toI (pi_range1 hg hm pA hs) ?_
  refine (jav_cons h jav_nil s1) B F H σ _ f bb S fun vs ds F1 H1 e g1 S1 d1 => ?_
  subst e
  cases d1 with
  | cons q1 q2 =>
    cases q2
    rw [q1.int_]
    refine ⟨n, rfl, by omega, by omega, ?_⟩
    have : (n : Int).toNat = n := by omega
    rw [this]
    refine q _ F1 H1 g1 S1 ⟨fun i H' hi hh => hi, fun H' hh => Nat.le_refl _, fun i F2 H2 x H3 hi h1 h2 y => ?_⟩
    obtain ⟨rfl, rfl⟩ := y
    refine ⟨F2, Grow.refl h2 (Same.refl _), ?_⟩
    have : (0 : Int) + (i : Int) = i := by omega
    rw [this]
    exact .int _

/-! ### loops -/
theorem jb_for {n : Nat} {item : Nat → PyData} (J : Nat → Rho → Prop) (hi : JI X tg iter ρ n item) (h0 : J 0 ρ) (hs : ∀ i ρ', i < n → J i ρ' → JG X tg (item i) ρ' fun ρ'' => JB X body ρ'' { A with nx := J (i + 1), ct := J (i + 1), bk := fun ρ' => JB X rest ρ' A })
    (hd : ∀ ρ', J n ρ' → JB X rest ρ' A) (hp : PassesOwn (model X.prog X.w) X.A X.env X.xe := by exact PassesOwn.never) (hc : X.calm = true := by rfl) (hf : ∀ x, foldedSetIterable iter X.env x = pure x := by intro _; rfl) : JB X (.For tg iter body [] pos :: rest) ρ A := fun B F H σ D f bb S R => by
  refine toB (pss_cons (ps_for hp hc pI pG pB hf) pB) ?_
  refine hi B F H σ _ f bb S fun It F1 H1 g1 S1 wk => ?_
  refine ⟨fun i m σ' H' => m = n - i ∧ i ≤ n ∧ ∃ ρ' F', J i ρ' ∧ Grow B F1 F' H' ∧ Slots X.K B F' H' σ' ρ', ⟨n, by omega, Nat.zero_le _, ρ, F1, h0, Grow.refl g1.fh g1.bh, S1⟩, ?_⟩
  rintro i m σ' H' ⟨rfl, hin, ρ', F', hj, g', S'⟩
  by_cases hlt : i < n
  · refine .inr ⟨wk.go i H' hlt (g'.ff.trans g'.fh), fun σ2 H2 => ∃ ρ2 F2, J (i + 1) ρ2 ∧ Grow B F1 F2 H2 ∧ Slots X.K B F2 H2 σ2 ρ2, fun σ2 H2 ⟨ρ2, F2, j2, g2, S2⟩ => ⟨n - (i + 1), by omega, rfl, by omega, ρ2, F2, j2, g2, S2⟩, fun x H2 hy => ?_⟩
    obtain ⟨F2, g2, d2⟩ := wk.yld i F' H' x H2 hlt g'.ff g'.fh hy
    have g3 : Grow B F1 F2 H2 := g'.trans (g2.wide g'.bh)
    refine hs i ρ' hlt hj B F2 H2 σ' x _ g2.fh g3.bh (S'.up g2) d2 fun ρ4 σ4 F4 H4 r4 g4 S4 => ?_
    have g5 := g3.trans g4
    refine r4 B F4 H4 σ4 _ g4.fh g4.bh S4 ⟨fun ρ6 σ6 F6 H6 j6 g6 S6 => ⟨ρ6, F6, j6, g5.trans g6, S6⟩, fun v d ρ6 σ6 F6 H6 a6 g6 S6 d6 => R.rt v d ρ6 σ6 F6 H6 a6 (g1.trans (g5.trans g6)) S6 d6, fun ρ6 σ6 F6 H6 a6 g6 S6 => a6 B F6 H6 σ6 D g6.fh g6.bh S6 (R.up (g1.trans (g5.trans g6))), fun ρ6 σ6 F6 H6 j6 g6 S6 => ⟨ρ6, F6, j6, g5.trans g6, S6⟩, fun a ws ds ρ6 σ6 F6 H6 a6 g6 S6 b0 f0 h0 d0 => R.ro a ws ds ρ6 σ6 F6 H6 a6 (g1.trans (g5.trans g6)) S6 b0 f0 h0 d0⟩
  · have e : i = n := by omega
    subst e
    exact .inl ⟨wk.stop H' (g'.ff.trans g'.fh), hd ρ' hj B F' H' σ' D g'.fh g'.bh S' (R.up (g1.trans g'))⟩
theorem jb_while (J : Nat → Rho → Prop) (m0 : Nat) (h0 : J m0 ρ) (hs : ∀ m ρ', J m ρ' → ∃ P : Bool → Prop, JT X c ρ' P ∧ (P true → JB X body ρ' { A with nx := fun ρ'' => ∃ m', m' < m ∧ J m' ρ'', ct := fun ρ'' => ∃ m', m' < m ∧ J m' ρ'', bk := fun ρ' => JB X rest ρ' A }) ∧ (P false → JB X rest ρ' A))
    (hp : PassesOwn (model X.prog X.w) X.A X.env X.xe := by exact PassesOwn.never) : JB X (.While c body [] pos :: rest) ρ A := fun B F H σ D f bb S R => by
  refine toB (pss_cons (ps_while hp pT pB) pB) ?_
  refine ⟨fun m σ' H' => ∃ ρ' F', J m ρ' ∧ Grow B F F' H' ∧ Slots X.K B F' H' σ' ρ', ⟨m0, ρ, F, h0, Grow.refl f bb, S⟩, ?_⟩
  rintro m σ' H' ⟨ρ', F', hj, g', S'⟩
  obtain ⟨P, ht, h1, h2⟩ := hs m ρ' hj
  refine ht B F' H' σ' _ g'.fh g'.bh S' fun z F2 H2 pz g2 S2 => ?_
  cases z with
  | true =>
    refine iteT ⟨fun σ2 H2 => ∃ m', m' < m ∧ ∃ ρ2 F2, J m' ρ2 ∧ Grow B F F2 H2 ∧ Slots X.K B F2 H2 σ2 ρ2, fun σ2 H2 ⟨m', hm, ρ2, F2, j2, g2, S2⟩ => ⟨m', hm, ρ2, F2, j2, g2, S2⟩, ?_⟩
    have g3 := g'.trans g2
    refine h1 pz B F2 H2 σ' _ g2.fh g2.bh S2 ⟨fun ρ6 σ6 F6 H6 ⟨m', hm, j6⟩ g6 S6 => ⟨m', hm, ρ6, F6, j6, g3.trans g6, S6⟩, fun v d ρ6 σ6 F6 H6 a6 g6 S6 d6 => R.rt v d ρ6 σ6 F6 H6 a6 (g3.trans g6) S6 d6, fun ρ6 σ6 F6 H6 a6 g6 S6 => a6 B F6 H6 σ6 D g6.fh g6.bh S6 (R.up (g3.trans g6)), fun ρ6 σ6 F6 H6 ⟨m', hm, j6⟩ g6 S6 => ⟨m', hm, ρ6, F6, j6, g3.trans g6, S6⟩, fun a ws ds ρ6 σ6 F6 H6 a6 g6 S6 b0 f0 h0 d0 => R.ro a ws ds ρ6 σ6 F6 H6 a6 (g3.trans g6) S6 b0 f0 h0 d0⟩
  | false => exact iteF (h2 pz B F2 H2 σ' D g2.fh g2.bh S2 (R.up (g'.trans g2)))
end
end Wf

namespace Wf
open PySem PySem.Spec PyProof.Rows L2

/-! ### lists of one's own -/
section
variable {K : PySem.W.Frag} {B F H : Hp} {σ : L2.St} {ρ : Rho} {j : Nat} {ds : List PyData}
/-- the list at a is changed -/
theorem Slots.own_upd {a : Addr} {vs' : List V} {ds' : List PyData} (S : Slots K B F H σ ρ) (fh : Same F H) (bh : Same B H) (h : ρ[j]? = some (.own ds)) (e : σ[j]? = some (some (.ref a))) (b0 : B a = none) (f0 : F a = none) (d' : DpAll K F vs' ds') :
    Slots K B F (upd H a (.lst vs')) σ (ρ.set j (.own ds')) ∧ Grow B F F (upd H a (.lst vs')) := by
  have hl : j < ρ.length := (List.getElem?_eq_some_iff.mp h).1
  refine ⟨⟨by rw [List.length_set]; exact S.len, fun i s hs => ?_, fun i k c hn hi hk e1 e2 => ?_⟩, ⟨Same.refl F, fun c o q => ?_, fun c o q => ?_, fun c o q => .inl q⟩⟩
  · by_cases hj : j = i
    · subst hj
      rw [List.getElem?_set] at hs
      simp at hs
      rw [← hs.2]
      exact ⟨a, vs', e, b0, f0, upd_same, d'⟩
    · rw [List.getElem?_set_ne hj] at hs
      have k1 := S.ok i s hs
      have nd : ∀ c, IsMut ρ i → σ[i]? = some (some (.ref c)) → c ≠ a := fun c m q z => S.dis j i a hj ⟨_, h, rfl⟩ m e (by rw [q, z])
      cases s with
      | no => trivial
      | val d => exact k1
      | own es =>
        obtain ⟨c, ws, q1, q2, q3, q4, q5⟩ := k1
        exact ⟨c, ws, q1, q2, q3, by rw [upd_ne (nd c ⟨_, hs, rfl⟩ q1)]; exact q4, q5⟩
      | sack o =>
        obtain ⟨i1, i2, i3, q1, q2, q3, q4, q5⟩ := k1
        exact ⟨i1, i2, i3, q1, q2, q3, by rw [upd_ne (nd o ⟨_, hs, rfl⟩ q1)]; exact q4, q5⟩
  · have mv : ∀ i, IsMut (ρ.set j (.own ds')) i → IsMut ρ i := fun i ⟨s, q, m⟩ => by
      by_cases hj : j = i
      · subst hj; exact ⟨_, h, rfl⟩
      · rw [List.getElem?_set_ne hj] at q; exact ⟨s, q, m⟩
    exact S.dis i k c hn (mv i hi) (mv k hk) e1 e2
  · have : c ≠ a := fun z => by rw [z, f0] at q; cases q
    rw [upd_ne this]; exact fh c o q
  · have : c ≠ a := fun z => by rw [z, b0] at q; cases q
    rw [upd_ne this]; exact bh c o q
/-- a list of one's own put into a slot -/
theorem Slots.own_put {a : Addr} {vs : List V} (S : Slots K B F H σ ρ) (b0 : B a = none) (f0 : F a = none) (h0 : H a = some (.lst vs)) (d0 : DpAll K F vs ds) (hm : ∀ i : Nat, IsMut ρ i → σ[i]? ≠ some (some (.ref a))) : Slots K B F H (σ.set j (some (.ref a))) (ρ.set j (.own ds)) := by
  refine ⟨by rw [List.length_set, List.length_set]; exact S.len, fun i s hs => ?_, fun i k c hn hi hk e1 e2 => ?_⟩
  · by_cases hj : j = i
    · subst hj
      rw [List.getElem?_set] at hs
      simp at hs
      obtain ⟨hl, hs⟩ := hs
      rw [← hs]
      refine ⟨a, vs, ?_, b0, f0, h0, d0⟩
      rw [List.getElem?_set]
      simp [S.len, hl]
    · rw [List.getElem?_set_ne hj] at hs ⊢
      exact S.ok i s hs
  · have mv : ∀ i, i ≠ j → IsMut (ρ.set j (.own ds)) i → IsMut ρ i := fun i hj ⟨s, q, m⟩ => by
      rw [List.getElem?_set_ne (Ne.symm hj)] at q; exact ⟨s, q, m⟩
    have at_ : ∀ c, (σ.set j (some (.ref a)))[j]? = some (some (.ref c)) → c = a := fun c q => by
      rw [List.getElem?_set] at q
      simp at q
      exact q.2.symm
    by_cases hi' : i = j
    · subst hi'
      have := at_ c e1
      subst this
      rw [List.getElem?_set_ne hn] at e2
      exact hm k (mv k (Ne.symm hn) hk) e2
    · by_cases hk' : k = j
      · subst hk'
        have := at_ c e2
        subst this
        rw [List.getElem?_set_ne (Ne.symm hn)] at e1
        exact hm i (mv i hi' hi) e1
      · rw [List.getElem?_set_ne (Ne.symm hi')] at e1
        rw [List.getElem?_set_ne (Ne.symm hk')] at e2
        exact S.dis i k c hn (mv i hi' hi) (mv k hk' hk) e1 e2
/-- .. and given away as data -/
theorem Slots.seal (S : Slots K B F H σ ρ) (fh : Same F H) (bh : Same B H) (h : ρ[j]? = some (.own ds)) : ∃ F', Grow B F F' H ∧ Slots K B F' H σ (ρ.set j (.val (.list ds))) := by
  have hl : j < ρ.length := (List.getElem?_eq_some_iff.mp h).1
  obtain ⟨a, vs, e, b0, f0, h0, d0⟩ := S.ok j _ h
  have gf : Same F (upd F a (.lst vs)) := same_new f0
  refine ⟨upd F a (.lst vs), ⟨gf, fun c o q => ?_, bh, fun c o q => ?_⟩, ⟨by rw [List.length_set]; exact S.len, fun i s hs => ?_, fun i k c hn hi hk e1 e2 => S.dis i k c hn (isMut_set rfl hi).1 (isMut_set rfl hk).1 e1 e2⟩⟩
  · by_cases hc : c = a
    · subst hc; rw [upd_same] at q; rw [← q]; exact h0
    · rw [upd_ne hc] at q; exact fh c o q
  · by_cases hc : c = a
    · subst hc; exact .inr b0
    · rw [upd_ne hc] at q; exact .inl q
  · by_cases hj : j = i
    · subst hj
      rw [List.getElem?_set] at hs
      simp at hs
      rw [← hs.2]
      exact ⟨.ref a, e, .lst (SqL.of upd_same) (d0.same gf)⟩
    · rw [List.getElem?_set_ne hj] at hs
      have k1 := S.ok i s hs
      have nd : ∀ c, IsMut ρ i → σ[i]? = some (some (.ref c)) → c ≠ a := fun c m q z => S.dis j i a hj ⟨_, h, rfl⟩ m e (by rw [q, z])
      cases s with
      | no => trivial
      | val d =>
        obtain ⟨v, q, hd⟩ := k1
        exact ⟨v, q, hd.same gf⟩
      | own es =>
        obtain ⟨c, ws, q1, q2, q3, q4, q5⟩ := k1
        exact ⟨c, ws, q1, q2, by rw [upd_ne (nd c ⟨_, hs, rfl⟩ q1)]; exact q3, q4, q5.same gf⟩
      | sack o =>
        obtain ⟨i1, i2, i3, q1, q2, q3, q4, q5⟩ := k1
        exact ⟨i1, i2, i3, q1, q2, by rw [upd_ne (nd o ⟨_, hs, rfl⟩ q1)]; exact q3, q4, q5⟩
end
section
variable {X : Cx} {ρ : Rho} {A : AE} {e c tg iter : Expr} {st : Stmt} {rest a b body : List Stmt} {pos apos cpos pos' px : Pos} {Q : PyData → Prop} {x : Str} {ds : List PyData}
theorem jb_seal (j : Nat) (h : ρ[j]? = some (.own ds)) (k : JB X rest (ρ.set j (.val (.list ds))) A) : JB X rest ρ A := fun B F H σ D f bb S R => by
  obtain ⟨F', g, S'⟩ := S.seal f bb h
  exact k B F' H σ D g.fh bb S' (R.up g)
theorem jb_setN (i : Nat) {P : List PyData → Prop} (h : JN X e ρ P) (k : ∀ ds, P ds → JB X rest (ρ.set i (.own ds)) A) (hN : X.N.Nodup) (hi : X.N[i]? = some x := by rfl) (hx : Loc X.env.scope x := by first | exact Or.inl rfl | exact Or.inr rfl)
    (hs : swapsWith e (some (.Name x px)) pos.line X.env = pure false := by rfl) (hf : X.fn x = true ∨ X.env.scope.names.lookup x = some .local := by first | exact .inl rfl | exact .inr rfl) : JB X (.Assign [.Name x px] e pos :: rest) ρ A := fun B F H σ D f bb S R => by
  refine toB (pss_cons (ps_set hN hi hx pE hs hf) pB) ?_
  refine h B F H σ _ f bb S fun o vs ds F1 H1 q g1 S1 b1 f1 h1 d1 hm => ?_
  exact k ds q B F1 H1 _ D g1.fh g1.bh (S1.own_put b1 f1 h1 d1 hm) (R.up g1)
/-- a, b = [..], y: the first a list of one's own -/
theorem jb_parN (i j : Nat) {x y : Str} {px py pt : Pos} {kt k2 : Nat} {pt2 : Pos} {a b : Expr} {P : List PyData → Prop} {d2 : PyData} (h : JN X a ρ P) (h2 : JV X b ρ d2) (k : ∀ ds, P ds → JB X rest ((ρ.set i (.own ds)).set j (.val d2)) A) (hN : X.N.Nodup) (hc : X.calm = true := by rfl)
    (hi : X.N[i]? = some x := by rfl) (hj : X.N[j]? = some y := by rfl) (hij : i ≠ j := by decide) (hx : X.env.scope.names.lookup x = some .local := by rfl) (hy : X.env.scope.names.lookup y = some .local := by rfl)
    (hw : swappedStores [.Tuple [.Name x px, .Name y py] kt pt] (.Tuple [a, b] k2 pt2) X.env = pure (some [x, y]) := by rfl) (hs : swapsWithSole [.Tuple [.Name x px, .Name y py] kt pt] (.Tuple [a, b] k2 pt2) pos.line X.env = pure false := by rfl)
    (s1 : starEach [a, b] X.env = (false, eval a X.env) :: starEach [b] X.env := by rfl) (s2 : starEach [b] X.env = (false, eval b X.env) :: starEach [] X.env := by rfl) :
    JB X (.Assign [.Tuple [.Name x px, .Name y py] kt pt] (.Tuple [a, b] k2 pt2) pos :: rest) ρ A := fun B F H σ D f bb S R => by
  refine toB (pss_cons (ps_par hc hN hi hj hij hx hy (pa_cons pE (pa_cons pE pa_nil s2) s1) hw hs) pB) ?_
  refine h B F H σ _ f bb S fun o vs ds F1 H1 q g1 S1 b1 f1 h1 d1 hm => ?_
  -- o must stay while b is reckoned
  let B' : Hp := fun c => if c = o then some (.lst vs) else B c
  have bh' : Same B' H1 := fun c u z => by
    by_cases hc : c = o
    · subst hc
      have : B' c = some (.lst vs) := if_pos rfl
      rw [this] at z; rw [← z]; exact h1
    · have : B' c = B c := if_neg hc
      rw [this] at z; exact g1.bh c u z
  have bn : ∀ c, c ≠ o → B' c = B c := fun c hc => if_neg hc
  have S1' : Slots X.K B' F1 H1 σ ρ := ⟨S1.len, fun i s hs => by
    have k1 := S1.ok i s hs
    cases s with
    | no => trivial
    | val d => exact k1
    | own es =>
      obtain ⟨c, ws, q1, q2, q3, q4, q5⟩ := k1
      exact ⟨c, ws, q1, by rw [bn c fun z => hm i ⟨_, hs, rfl⟩ (by rw [q1, z])]; exact q2, q3, q4, q5⟩
    | sack u =>
      obtain ⟨i1, i2, i3, q1, q2, q3, q4, q5⟩ := k1
      exact ⟨i1, i2, i3, q1, by rw [bn u fun z => hm i ⟨_, hs, rfl⟩ (by rw [q1, z])]; exact q2, q3, q4, q5⟩, S1.dis⟩
  refine h2 B' F1 H1 σ _ g1.fh bh' S1' fun v d F2 H2 e2 g2 S2 dv => ?_
  subst e2
  have bo : B' o = some (.lst vs) := if_pos rfl
  have g2' : Grow B F1 F2 H2 := ⟨g2.ff, g2.fh, fun c u z => g2.bh c u (by rw [bn c fun w => by rw [w, b1] at z; cases z]; exact z), fun c u z => by
    rcases g2.nw c u z with w | w
    · exact .inl w
    · exact .inr (by
        by_cases hc : c = o
        · rw [hc]; exact b1
        · rw [bn c hc] at w; exact w)⟩
  have f2 : F2 o = none := by
    cases w : F2 o with
    | none => rfl
    | some u =>
      rcases g2.nw o u w with z | z
      · rw [f1] at z; cases z
      · rw [bo] at z; cases z
  have S2' : Slots X.K B F2 H2 σ ρ := ⟨S2.len, fun i s hs => by
    have k1 := S2.ok i s hs
    have bb' : ∀ c, B' c = none → B c = none := fun c z => by
      by_cases hc : c = o
      · rw [hc]; exact b1
      · rw [bn c hc] at z; exact z
    cases s with
    | no => trivial
    | val d => exact k1
    | own es =>
      obtain ⟨c, ws, q1, q2, q3, q4, q5⟩ := k1
      exact ⟨c, ws, q1, bb' c q2, q3, q4, q5⟩
    | sack u =>
      obtain ⟨i1, i2, i3, q1, q2, q3, q4, q5⟩ := k1
      exact ⟨i1, i2, i3, q1, bb' u q2, q3, q4, q5⟩, S2.dis⟩
  refine ⟨_, _, rfl, ?_⟩
  exact k ds q B F2 H2 _ D g2.fh g2'.bh ((S2'.own_put b1 f2 (g2.bh o _ bo) (d1.same g2.ff) hm).set dv) (R.up (g1.trans g2'))
/-- xs.append(e) -/
theorem jb_append (j : Nat) (h : ρ[j]? = some (.own ds)) (he : JE X e ρ Q) (k : ∀ d, Q d → JB X rest (ρ.set j (.own (ds ++ [d]))) A) (hl : ds.length < 100000) (hN : X.N[j]? = some x := by rfl) (hv : Vis X.env.scope x := by first | exact Or.inl rfl | exact Or.inr (Or.inl rfl) | exact Or.inr (Or.inr rfl))
    (hd : (x == ("__debug__" : Str)) = false := by decide) (hcd : (x == ("__classdict__" : Str)) = false := by decide)
    (hbase : attributeBase (.Name x px) ("append" : Str) X.env (eval (.Name x px) X.env) = eval (.Name x px) X.env := by rfl)
    (hfew : ((backTo cpos (starEach [e] X.env)).all (fun x => !x.1) && (backToKw cpos (keywordEach [] X.env)).all (fun x => x.1.isSome) && decide (([e] : List Expr).length + ([] : List Keyword).length + (if ([] : List Keyword).isEmpty then 0 else 1) < 30)) = true := by rfl)
    (hline : (apos.endLine == cpos.line) = true := by rfl) (hs : starEach [e] X.env = (false, eval e X.env) :: starEach [] X.env := by rfl) (hplain : (backTo cpos (starEach [] X.env)).any (·.1) = false := by rfl)
    (hsw : swapsWith (.Call (.Attribute (.Name x px) ("append" : Str) apos) [e] [] cpos) none pos.line X.env = pure false := by rfl) :
    JB X (.Expr (.Call (.Attribute (.Name x px) ("append" : Str) apos) [e] [] cpos) pos :: rest) ρ A := fun B F H σ D f bb S R => by
  refine toB (pss_cons (ps_expr (pe_bm PySem.F.plainAttrs_list PySem.F.slot_list_append PySem.F.type_list_append mt_append (pe_var hN hv hd hcd) (pa_cons pE pa_nil hs) hbase hfew hline hs hplain) hsw) pB) ?_
  obtain ⟨o, vs, q1, q2, q3, q4, q5⟩ := S.ok j _ h
  refine ⟨.ref o, q1, .inl ⟨rfl, vs, SqL.of q4⟩, ?_⟩
  refine he B F H σ _ f bb S fun v d F1 H1 q g1 S1 d1 => ?_
  obtain ⟨o', vs', r1, r2, r3, r4, r5⟩ := S1.ok j _ h
  rw [q1] at r1
  have : o = o' := by simpa using r1
  subst this
  refine ⟨o, vs', v, rfl, rfl, r4, Nat.lt_of_lt_of_le (by rw [r5.length]; exact hl) (by decide), ?_⟩
  obtain ⟨S2, g2⟩ := S1.own_upd g1.fh g1.bh h q1 r2 r3 (r5.append (.cons d1 .nil))
  exact k d q B F1 _ σ D g2.fh g2.bh S2 (R.up (g1.trans g2))
/-- xs.pop(), the value dropped -/
theorem jb_pop (j : Nat) (h : ρ[j]? = some (.own ds)) (k : JB X rest (ρ.set j (.own ds.dropLast)) A) (hl : ds ≠ []) (hN : X.N[j]? = some x := by rfl) (hv : Vis X.env.scope x := by first | exact Or.inl rfl | exact Or.inr (Or.inl rfl) | exact Or.inr (Or.inr rfl))
    (hd : (x == ("__debug__" : Str)) = false := by decide) (hcd : (x == ("__classdict__" : Str)) = false := by decide)
    (hbase : attributeBase (.Name x px) ("pop" : Str) X.env (eval (.Name x px) X.env) = eval (.Name x px) X.env := by rfl)
    (hline : (apos.endLine == cpos.line) = true := by rfl) (hsw : swapsWith (.Call (.Attribute (.Name x px) ("pop" : Str) apos) [] [] cpos) none pos.line X.env = pure false := by rfl) :
    JB X (.Expr (.Call (.Attribute (.Name x px) ("pop" : Str) apos) [] [] cpos) pos :: rest) ρ A := fun B F H σ D f bb S R => by
  refine toB (pss_cons (ps_expr (pe_bm0 PySem.F.plainAttrs_list PySem.F.slot_list_pop PySem.F.type_list_pop mt_pop (pe_var hN hv hd hcd) hbase hline) hsw) pB) ?_
  obtain ⟨o, vs, q1, q2, q3, q4, q5⟩ := S.ok j _ h
  have hn : 0 < vs.length := by rw [q5.length]; cases ds with | nil => exact absurd rfl hl | cons x r => simp
  have dl : DpAll X.K F vs.dropLast ds.dropLast := by
    rw [List.dropLast_eq_take, List.dropLast_eq_take, q5.length]
    exact q5.take _
  refine ⟨.ref o, q1, .inl ⟨rfl, vs, SqL.of q4⟩, o, vs, vs[vs.length - 1], rfl, rfl, q4, by simp [show vs.length - 1 < vs.length by omega], ?_⟩
  obtain ⟨S2, g2⟩ := S.own_upd f bb h q1 q2 q3 dl
  exact k B F _ σ D g2.fh g2.bh S2 (R.up g2)
/-- xs.insert(i, e) -/
theorem jb_insert (j : Nat) {ei : Expr} {i : Nat} {d : PyData} (h : ρ[j]? = some (.own ds)) (hi : JV X ei ρ (.int i)) (he : JV X e ρ d) (k : JB X rest (ρ.set j (.own (ds.take i ++ [d] ++ ds.drop i))) A) (hl : ds.length < 100000) (hi2 : i ≤ ds.length) (hN : X.N[j]? = some x := by rfl) (hv : Vis X.env.scope x := by first | exact Or.inl rfl | exact Or.inr (Or.inl rfl) | exact Or.inr (Or.inr rfl))
    (hd : (x == ("__debug__" : Str)) = false := by decide) (hcd : (x == ("__classdict__" : Str)) = false := by decide)
    (hbase : attributeBase (.Name x px) ("insert" : Str) X.env (eval (.Name x px) X.env) = eval (.Name x px) X.env := by rfl)
    (hfew : ((backTo cpos (starEach [ei, e] X.env)).all (fun x => !x.1) && (backToKw cpos (keywordEach [] X.env)).all (fun x => x.1.isSome) && decide (([ei, e] : List Expr).length + ([] : List Keyword).length + (if ([] : List Keyword).isEmpty then 0 else 1) < 30)) = true := by rfl)
    (hline : (apos.endLine == cpos.line) = true := by rfl) (hs : starEach [ei, e] X.env = (false, eval ei X.env) :: starEach [e] X.env := by rfl) (hs2 : starEach [e] X.env = (false, eval e X.env) :: starEach [] X.env := by rfl) (hplain : (backTo cpos (starEach [e] X.env)).any (·.1) = false := by rfl)
    (hsw : swapsWith (.Call (.Attribute (.Name x px) ("insert" : Str) apos) [ei, e] [] cpos) none pos.line X.env = pure false := by rfl) :
    JB X (.Expr (.Call (.Attribute (.Name x px) ("insert" : Str) apos) [ei, e] [] cpos) pos :: rest) ρ A := fun B F H σ D f bb S R => by
  refine toB (pss_cons (ps_expr (pe_bm PySem.F.plainAttrs_list PySem.F.slot_list_insert PySem.F.type_list_insert mt_insert (pe_var hN hv hd hcd) (pa_cons pE (pa_cons pE pa_nil hs2) hs) hbase hfew hline hs hplain) hsw) pB) ?_
  obtain ⟨o, vs, q1, q2, q3, q4, q5⟩ := S.ok j _ h
  refine ⟨.ref o, q1, .inl ⟨rfl, vs, SqL.of q4⟩, ?_⟩
  refine hi B F H σ _ f bb S fun w1 d1 F1 H1 e1 g1 S1 k1 => ?_
  subst e1
  refine he B F1 H1 σ _ g1.fh g1.bh S1 fun w2 d2 F2 H2 e2 g2 S2 k2 => ?_
  subst e2
  obtain ⟨o', vs', r1, r2, r3, r4, r5⟩ := S2.ok j _ h
  rw [q1] at r1
  have : o = o' := by simpa using r1
  subst this
  rw [k1.int_]
  refine ⟨o, vs', (i : Int), w2, rfl, rfl, r4, Nat.lt_of_lt_of_le (by rw [r5.length]; exact hl) (by decide), by omega, by omega, ?_⟩
  have hti : ((i : Int)).toNat = i := by omega
  rw [hti]
  obtain ⟨S3, g3⟩ := S2.own_upd g2.fh g2.bh h q1 r2 r3 (((r5.take i).append (.cons k2 .nil)).append (r5.drop i))
  exact k B F2 _ σ D g3.fh g3.bh S3 (R.up ((g1.trans g2).trans g3))
/-- return xs -/
theorem jb_retO (j : Nat) (h : ρ[j]? = some (.own ds)) (k : A.rt (.list ds) (ρ.set j (.val (.list ds)))) (hN : X.N[j]? = some x := by rfl) (hv : Vis X.env.scope x := by first | exact Or.inl rfl | exact Or.inr (Or.inl rfl) | exact Or.inr (Or.inr rfl))
    (hd : (x == ("__debug__" : Str)) = false := by decide) (hcd : (x == ("__classdict__" : Str)) = false := by decide) : JB X (.Return (some (.Name x px)) pos :: rest) ρ A :=
  jb_seal j h (jb_ret ((jv_var j (by
    have hl : j < ρ.length := (List.getElem?_eq_some_iff.mp h).1
    rw [List.getElem?_set]
    simp [hl]) hN hv hd hcd).to k))
/-- len(xs) -/
theorem jv_lenO (j : Nat) (h : ρ[j]? = some (.own ds)) {p : Pos} (hg : Gl X "len") (hm : X.mg "len" = none) (hN : X.N[j]? = some x := by rfl) (hv : Vis X.env.scope x := by first | exact Or.inl rfl | exact Or.inr (Or.inl rfl) | exact Or.inr (Or.inr rfl))
    (hd : (x == ("__debug__" : Str)) = false := by decide) (hcd : (x == ("__classdict__" : Str)) = false := by decide) (hs : starEach [.Name x px] X.env = (false, eval (.Name x px) X.env) :: starEach [] X.env := by rfl) (hpl : (backTo pos (starEach [] X.env)).any (·.1) = false := by rfl) :
    JV X (.Call (.Name "len" p) [.Name x px] [] pos) ρ (.int ds.length) := fun B F H σ k f bb S q => by
  refine toE (pe_callB call_len_seq hg hm boot_len (pa_cons (pe_var hN hv hd hcd) pa_nil hs) (he := hs) (hpl := hpl)) ?_
  obtain ⟨o, vs, q1, q2, q3, q4, q5⟩ := S.ok j _ h
  refine ⟨.ref o, q1, o, vs, rfl, .inl (SqL.of q4), ?_⟩
  rw [q5.length]
  exact q _ _ F H rfl (Grow.refl f bb) S (.int _)
end

/-! ### list comprehensions -/
theorem wipe_get (σ : L2.St) : ∀ (vs : List Nat) (i : Nat), (wipe σ vs)[i]? = if i ∈ vs then (σ[i]?).map (fun _ => none) else σ[i]?
  | [], i => by rw [if_neg (by simp)]; rfl
  | v :: vs, i => by
    unfold wipe
    by_cases h : v = i
    · subst h
      rw [List.getElem?_set, if_pos rfl, wipe_length, if_pos (show v ∈ v :: vs from List.mem_cons_self)]
      by_cases hl : v < σ.length
      · rw [if_pos hl, List.getElem?_eq_getElem hl]; rfl
      · rw [if_neg hl, List.getElem?_eq_none (by omega)]; rfl
    · rw [List.getElem?_set_ne h, wipe_get σ vs i]
      have : (i ∈ v :: vs) ↔ i ∈ vs := by
        constructor
        · intro m
          rcases List.mem_cons.mp m with e | m
          · exact absurd e.symm h
          · exact m
        · exact List.mem_cons_of_mem _
      simp only [this]
theorem wipe_eq {σ τ : L2.St} {vs : List Nat} (hl : τ.length = σ.length) (h : ∀ i, i ∉ vs → τ[i]? = (wipe σ vs)[i]?) : wipe τ vs = wipe σ vs := by
  apply List.ext_getElem?
  intro i
  rw [wipe_get τ]
  by_cases hi : i ∈ vs
  · rw [if_pos hi, wipe_get, if_pos hi]
    by_cases q : i < σ.length
    · rw [List.getElem?_eq_getElem q, List.getElem?_eq_getElem (by omega)]; rfl
    · rw [List.getElem?_eq_none (by omega), List.getElem?_eq_none (by omega)]
  · rw [if_neg hi]
    exact h i hi
section
variable {K : PySem.W.Frag} {B F H : Hp} {σ : L2.St} {ρ : Rho}
theorem Slots.wipe_ (vs : List Nat) (S : Slots K B F H σ ρ) : Slots K B F H (wipe σ vs) (Wf.forget vs ρ) := by
  have key : ∀ (vs : List Nat) (ρ : Rho) (i : Nat) (s : SD), (Wf.forget vs ρ)[i]? = some s → s = .no ∨ (ρ[i]? = some s ∧ i ∉ vs) := by
    intro vs
    induction vs with
    | nil => intro ρ i s h; exact .inr ⟨h, by simp⟩
    | cons v vs ih =>
      intro ρ i s h
      rcases ih _ i s h with e | ⟨e, n⟩
      · exact .inl e
      · by_cases hv : v = i
        · subst hv
          rw [List.getElem?_set] at e
          simp at e
          exact .inl e.2.symm
        · rw [List.getElem?_set_ne hv] at e
          refine .inr ⟨e, fun m => ?_⟩
          rcases List.mem_cons.mp m with q | m
          · exact hv q.symm
          · exact n m
  have fl : ∀ (vs : List Nat) (ρ : Rho), (Wf.forget vs ρ).length = ρ.length := by
    intro vs
    induction vs with
    | nil => intro ρ; rfl
    | cons v vs ih => intro ρ; show (Wf.forget vs (ρ.set v .no)).length = _; rw [ih, List.length_set]
  refine ⟨by rw [wipe_length, fl]; exact S.len, fun i s h => ?_, fun i j a hn hi hj e1 e2 => ?_⟩
  · rcases key vs ρ i s h with e | ⟨e, n⟩
    · rw [e]; trivial
    · rw [wipe_get, if_neg n]; exact S.ok i s e
  · have mv : ∀ i, IsMut (Wf.forget vs ρ) i → IsMut ρ i ∧ i ∉ vs := fun i ⟨s, h, m⟩ => by
      rcases key vs ρ i s h with e | ⟨e, n⟩
      · rw [e] at m; cases m
      · exact ⟨⟨s, e, m⟩, n⟩
    rw [wipe_get, if_neg (mv i hi).2] at e1
    rw [wipe_get, if_neg (mv j hj).2] at e2
    exact S.dis i j a hn (mv i hi).1 (mv j hj).1 e1 e2
end
theorem forget_get {vs : List Nat} {i : Nat} (hi : i ∉ vs) : ∀ {ρ : Rho}, (forget vs ρ)[i]? = ρ[i]? := by
  induction vs with
  | nil => intro ρ; rfl
  | cons v vs ih =>
    intro ρ
    show (forget vs (ρ.set v .no))[i]? = _
    rw [ih fun z => hi (List.mem_cons_of_mem _ z), List.getElem?_set_ne]
    intro z
    subst z
    exact hi List.mem_cons_self
/-- a target of a comprehension: a name, or a tuple of names -/
structure TgOk (K : PySem.W.Frag) (vs : List Nat) (g : TG) (st : PyData → Rho → Rho) (ok : PyData → Prop) : Prop where
  keep : ∀ (d : PyData) (ρ : Rho) (i : Nat), i ∉ vs → (st d ρ)[i]? = ρ[i]?
  run : ∀ (B F H : Hp) (σ0 : L2.St) (ρ : Rho) (v : V) (d : PyData) (Q : L2.St → Hp → Prop), Same F H → Slots K B F H (wipe σ0 vs) ρ → Dp K F v d → ok d → (∀ σ2, Slots K B F H σ2 (st d ρ) → wipe σ2 vs = wipe σ0 vs → Q σ2 H) → g v (wipe σ0 vs) H Q
theorem tg_name {K : PySem.W.Frag} {vs : List Nat} {j : Nat} (hj : j ∈ vs) : TgOk K vs (gName j) (fun d ρ => ρ.set j (.val d)) (fun _ => True) := ⟨fun d ρ i hi => by
  rw [List.getElem?_set_ne]
  intro z
  subst z
  exact hi hj, fun B F H σ0 ρ v d Q f S hd _ q => q _ (S.set hd) (wipe_eq (by rw [List.length_set, wipe_length]) fun i hi => by
  rw [List.getElem?_set_ne]
  intro z
  subst z
  exact hi hj)⟩
def setR : Rho → List Nat → List PyData → Rho
  | ρ, j :: js, d :: ds => setR (ρ.set j (.val d)) js ds
  | ρ, _, _ => ρ
theorem setR_keep {vs : List Nat} {i : Nat} (hi : i ∉ vs) : ∀ (js : List Nat) (ds : List PyData) (ρ : Rho), (∀ j ∈ js, j ∈ vs) → (setR ρ js ds)[i]? = ρ[i]?
  | [], _, _, _ => rfl
  | _ :: _, [], _, _ => rfl
  | j :: js, d :: ds, ρ, h => by
    show (setR (ρ.set j (.val d)) js ds)[i]? = _
    rw [setR_keep hi js ds _ fun k hk => h k (List.mem_cons_of_mem _ hk), List.getElem?_set_ne]
    intro z
    subst z
    exact hi (h _ List.mem_cons_self)
def gNs : List Nat → TGs
  | [] => gNil
  | j :: js => gCons (gName j) (gNs js)
def stT (js : List Nat) : PyData → Rho → Rho
  | .tuple ds, ρ => setR ρ js ds
  | _, ρ => ρ
def okT (n : Nat) : PyData → Prop
  | .tuple ds => ds.length = n
  | _ => False
theorem gNs_run {K : PySem.W.Frag} {vs : List Nat} {B F H : Hp} {σ0 : L2.St} : ∀ (js : List Nat) (σ : L2.St) (ρ : Rho) (xs : List V) (ds : List PyData) (Q : L2.St → Hp → Prop), (∀ j ∈ js, j ∈ vs) → js.length = ds.length → Slots K B F H σ ρ → DpAll K F xs ds → σ.length = σ0.length → (∀ i, i ∉ vs → σ[i]? = (wipe σ0 vs)[i]?) →
    (∀ σ2, Slots K B F H σ2 (setR ρ js ds) → wipe σ2 vs = wipe σ0 vs → Q σ2 H) → gNs js xs σ H Q
  | [], σ, ρ, _, _, Q, _, hl, S, .nil, h1, h2, q => ⟨rfl, q σ S (wipe_eq h1 h2)⟩
  | j :: js, σ, ρ, _, _, Q, hv, hl, S, .cons hd ht, h1, h2, q => ⟨_, _, rfl, gNs_run js (σ.set j _) (ρ.set j _) _ _ Q (fun k hk => hv k (List.mem_cons_of_mem _ hk)) (by simpa using hl) (S.set hd) ht (by rw [List.length_set]; exact h1) (fun i hi => by
    rw [List.getElem?_set_ne]
    · exact h2 i hi
    · intro z; subst z; exact hi (hv _ List.mem_cons_self)) q⟩
theorem tg_tup {K : PySem.W.Frag} {vs : List Nat} {js : List Nat} {n : Nat} (hj : ∀ j ∈ js, j ∈ vs) (hn : js.length = n) : TgOk K vs (gTup K n (gNs js)) (stT js) (okT n) := ⟨fun d ρ i hi => by
  cases d with
  | tuple ds => exact setR_keep hi js ds ρ hj
  | _ => rfl, fun B F H σ0 ρ v d Q f S hd ho q => by
  cases d with
  | tuple ds =>
    obtain ⟨a, xs, rfl, hs, hx⟩ := hd.tup_
    have hl : ds.length = n := ho
    refine ⟨a, xs, rfl, sqT_same f hs, by rw [hx.length]; exact hl, ?_⟩
    exact gNs_run js _ ρ xs ds Q hj (by rw [hn]; exact hl.symm) S hx (wipe_length σ0 vs) (fun i _ => rfl) q
  | _ => exact ho.elim⟩
/-- the block's contexts -/
abbrev Blk (X : Cx) (scope : Scope) (s : Shared) (H : Hp) (C : Addr) (cl : List (Str × Addr)) (fp : List Addr) : Cx := X.blk s H scope (compEnvC scope cl C X.env) fp
def bE (X : Cx) (scope : Scope) (e : Expr) : TE := fun σ H Q => ∀ s H0 C cl fp, wE (Blk X scope s H0 C cl fp) e σ H Q
theorem pbE {X : Cx} {scope : Scope} {e : Expr} (s : Shared) (H : Hp) (C : Addr) (cl : List (Str × Addr)) (fp : List Addr) : PE (Blk X scope s H C cl fp) e (bE X scope e) := ⟨fun pins s' σ H' Q I h => h s H C cl fp pins s' I⟩
def wTs (X : Cx) (ifs : List Expr) : TT := fun σ H Q => ∀ (pins : List (Addr × Obj)) (s : Shared), Inv X pins σ H s →
  wpAny (model X.prog X.w) X.A (forIn ifs true fun c r => if r = true then do let ok ← isTrue c X.env (eval c X.env); pure (ForInStep.yield ok) else pure (ForInStep.yield r)) (TP X pins σ Q) X.xe s
def bT (X : Cx) (scope : Scope) (ifs : List Expr) : TT := fun σ H Q => ∀ s H0 C cl fp, wTs (Blk X scope s H0 C cl fp) ifs σ H Q
theorem pbT {X : Cx} {scope : Scope} {ifs : List Expr} (s : Shared) (H : Hp) (C : Addr) (cl : List (Str × Addr)) (fp : List Addr) : PTs (Blk X scope s H C cl fp) ifs (bT X scope ifs) := ⟨fun pins s' σ H' Q I h => h s H C cl fp pins s' I⟩
def JTs (X : Cx) (ifs : List Expr) (ρ : Rho) (Q : Bool → Prop) : Prop :=
  ∀ (B F H : Hp) (σ : L2.St) (k : Bool → Hp → Prop), Same F H → Same B H → Slots X.K B F H σ ρ → (∀ b F' H', Q b → Grow B F F' H' → Slots X.K B F' H' σ ρ → k b H') → wTs X ifs σ H k
theorem jts_nil {X : Cx} {ρ : Rho} : JTs X [] ρ (· = true) := fun B F H σ k f bb S q pins s I => pts_nil.run pins s σ H k I (q true F H rfl (Grow.refl f bb) S)
theorem jts_one {X : Cx} {c : Expr} {ρ : Rho} {P : Bool → Prop} (h : JT X c ρ P) : JTs X [c] ρ P := fun B F H σ k f bb S q pins s I => (pts_one pT).run pins s σ H k I (h B F H σ k f bb S q)
/-- all blocks -/
def JEb (X : Cx) (scope : Scope) (e : Expr) (ρ : Rho) (Q : PyData → Prop) : Prop := ∀ (B F H : Hp) (σ : L2.St) (k : VK), Same F H → Same B H → Slots X.K B F H σ ρ → (∀ v d F' H', Q d → Grow B F F' H' → Slots X.K B F' H' σ ρ → Dp X.K F' v d → k v H') → bE X scope e σ H k
theorem jeb {X : Cx} {scope : Scope} {e : Expr} {ρ : Rho} {Q : PyData → Prop} (h : ∀ s H C cl fp, JE (Blk X scope s H C cl fp) e ρ Q) : JEb X scope e ρ Q := fun B F H σ k f bb S q s H0 C cl fp => h s H0 C cl fp B F H σ k f bb S q
def JTb (X : Cx) (scope : Scope) (ifs : List Expr) (ρ : Rho) (Q : Bool → Prop) : Prop := ∀ (B F H : Hp) (σ : L2.St) (k : Bool → Hp → Prop), Same F H → Same B H → Slots X.K B F H σ ρ → (∀ b F' H', Q b → Grow B F F' H' → Slots X.K B F' H' σ ρ → k b H') → bT X scope ifs σ H k
theorem jtb {X : Cx} {scope : Scope} {ifs : List Expr} {ρ : Rho} {Q : Bool → Prop} (h : ∀ s H C cl fp, JTs (Blk X scope s H C cl fp) ifs ρ Q) : JTb X scope ifs ρ Q := fun B F H σ k f bb S q s H0 C cl fp => h s H0 C cl fp B F H σ k f bb S q
/-- what must stay, and the list at o -/
def plus (B : Hp) (o : Addr) (u : HO) : Hp := fun c => if c = o then some u else B c
theorem plus_at {B : Hp} {o : Addr} {u : HO} : plus B o u o = some u := if_pos rfl
theorem plus_ne {B : Hp} {o c : Addr} {u : HO} (h : c ≠ o) : plus B o u c = B c := if_neg h
theorem plus_same {B H : Hp} {o : Addr} {u : HO} (h : Same B H) (e : H o = some u) : Same (plus B o u) H := fun c w z => by
  by_cases hc : c = o
  · subst hc; rw [plus_at] at z; rw [← z]; exact e
  · rw [plus_ne hc] at z; exact h c w z
theorem Slots.plus_ {K : PySem.W.Frag} {B F H : Hp} {σ : L2.St} {ρ : Rho} {o : Addr} {u : HO} (S : Slots K B F H σ ρ) (hm : ∀ i : Nat, IsMut ρ i → σ[i]? ≠ some (some (.ref o))) : Slots K (plus B o u) F H σ ρ := ⟨S.len, fun i s hs => by
    have k1 := S.ok i s hs
    cases s with
    | no => trivial
    | val d => exact k1
    | own es =>
      obtain ⟨c, ws, q1, q2, q3, q4, q5⟩ := k1
      exact ⟨c, ws, q1, by rw [plus_ne fun z => hm i ⟨_, hs, rfl⟩ (by rw [q1, z])]; exact q2, q3, q4, q5⟩
    | sack w =>
      obtain ⟨i1, i2, i3, q1, q2, q3, q4, q5⟩ := k1
      exact ⟨i1, i2, i3, q1, by rw [plus_ne fun z => hm i ⟨_, hs, rfl⟩ (by rw [q1, z])]; exact q2, q3, q4, q5⟩, S.dis⟩
theorem Slots.minus {K : PySem.W.Frag} {B F H : Hp} {σ : L2.St} {ρ : Rho} {o : Addr} {u : HO} (S : Slots K (plus B o u) F H σ ρ) (b0 : B o = none) : Slots K B F H σ ρ := ⟨S.len, fun i s hs => by
    have k1 := S.ok i s hs
    have bb' : ∀ c, plus B o u c = none → B c = none := fun c z => by
      by_cases hc : c = o
      · rw [hc]; exact b0
      · rw [plus_ne hc] at z; exact z
    cases s with
    | no => trivial
    | val d => exact k1
    | own es =>
      obtain ⟨c, ws, q1, q2, q3, q4, q5⟩ := k1
      exact ⟨c, ws, q1, bb' c q2, q3, q4, q5⟩
    | sack w =>
      obtain ⟨i1, i2, i3, q1, q2, q3, q4, q5⟩ := k1
      exact ⟨i1, i2, i3, q1, bb' w q2, q3, q4, q5⟩, S.dis⟩
theorem Grow.minus {B F F' H' : Hp} {o : Addr} {u : HO} (g : Grow (plus B o u) F F' H') (b0 : B o = none) : Grow B F F' H' := ⟨g.ff, g.fh, fun c w z => g.bh c w (by rw [plus_ne fun e => by rw [e, b0] at z; cases z]; exact z), fun c w z => by
  rcases g.nw c w z with q | q
  · exact .inl q
  · refine .inr ?_
    by_cases hc : c = o
    · rw [hc]; exact b0
    · rw [plus_ne hc] at q; exact q⟩
theorem Grow.off {B F F' H' : Hp} {o : Addr} {u : HO} (g : Grow (plus B o u) F F' H') (f0 : F o = none) : F' o = none := by
  cases w : F' o with
  | none => rfl
  | some z =>
    rcases g.nw o z w with q | q
    · rw [f0] at q; cases q
    · rw [plus_at] at q; cases q
/-- the new list at o has grown -/
theorem Slots.grown {K : PySem.W.Frag} {B F H : Hp} {σ : L2.St} {ρ : Rho} {o : Addr} {u : HO} (S : Slots K B F H σ ρ) (hm : ∀ i : Nat, IsMut ρ i → σ[i]? ≠ some (some (.ref o))) : Slots K B F (upd H o u) σ ρ := ⟨S.len, fun i s hs => by
    have k1 := S.ok i s hs
    cases s with
    | no => trivial
    | val d => exact k1
    | own es =>
      obtain ⟨c, ws, q1, q2, q3, q4, q5⟩ := k1
      exact ⟨c, ws, q1, q2, q3, by rw [upd_ne fun z => hm i ⟨_, hs, rfl⟩ (by rw [q1, z])]; exact q4, q5⟩
    | sack w =>
      obtain ⟨i1, i2, i3, q1, q2, q3, q4, q5⟩ := k1
      exact ⟨i1, i2, i3, q1, q2, q3, by rw [upd_ne fun z => hm i ⟨_, hs, rfl⟩ (by rw [q1, z])]; exact q4, q5⟩, S.dis⟩
theorem Slots.fresh {K : PySem.W.Frag} {B F H : Hp} {σ : L2.St} {ρ : Rho} {o : Addr} (S : Slots K B F H σ ρ) (h : H o = none) : ∀ i : Nat, IsMut ρ i → σ[i]? ≠ some (some (.ref o)) := fun i ⟨s, hs, m⟩ e => by
  have k1 := S.ok i s hs
  cases s with
  | no => cases m
  | val d => cases m
  | own es =>
    obtain ⟨c, ws, q1, q2, q3, q4, q5⟩ := k1
    rw [e] at q1
    have : o = c := by simpa using q1
    subst this
    rw [h] at q4; cases q4
  | sack w =>
    obtain ⟨i1, i2, i3, q1, q2, q3, q4, q5⟩ := k1
    rw [e] at q1
    have : o = w := by simpa using q1
    subst this
    rw [h] at q4; cases q4

section
variable {X : Cx} {ρ : Rho} {A : AE} {elt tg iter : Expr} {ifs : List Expr} {scope : Scope} {pos : Pos} {own : List (Str × Nat)} {n : Nat} {item : Nat → PyData} {g : TG} {st : PyData → Rho → Rho} {tok : PyData → Prop}
/-- what the reading of a comprehension asks, behind what is walked -/
theorem lc_body (Pd : Nat → List PyData → Prop) (tgo : TgOk X.K (own.map (·.2)) g st tok) (h0 : Pd 0 []) (hno : ∀ i ∈ own.map (·.2), ∀ s, ρ[i]? = some s → s.mut = false) (hlen : ∀ i ds, Pd i ds → ds.length < 100000)
    (step : ∀ i ds, i < n → Pd i ds → tok (item i) ∧ ∃ Pt : Bool → Prop, JTb X scope ifs (st (item i) (forget (own.map (·.2)) ρ)) Pt ∧ (Pt false → Pd (i + 1) ds) ∧ (Pt true → JEb X scope elt (st (item i) (forget (own.map (·.2)) ρ)) fun d => Pd (i + 1) (ds ++ [d])))
    {B F1 H1 : Hp} {σ : L2.St} {It : L2.It} {k : VK} (f1 : Same F1 H1) (b1 : Same B H1) (S1 : Slots X.K B F1 H1 σ ρ) (wk : Wk X.K F1 It n item)
    (q : ∀ a vs ds F' H', Pd n ds → Grow B F1 F' H' → Slots X.K B F' H' σ ρ → B a = none → F' a = none → H' a = some (.lst vs) → DpAll X.K F' vs ds → (∀ i : Nat, IsMut ρ i → σ[i]? ≠ some (some (.ref a))) → k (.ref a) H') :
    tLc (fun _ H R => R It H) g (bT X scope ifs) (bE X scope elt) (own.map (·.2)) σ H1 k := by
  intro D hD
  have bD : B D = none := b1.free hD
  have fD : F1 D = none := f1.free hD
  have hm := S1.fresh hD
  refine ⟨fun i m H' => m = n - i ∧ i ≤ n ∧ ∃ F' vs ds, Pd i ds ∧ Grow B F1 F' H' ∧ Slots X.K B F' H' σ ρ ∧ F' D = none ∧ H' D = some (.lst vs) ∧ DpAll X.K F' vs ds, ⟨n, by omega, Nat.zero_le _, F1, [], [], h0, ⟨Same.refl _, f1.trans (same_new hD), b1.trans (same_new hD), fun _ _ e => .inl e⟩, S1.grown hm, fD, upd_same, .nil⟩, ?_⟩
  rintro i m H' ⟨rfl, hin, F', vs, ds, pd, g', S', fD', hD', dv⟩
  by_cases hlt : i < n
  · refine .inr ⟨wk.go i H' hlt (g'.ff.trans g'.fh), fun H2 => ∃ F2 ws es, Pd (i + 1) es ∧ Grow B F1 F2 H2 ∧ Slots X.K B F2 H2 σ ρ ∧ F2 D = none ∧ H2 D = some (.lst ws) ∧ DpAll X.K F2 ws es, fun H2 w => ⟨n - (i + 1), by omega, rfl, by omega, w⟩, fun x H2 hy => ?_⟩
    obtain ⟨F2, g2, d2⟩ := wk.yld i F' H' x H2 hlt g'.ff g'.fh hy
    have hD2 : H2 D = some (.lst vs) := g2.bh D _ hD'
    have fD2 : F2 D = none := g2.non fD' hD'
    have S2 := S'.up g2
    have g3 : Grow B F1 F2 H2 := g'.trans (g2.wide g'.bh)
    obtain ⟨tok_, Pt, jt, pf, pt⟩ := step i ds hlt pd
    refine tgo.run (plus B D (.lst vs)) F2 H2 σ (forget (own.map (·.2)) ρ) x (item i) _ g2.fh ((S2.plus_ hm).wipe_ _) d2 tok_ fun σ2 S3 hw => ⟨hw, ?_⟩
    have bP : Same (plus B D (.lst vs)) H2 := plus_same g3.bh hD2
    -- back to the slots of the def
    have back : ∀ F4 H4, Grow (plus B D (.lst vs)) F2 F4 H4 → Slots X.K (plus B D (.lst vs)) F4 H4 σ2 (st (item i) (forget (own.map (·.2)) ρ)) → Slots X.K B F4 H4 σ ρ := by
      intro F4 H4 g4 S4
      have S5 := S4.minus bD
      refine ⟨S2.len, fun i' s hs => ?_, S2.dis⟩
      by_cases hin' : i' ∈ own.map (·.2)
      · have k1 := S2.ok i' s hs
        have nm := hno i' hin' s hs
        cases s with
        | no => trivial
        | val d =>
          obtain ⟨v, e1, e2⟩ := k1
          exact ⟨v, e1, e2.same g4.ff⟩
        | own es => cases nm
        | sack w => cases nm
      · have e1 : (st (item i) (forget (own.map (·.2)) ρ))[i']? = some s := by rw [tgo.keep _ _ _ hin', forget_get hin']; exact hs
        have k1 := S5.ok i' s e1
        have e2 : σ2[i']? = σ[i']? := by
          have z1 := wipe_get σ2 (own.map (·.2)) i'
          have z2 := wipe_get σ (own.map (·.2)) i'
          rw [if_neg hin'] at z1 z2
          rw [← z1, ← z2, hw]
        rw [← e2]
        exact k1
    refine jt (plus B D (.lst vs)) F2 H2 σ2 _ g2.fh bP S3 fun b F4 H4 pb g4 S4 => ?_
    cases b with
    | false => exact iteF ⟨F4, vs, ds, pf pb, g3.trans (g4.minus bD), back F4 H4 g4 S4, g4.off fD2, g4.bh D _ plus_at, dv.same (g2.ff.trans g4.ff)⟩
    | true =>
      refine iteT ?_
      refine pt pb (plus B D (.lst vs)) F4 H4 σ2 _ g4.fh g4.bh S4 fun y d F5 H5 pd5 g5 S5 d5 => ?_
      have hD5 : H5 D = some (.lst vs) := g5.bh D _ plus_at
      have fD5 : F5 D = none := g5.off (g4.off fD2)
      refine ⟨vs, hD5, Nat.lt_of_lt_of_le (by rw [dv.length]; exact hlen i ds pd) (by decide), F5, vs ++ [y], ds ++ [d], pd5, ?_, (back F5 H5 (g4.trans g5) S5).grown hm, fD5, upd_same, (dv.same (g2.ff.trans (g4.ff.trans g5.ff))).append (.cons d5 .nil)⟩
      have g6 := g3.trans ((g4.trans g5).minus bD)
      exact ⟨g6.ff, fun c u z => by
        rw [upd_ne fun e => by rw [e, fD5] at z; cases z]
        exact g6.fh c u z, fun c u z => by
        rw [upd_ne fun e => by rw [e, bD] at z; cases z]
        exact g6.bh c u z, g6.nw⟩
  · have e : i = n := by omega
    subst e
    refine .inl ⟨wk.stop H' (g'.ff.trans g'.fh), ?_⟩
    exact q D vs ds F' H' pd g' S' bD fD' hD' dv hm
/-- what the reading of a comprehension asks -/
theorem lc_read (Pd : Nat → List PyData → Prop) (hi : JI X tg iter ρ n item) (tgo : TgOk X.K (own.map (·.2)) g st tok) (h0 : Pd 0 []) (hno : ∀ i ∈ own.map (·.2), ∀ s, ρ[i]? = some s → s.mut = false) (hlen : ∀ i ds, Pd i ds → ds.length < 100000)
    (step : ∀ i ds, i < n → Pd i ds → tok (item i) ∧ ∃ Pt : Bool → Prop, JTb X scope ifs (st (item i) (forget (own.map (·.2)) ρ)) Pt ∧ (Pt false → Pd (i + 1) ds) ∧ (Pt true → JEb X scope elt (st (item i) (forget (own.map (·.2)) ρ)) fun d => Pd (i + 1) (ds ++ [d]))) :
    ∀ (B F H : Hp) (σ : L2.St) (k : VK), Same F H → Same B H → Slots X.K B F H σ ρ →
      (∀ a vs ds F' H', Pd n ds → Grow B F F' H' → Slots X.K B F' H' σ ρ → B a = none → F' a = none → H' a = some (.lst vs) → DpAll X.K F' vs ds → (∀ i : Nat, IsMut ρ i → σ[i]? ≠ some (some (.ref a))) → k (.ref a) H') →
      tLc (wI X tg iter) g (bT X scope ifs) (bE X scope elt) (own.map (·.2)) σ H k := fun B F H σ k f bb S q => by
  refine hi B F H σ _ f bb S fun It F1 H1 g1 S1 wk => ?_
  exact lc_body Pd tgo h0 hno hlen step g1.fh g1.bh S1 wk fun a vs ds F' H' pd g' => q a vs ds F' H' pd (g1.trans g')
end
end Wf

namespace Wf
open PySem PySem.Spec PyProof.Rows L2 C8

section
variable {X : Cx} {ρ : Rho} {A : AE} {elt tg iter : Expr} {ifs : List Expr} {scope : Scope} {pos : Pos} {own : List (Str × Nat)} {n : Nat} {item : Nat → PyData} {g : TG} {st : PyData → Rho → Rho} {tok : PyData → Prop}
def noMut (vs : List Nat) (ρ : Rho) : Bool := vs.all fun i => match ρ[i]? with
  | some s => !s.mut
  | none => true
theorem noMut_ok {vs : List Nat} {ρ : Rho} (h : noMut vs ρ = true) : ∀ i ∈ vs, ∀ s, ρ[i]? = some s → s.mut = false := fun i hi s hs => by
  have := List.all_eq_true.mp h i hi
  rw [hs] at this
  simpa using this
/-- [elt for target in iter if ..], as a value -/
theorem jn_lc (Pd : Nat → List PyData → Prop) (hi : JI X tg iter ρ n item) (hg : ∀ s H C cl fp, PG (Blk X scope s H C cl fp) tg g) (tgo : TgOk X.K (own.map (·.2)) g st tok) (h0 : Pd 0 []) (hlen : ∀ i ds, Pd i ds → ds.length < 100000)
    (step : ∀ i ds, i < n → Pd i ds → tok (item i) ∧ ∃ Pt : Bool → Prop, JTb X scope ifs (st (item i) (forget (own.map (·.2)) ρ)) Pt ∧ (Pt false → Pd (i + 1) ds) ∧ (Pt true → JEb X scope elt (st (item i) (forget (own.map (·.2)) ρ)) fun d => Pd (i + 1) (ds ++ [d])))
    (hN : X.N.Nodup) (hno : noMut (own.map (·.2)) ρ = true) (ok : BlkOk X.N X.env.scope scope own) (hc : X.calm = true := by rfl) (hs : ∀ x, foldedSetIterable iter X.env x = pure x := by intro _; rfl) : JN X (.ListComp elt [⟨tg, iter, ifs, 0⟩] scope pos) ρ (Pd n) := fun B F H σ k f bb S q =>
  toE (pe_lc hc hN pI ok hg pbT pbE hs) (lc_read Pd hi tgo h0 (noMut_ok hno) hlen step B F H σ k f bb S q)
/-- x = [elt for ..] -/
theorem jb_setLc (i : Nat) {x : Str} {px spos : Pos} {rest : List Stmt} (Pd : Nat → List PyData → Prop) (hi : JI X tg iter ρ n item) (hg : ∀ s H C cl fp, PG (Blk X scope s H C cl fp) tg g) (tgo : TgOk X.K (own.map (·.2)) g st tok) (h0 : Pd 0 []) (hlen : ∀ i ds, Pd i ds → ds.length < 100000)
    (step : ∀ i ds, i < n → Pd i ds → tok (item i) ∧ ∃ Pt : Bool → Prop, JTb X scope ifs (st (item i) (forget (own.map (·.2)) ρ)) Pt ∧ (Pt false → Pd (i + 1) ds) ∧ (Pt true → JEb X scope elt (st (item i) (forget (own.map (·.2)) ρ)) fun d => Pd (i + 1) (ds ++ [d])))
    (k : ∀ ds, Pd n ds → JB X rest (ρ.set i (.own ds)) A) (hN : X.N.Nodup) (hno : noMut (own.map (·.2)) ρ = true) (ok : BlkOk X.N X.env.scope scope own) (hsw : swapsWith (.ListComp elt [⟨tg, iter, ifs, 0⟩] scope pos) (some (.Name x px)) spos.line X.env = pure true)
    (hc : X.calm = true := by rfl) (hy : X.N[i]? = some x := by rfl) (hyl : X.env.scope.names.lookup x = some .local := by rfl) (hs : ∀ x, foldedSetIterable iter X.env x = pure x := by intro _; rfl) :
    JB X (.Assign [.Name x px] (.ListComp elt [⟨tg, iter, ifs, 0⟩] scope pos) spos :: rest) ρ A := fun B F H σ D f bb S R => by
  refine toB (pss_cons (ps_setLc hc hN hy hyl hsw pI ok hg pbT pbE hs) pB) ?_
  exact lc_read Pd hi tgo h0 (noMut_ok hno) hlen step B F H σ (fun x H1 => wB X rest D (σ.set i (some x)) H1) f bb S fun a vs ds F1 H1 pd g1 S1 b1 f1 h1 d1 hm =>
    k ds pd B F1 H1 _ D g1.fh g1.bh (S1.own_put b1 f1 h1 d1 hm) (R.up g1)
end

/-! ### calls -/
section
variable {X : Cx} {ρ : Rho} {e a : Expr} {es : List Expr} {pos p : Pos} {Q : PyData → Prop} {x : Str}
/-- what a built-in gives, by data -/
def RC (K : PySem.W.Frag) (r : List V → Hp → VK → Prop) (ds : List PyData) (Q : PyData → Prop) : Prop :=
  ∀ (F H : Hp) (vs : List V) (k : VK), Same F H → DpAll K F vs ds → (∀ u d F' H', Q d → Grow H F F' H' → Dp K F' u d → k u H') → r vs H k
theorem je_callB {id : String} {r : List V → Hp → VK → Prop} {P : List PyData → Prop} (hc : CallR X (.builtin id) r) (hg : Gl X x) (hm : X.mg x = none) (hv : bootBuiltins x = some (.builtin id)) (ha : JA X (e :: es) ρ P) (h : ∀ ds, P ds → RC X.K r ds Q) (hn : x ≠ "__name__" := by decide) (hdb : (x == ("__debug__" : Str)) = false := by decide)
    (he : starEach (e :: es) X.env = (false, eval e X.env) :: starEach es X.env := by rfl) (hpl : (backTo pos (starEach es X.env)).any (·.1) = false := by rfl) : JE X (.Call (.Name x p) (e :: es) [] pos) ρ Q := fun B F H σ k f bb S q => by
  refine toE (pe_callB hc hg hm hv pA hn hdb he hpl) ?_
  refine ha B F H σ _ f bb S fun vs ds F1 H1 pd g1 S1 d1 => ?_
  exact h ds pd F1 H1 vs k g1.fh d1 fun u d F2 H2 qd g2 d2 => q u d F2 H2 qd (g1.trans (g2.wide g1.bh)) (S1.up g2) d2
theorem je_callTy {T : String} {r : List V → Hp → VK → Prop} {P : List PyData → Prop} (hc : CallR X (.type T) r) (hg : Gl X x) (hm : X.mg x = none) (hv : bootBuiltins x = some (.type T)) (ha : JA X (e :: es) ρ P) (h : ∀ ds, P ds → RC X.K r ds Q) (hn : x ≠ "__name__" := by decide) (hdb : (x == ("__debug__" : Str)) = false := by decide)
    (he : starEach (e :: es) X.env = (false, eval e X.env) :: starEach es X.env := by rfl) (hpl : (backTo pos (starEach es X.env)).any (·.1) = false := by rfl) : JE X (.Call (.Name x p) (e :: es) [] pos) ρ Q := fun B F H σ k f bb S q => by
  refine toE (pe_callTy hc hg hm hv pA hn hdb he hpl) ?_
  refine ha B F H σ _ f bb S fun vs ds F1 H1 pd g1 S1 d1 => ?_
  exact h ds pd F1 H1 vs k g1.fh d1 fun u d F2 H2 qd g2 d2 => q u d F2 H2 qd (g1.trans (g2.wide g1.bh)) (S1.up g2) d2
theorem je_callG {id : String} {r : List V → Hp → VK → Prop} {P : List PyData → Prop} (hc : CallR X (.builtin id) r) (hg : Gl X x) (hm : X.mg x = some (.builtin id)) (ha : JA X (e :: es) ρ P) (h : ∀ ds, P ds → RC X.K r ds Q) (hdb : (x == ("__debug__" : Str)) = false := by decide)
    (he : starEach (e :: es) X.env = (false, eval e X.env) :: starEach es X.env := by rfl) (hpl : (backTo pos (starEach es X.env)).any (·.1) = false := by rfl) : JE X (.Call (.Name x p) (e :: es) [] pos) ρ Q := fun B F H σ k f bb S q => by
  refine toE (pe_callBfun hc hg hm pA hdb he hpl) ?_
  refine ha B F H σ _ f bb S fun vs ds F1 H1 pd g1 S1 d1 => ?_
  exact h ds pd F1 H1 vs k g1.fh d1 fun u d F2 H2 qd g2 d2 => q u d F2 H2 qd (g1.trans (g2.wide g1.bh)) (S1.up g2) d2
/-- a new tuple, a new list -/
theorem rc_newT {K : PySem.W.Frag} {ds : List PyData} {F H : Hp} {vs : List V} {k : VK} (f : Same F H) (hv : DpAll K F vs ds) (hq : Q (.tuple ds)) (q : ∀ u d F' H', Q d → Grow H F F' H' → Dp K F' u d → k u H') : ∀ p, H p = none → k (.ref p) (upd H p (.tup vs)) := fun p hp =>
  q _ _ _ _ hq (Grow.new f hp) (.tup (SqT.of upd_same) (hv.same (same_new (f.free hp))))
theorem rc_newL {K : PySem.W.Frag} {ds : List PyData} {F H : Hp} {vs : List V} {k : VK} (f : Same F H) (hv : DpAll K F vs ds) (hq : Q (.list ds)) (q : ∀ u d F' H', Q d → Grow H F F' H' → Dp K F' u d → k u H') : ∀ p, H p = none → k (.ref p) (upd H p (.lst vs)) := fun p hp =>
  q _ _ _ _ hq (Grow.new f hp) (.lst (SqL.of upd_same) (hv.same (same_new (f.free hp))))
theorem rc_one {K : PySem.W.Frag} {d : PyData} {F : Hp} {vs : List V} (h : DpAll K F vs [d]) : ∃ v, vs = [v] ∧ Dp K F v d := by
  cases h with
  | cons h1 h2 => cases h2; exact ⟨_, rfl, h1⟩
theorem rc_two {K : PySem.W.Frag} {d d' : PyData} {F : Hp} {vs : List V} (h : DpAll K F vs [d, d']) : ∃ v v', vs = [v, v'] ∧ Dp K F v d ∧ Dp K F v' d' := by
  cases h with
  | cons h1 h2 =>
    obtain ⟨v', rfl, h3⟩ := rc_one h2
    exact ⟨_, v', rfl, h1, h3⟩
variable (hs : starEach [a] X.env = (false, eval a X.env) :: starEach [] X.env) (hpl : (backTo pos (starEach [] X.env)).any (·.1) = false)
theorem jv_lenL {ds : List PyData} (h : JV X a ρ (.list ds)) (hg : Gl X "len") (hm : X.mg "len" = none) (hs : starEach [a] X.env = (false, eval a X.env) :: starEach [] X.env := by rfl) (hpl : (backTo pos (starEach [] X.env)).any (·.1) = false := by rfl) : JV X (.Call (.Name "len" p) [a] [] pos) ρ (.int ds.length) :=
  je_callB call_len_seq hg hm boot_len (jav_cons h jav_nil hs) (fun ds' e => by
    subst e
    intro F H vs k f d q
    obtain ⟨v, rfl, dv⟩ := rc_one d
    obtain ⟨o, ws, rfl, h1, h2⟩ := dv.lst_
    refine ⟨o, ws, rfl, .inl (sqL_same f h1), ?_⟩
    rw [h2.length]
    exact q _ _ F H rfl (Grow.refl f (Same.refl _)) (.int _)) (he := hs) (hpl := hpl)
theorem jv_lenT {ds : List PyData} (h : JV X a ρ (.tuple ds)) (hg : Gl X "len") (hm : X.mg "len" = none) (hs : starEach [a] X.env = (false, eval a X.env) :: starEach [] X.env := by rfl) (hpl : (backTo pos (starEach [] X.env)).any (·.1) = false := by rfl) : JV X (.Call (.Name "len" p) [a] [] pos) ρ (.int ds.length) :=
  je_callB call_len_seq hg hm boot_len (jav_cons h jav_nil hs) (fun ds' e => by
    subst e
    intro F H vs k f d q
    obtain ⟨v, rfl, dv⟩ := rc_one d
    obtain ⟨o, ws, rfl, h1, h2⟩ := dv.tup_
    refine ⟨o, ws, rfl, .inr (sqT_same f h1), ?_⟩
    rw [h2.length]
    exact q _ _ F H rfl (Grow.refl f (Same.refl _)) (.int _)) (he := hs) (hpl := hpl)
theorem jv_tupleL {ds : List PyData} (h : JV X a ρ (.list ds)) (hg : Gl X "tuple") (hm : X.mg "tuple" = none) (hs : starEach [a] X.env = (false, eval a X.env) :: starEach [] X.env := by rfl) (hpl : (backTo pos (starEach [] X.env)).any (·.1) = false := by rfl) : JV X (.Call (.Name "tuple" p) [a] [] pos) ρ (.tuple ds) :=
  je_callTy call_tuple_of hg hm (by decide +kernel) (jav_cons h jav_nil hs) (fun ds' e => by
    subst e
    intro F H vs k f d q
    obtain ⟨v, rfl, dv⟩ := rc_one d
    obtain ⟨o, ws, rfl, h1, h2⟩ := dv.lst_
    exact ⟨o, ws, rfl, .inl ⟨sqL_same f h1, rc_newT (Q := (· = _)) f h2 rfl q⟩⟩) (he := hs) (hpl := hpl)
theorem jv_listT {ds : List PyData} (h : JV X a ρ (.tuple ds)) (hg : Gl X "list") (hm : X.mg "list" = none) (hs : starEach [a] X.env = (false, eval a X.env) :: starEach [] X.env := by rfl) (hpl : (backTo pos (starEach [] X.env)).any (·.1) = false := by rfl) : JV X (.Call (.Name "list" p) [a] [] pos) ρ (.list ds) :=
  je_callTy call_list_of hg hm (by decide +kernel) (jav_cons h jav_nil hs) (fun ds' e => by
    subst e
    intro F H vs k f d q
    obtain ⟨v, rfl, dv⟩ := rc_one d
    obtain ⟨o, ws, rfl, h1, h2⟩ := dv.tup_
    exact ⟨o, ws, rfl, .inr (sqT_same f h1), rc_newL (Q := (· = _)) f h2 rfl q⟩) (he := hs) (hpl := hpl)
theorem jv_listL {ds : List PyData} (h : JV X a ρ (.list ds)) (hg : Gl X "list") (hm : X.mg "list" = none) (hs : starEach [a] X.env = (false, eval a X.env) :: starEach [] X.env := by rfl) (hpl : (backTo pos (starEach [] X.env)).any (·.1) = false := by rfl) : JV X (.Call (.Name "list" p) [a] [] pos) ρ (.list ds) :=
  je_callTy call_list_of hg hm (by decide +kernel) (jav_cons h jav_nil hs) (fun ds' e => by
    subst e
    intro F H vs k f d q
    obtain ⟨v, rfl, dv⟩ := rc_one d
    obtain ⟨o, ws, rfl, h1, h2⟩ := dv.lst_
    exact ⟨o, ws, rfl, .inl (sqL_same f h1), rc_newL (Q := (· = _)) f h2 rfl q⟩) (he := hs) (hpl := hpl)
theorem je_all (h : JE X a ρ fun d => ∃ bs : List Bool, d = .list (bs.map PyData.bool) ∧ Q (.bool (bs.all id))) (hg : Gl X "all") (hm : X.mg "all" = none) (hc : X.calm = true := by rfl) (hs : starEach [a] X.env = (false, eval a X.env) :: starEach [] X.env := by rfl) (hpl : (backTo pos (starEach [] X.env)).any (·.1) = false := by rfl) : JE X (.Call (.Name "all" p) [a] [] pos) ρ Q :=
  je_callB (P := fun ds => ∃ bs : List Bool, ds = [.list (bs.map PyData.bool)] ∧ Q (.bool (bs.all id))) (cr_all hc) hg hm (by decide +kernel) (ja_cons h (fun d hd => ja_nil (by
      obtain ⟨bs, e, q⟩ := hd
      exact ⟨bs, by rw [e], q⟩)) hs) (fun ds' e => by
    obtain ⟨bs, e, qb⟩ := e
    intro F H vs k f d q
    rw [e] at d
    obtain ⟨v, rfl, dv⟩ := rc_one d
    obtain ⟨o, ws, rfl, h1, h2⟩ := dv.lst_
    rw [h2.bools] at h1
    exact ⟨o, bs, rfl, sqL_same f h1, q _ _ F H qb (Grow.refl f (Same.refl _)) (.bl _)⟩) (he := hs) (hpl := hpl)
theorem jv_abs {i : Int} (h : JV X a ρ (.int i)) (hg : Gl X "abs") (hm : X.mg "abs" = none) (hs : starEach [a] X.env = (false, eval a X.env) :: starEach [] X.env := by rfl) (hpl : (backTo pos (starEach [] X.env)).any (·.1) = false := by rfl) : JV X (.Call (.Name "abs" p) [a] [] pos) ρ (.int (if i < 0 then -i else i)) :=
  je_callB call_abs hg hm (by decide +kernel) (jav_cons h jav_nil hs) (fun ds' e => by
    subst e
    intro F H vs k f d q
    obtain ⟨v, rfl, dv⟩ := rc_one d
    rw [dv.int_]
    exact ⟨i, rfl, q _ _ F H rfl (Grow.refl f (Same.refl _)) (.int _)⟩) (he := hs) (hpl := hpl)
theorem jv_intI {i : Int} (h : JV X a ρ (.int i)) (hg : Gl X "int") (hm : X.mg "int" = none) (hs : starEach [a] X.env = (false, eval a X.env) :: starEach [] X.env := by rfl) (hpl : (backTo pos (starEach [] X.env)).any (·.1) = false := by rfl) : JV X (.Call (.Name "int" p) [a] [] pos) ρ (.int i) :=
  je_callTy call_int1 hg hm (by decide +kernel) (jav_cons h jav_nil hs) (fun ds' e => by
    subst e
    intro F H vs k f d q
    obtain ⟨v, rfl, dv⟩ := rc_one d
    rw [dv.int_]
    exact .inl ⟨i, rfl, q _ _ F H rfl (Grow.refl f (Same.refl _)) (.int _)⟩) (he := hs) (hpl := hpl)
end

/-! ### defs -/
/-- a def's promise, by data -/
def spD (K : PySem.W.Frag) {α : Type} (args : α → List PyData) (pre : α → Prop) (post : α → PyData → Prop) : Sp := fun vs H Q _ =>
  ∃ (x : α) (F : Hp), DpAll K F vs (args x) ∧ Same F H ∧ pre x ∧ ∀ v d F' H', post x d → Grow H F F' H' → Dp K F' v d → Q v H'
/-- all of H but what stands at o -/
def hide (o : Addr) (H : Hp) : Hp := fun c => if c = o then none else H c
theorem hide_at {o : Addr} {H : Hp} : hide o H o = none := if_pos rfl
theorem hide_ne {o c : Addr} {H : Hp} (h : c ≠ o) : hide o H c = H c := if_neg h
theorem hide_same {o : Addr} {H : Hp} : Same (hide o H) H := fun c u e => by
  by_cases hc : c = o
  · subst hc; rw [hide_at] at e; cases e
  · rw [hide_ne hc] at e; exact e
/-- .. of a def that draws from the list at its first place -/
def spS (K : PySem.W.Frag) {α : Type} (args : α → List PyData) (pre : α → Prop) (post : α → PyData → Prop) : Sp := fun vs H Q _ =>
  ∃ (x : α) (F : Hp) (o : Addr) (i j k : Int) (ws : List V), vs = .ref o :: ws ∧ H o = some (.lst [.int i, .int j, .int k]) ∧ 0 ≤ i ∧ F o = none ∧ DpAll K F ws (args x) ∧ Same F H ∧ pre x ∧
    ∀ v d F' H' i' j' k', post x d → 0 ≤ i' → H' o = some (.lst [.int i', .int j', .int k']) → F' o = none → Grow (hide o H) F F' H' → Dp K F' v d → Q v H'
def rho0 (N : List Str) (ds : List PyData) : Rho := ds.map SD.val ++ List.replicate (N.length - ds.length) SD.no
theorem slots_start {K : PySem.W.Frag} {B F H : Hp} {N : List Str} {vs : List V} {ds : List PyData} (h : DpAll K F vs ds) : Slots K B F H (L2.start N vs) (rho0 N ds) := by
  have nom : ∀ (i : Nat) (s : SD), (rho0 N ds)[i]? = some s → s = SD.no ∨ ∃ d, ds[i]? = some d ∧ s = SD.val d := by
    intro i s e
    unfold rho0 at e
    by_cases hi : i < ds.length
    · rw [List.getElem?_append_left (by simpa using hi), List.getElem?_map, List.getElem?_eq_getElem hi] at e
      exact .inr ⟨ds[i], List.getElem?_eq_getElem hi, (Option.some.inj e).symm⟩
    · rw [List.getElem?_append_right (by simpa using hi)] at e
      exact .inl (List.mem_replicate.mp (List.mem_of_getElem? e)).2
  refine ⟨by simp [L2.start, rho0, h.length], fun i s e => ?_, fun i j a hn hi hj e1 e2 => ?_⟩
  · rcases nom i s e with rfl | ⟨d, hd, rfl⟩
    · trivial
    · obtain ⟨v, hv, dv⟩ := h.get hd
      refine ⟨v, ?_, dv⟩
      have hl : i < vs.length := (List.getElem?_eq_some_iff.mp hv).1
      unfold L2.start
      rw [List.getElem?_append_left (by simpa using hl), List.getElem?_map, hv]
      rfl
  · obtain ⟨s, hs, m⟩ := hi
    rcases nom i s hs with rfl | ⟨d, hd, rfl⟩ <;> cases m
section
variable {P : Program} {w : World} {K : PySem.W.Frag} {mg : Str → Option Value} {base : Heap} {α : Type} {args : α → List PyData} {pre : α → Prop} {post : α → PyData → Prop}
/-- THE RULE for a def -/
theorem cal_mk {x : Str} {st : Stmt} {f : Addr} {fd : FuncData} {N ps : List Str} {k : Nat} (F : Def K mg x st f fd) (b : Binds K fd ps []) (S : FnScope N ps (fnScope st)) (hl : ∀ y, (args y).length = ps.length)
    (body : ∀ (y : α), pre y → ∀ (cdv : Value) (A : Around) (outer : List Env) (s : Shared) (H : Hp) (E : XK), Room k (A.deeper (envOfC x (fnScope st) s.heap.objs.size f cdv)) →
      JB (cxOf C8.CX0 P w K mg base N x (fnScope st) f cdv A outer s H E).nox (fnBody st) (rho0 N (args y)) { nx := fun _ => post y .none, rt := fun d _ => post y d }) : Cal P w K mg base (k + 1) x (spD K args pre post) [] := by
  refine cal0 F b .nil S (fun vs H Q E h => ?_) fun cdv A outer s H vs Q E hr h => ?_
  · obtain ⟨y, F', h1, _⟩ := h
    rw [h1.length, hl]
  · obtain ⟨y, F', h1, h2, h3, h4⟩ := h
    refine ⟨_, pB, ?_⟩
    exact body y h3 cdv A outer s H E hr H F' H (L2.start N vs) _ h2 (Same.refl H) (slots_start h1) ⟨fun ρ' σ' F2 H2 p g _ => h4 .non .none F2 H2 p g .non, fun v d ρ' σ' F2 H2 p g _ dv => h4 v d F2 H2 p g dv, fun _ _ _ _ z => z.elim, fun _ _ _ _ z => z.elim, fun _ _ _ _ _ _ _ z => z.elim⟩
theorem slots_startS {B F H : Hp} {N : List Str} {ws : List V} {ds : List PyData} {o : Addr} {i j k : Int} (h : DpAll K F ws ds) (b0 : B o = none) (f0 : F o = none) (h0 : H o = some (.lst [.int i, .int j, .int k])) (hi : 0 ≤ i) (hN : 1 ≤ N.length) : Slots K B F H (L2.start N (.ref o :: ws)) (.sack o :: rho0 N.tail ds) := by
  have S := slots_start (B := B) (H := H) (N := N.tail) h
  have e1 : L2.start N (.ref o :: ws) = some (.ref o) :: L2.start N.tail ws := by
    unfold L2.start
    simp
    omega
  rw [e1]
  refine ⟨by simp [S.len], fun m s e => ?_, fun m n a hn hm hn' q1 q2 => ?_⟩
  · cases m with
    | zero =>
      have : SD.sack o = s := by simpa using e
      subst this
      exact ⟨i, j, k, rfl, b0, f0, h0, hi⟩
    | succ m => exact S.ok m s (by simpa using e)
  · have nom : ∀ m, IsMut (.sack o :: rho0 N.tail ds) m → m = 0 := by
      intro m ⟨s, hs, mm⟩
      cases m with
      | zero => rfl
      | succ m =>
        exfalso
        have hs' : (rho0 N.tail ds)[m]? = some s := by simpa using hs
        unfold rho0 at hs'
        have hmem := List.mem_of_getElem? hs'
        rcases List.mem_append.mp hmem with q | q
        · obtain ⟨d, _, rfl⟩ := List.mem_map.mp q; cases mm
        · rw [(List.mem_replicate.mp q).2] at mm; cases mm
    exact hn ((nom m hm).trans (nom n hn').symm)
theorem calS_mk {x : Str} {st : Stmt} {f : Addr} {fd : FuncData} {N ps : List Str} {k : Nat} (F : Def K mg x st f fd) (b : Binds K fd ps []) (S : FnScope N ps (fnScope st)) (hN : 1 ≤ N.length) (hl : ∀ y, (args y).length + 1 = ps.length)
    (body : ∀ (y : α) (o : Addr), pre y → ∀ (cdv : Value) (A : Around) (outer : List Env) (s : Shared) (H : Hp) (E : XK), Room k (A.deeper (envOfC x (fnScope st) s.heap.objs.size f cdv)) →
      JB (cxOf C8.CX0 P w K mg base N x (fnScope st) f cdv A outer s H E).nox (fnBody st) (.sack o :: rho0 N.tail (args y)) { nx := fun ρ => ρ[0]? = some (.sack o) ∧ post y .none, rt := fun d ρ => ρ[0]? = some (.sack o) ∧ post y d }) : Cal P w K mg base (k + 1) x (spS K args pre post) [] := by
  refine cal0 F b .nil S (fun vs H Q E h => ?_) fun cdv A outer s H vs Q E hr h => ?_
  · obtain ⟨y, F', o, i, j, k, ws, rfl, _, _, _, h1, _⟩ := h
    rw [List.length_cons, h1.length, hl]
  · obtain ⟨y, F', o, i, j, k, ws, rfl, h0, hi, f0, h1, h2, h3, h4⟩ := h
    refine ⟨_, pB, ?_⟩
    have fin : ∀ ρ' σ' F2 H2 v d, ρ'[0]? = some (.sack o) → post y d → Grow (hide o H) F' F2 H2 → Slots K (hide o H) F2 H2 σ' ρ' → Dp K F2 v d → Q v H2 := by
      intro ρ' σ' F2 H2 v d hs p g S2 dv
      obtain ⟨i', j', k', q1, q2, q3, q4, q5⟩ := S2.ok 0 _ hs
      exact h4 v d F2 H2 i' j' k' p q5 q4 q3 g dv
    exact body y o h3 cdv A outer s H E hr (hide o H) F' H _ _ h2 hide_same (slots_startS h1 hide_at f0 h0 hi hN) ⟨fun ρ' σ' F2 H2 p g S2 => fin ρ' σ' F2 H2 .non .none p.1 p.2 g S2 .non, fun v d ρ' σ' F2 H2 p g S2 dv => fin ρ' σ' F2 H2 v d p.1 p.2 g S2 dv, fun _ _ _ _ z => z.elim, fun _ _ _ _ z => z.elim, fun _ _ _ _ _ _ _ z => z.elim⟩
variable {X : Cx} {ρ : Rho} {e a : Expr} {es : List Expr} {pos p : Pos} {Q : PyData → Prop} {x : Str} {k j : Nat}
/-- f(e, ..) -/
theorem je_call {R : List PyData → Prop} (c : Cal X.prog X.w X.K X.mg X.base k x (spD X.K args pre post) []) (hr : Room j X.A) (hk : k ≤ j) (hg : Gl X x) (ha : JA X (e :: es) ρ R) (h : ∀ ds, R ds → ∃ y, ds = args y ∧ pre y ∧ ∀ d, post y d → Q d)
    (hdb : (x == ("__debug__" : Str)) = false := by decide) (he : starEach (e :: es) X.env = (false, eval e X.env) :: starEach es X.env := by rfl) (hpl : (backTo pos (starEach es X.env)).any (·.1) = false := by rfl) : JE X (.Call (.Name x p) (e :: es) [] pos) ρ Q := fun B F H σ kk f bb S q => by
  refine toE (pe_c c hr hk hg pA hdb he hpl) ?_
  refine ha B F H σ _ f bb S fun vs ds F1 H1 pd g1 S1 d1 => ?_
  obtain ⟨y, rfl, hp, hq⟩ := h ds pd
  show spD X.K args pre post (vs ++ []) H1 kk C8.E0
  rw [List.append_nil]
  exact ⟨y, F1, d1, g1.fh, hp, fun v d F2 H2 p2 g2 d2 => q v d F2 H2 (hq d p2) (g1.trans (g2.wide g1.bh)) (S1.up g2) d2⟩
theorem je_callV (c : Cal X.prog X.w X.K X.mg X.base k x (spD X.K args pre post) []) (hr : Room j X.A) (hg : Gl X x) (y : α) {ds : List PyData} (ha : JAV X (e :: es) ρ ds) (hy : ds = args y) (hp : pre y) (hk : k ≤ j := by decide)
    (hdb : (x == ("__debug__" : Str)) = false := by decide) (he : starEach (e :: es) X.env = (false, eval e X.env) :: starEach es X.env := by rfl) (hpl : (backTo pos (starEach es X.env)).any (·.1) = false := by rfl) : JE X (.Call (.Name x p) (e :: es) [] pos) ρ (post y) :=
  je_call c hr hk hg ha (fun ds' e' => ⟨y, e'.trans hy, hp, fun _ q => q⟩) hdb he hpl
/-- f(sack, e, ..) -/
theorem je_callS {s : Str} {ps : Pos} (i : Nat) {o : Addr} (c : Cal X.prog X.w X.K X.mg X.base k x (spS X.K args pre post) []) (hr : Room j X.A) (hg : Gl X x) (hsl : ρ[i]? = some (.sack o)) (y : α) {ds : List PyData} (ha : JAV X es ρ ds) (hy : ds = args y) (hp : pre y) (hk : k ≤ j := by decide)
    (hN : X.N[i]? = some s := by rfl) (hv : Vis X.env.scope s := by first | exact Or.inl rfl | exact Or.inr (Or.inl rfl) | exact Or.inr (Or.inr rfl)) (hd : (s == ("__debug__" : Str)) = false := by decide) (hcd : (s == ("__classdict__" : Str)) = false := by decide)
    (hdb : (x == ("__debug__" : Str)) = false := by decide) (he : starEach (.Name s ps :: es) X.env = (false, eval (.Name s ps) X.env) :: starEach es X.env := by rfl) (hpl : (backTo pos (starEach es X.env)).any (·.1) = false := by rfl) : JE X (.Call (.Name x p) (.Name s ps :: es) [] pos) ρ (post y) := fun B F H σ kk f bb S q => by
  refine toE (pe_c c hr hk hg (pa_cons (pe_var hN hv hd hcd) pA he) hdb he hpl) ?_
  obtain ⟨i1, i2, i3, q1, q2, q3, q4, q5⟩ := S.ok i _ hsl
  refine ⟨.ref o, q1, ?_⟩
  refine ha B F H σ _ f bb S fun vs ds' F1 H1 pd g1 S1 d1 => ?_
  subst pd
  obtain ⟨j1, j2, j3, r1, r2, r3, r4, r5⟩ := S1.ok i _ hsl
  show spS X.K args pre post (V.ref o :: vs ++ []) H1 kk C8.E0
  rw [List.append_nil]
  rw [hy] at d1
  refine ⟨y, F1, o, j1, j2, j3, vs, rfl, r4, r5, r3, d1, g1.fh, hp, fun v d F2 H2 k1 k2 k3 p2 hk1 ho2 fo2 g2 d2 => ?_⟩
  have bh2 : Same (hide o H1) H2 := g2.bh
  have g3 : Grow B F1 F2 H2 := ⟨g2.ff, g2.fh, fun c u z => by
    have hc : c ≠ o := fun w => by rw [w, r2] at z; cases z
    exact bh2 c u (by rw [hide_ne hc]; exact g1.bh c u z), fun c u z => by
    rcases g2.nw c u z with w | w
    · exact .inl w
    · refine .inr ?_
      by_cases hc : c = o
      · rw [hc]; exact r2
      · rw [hide_ne hc] at w; exact g1.bh.free w⟩
  refine q v d F2 H2 p2 (g1.trans g3) ⟨S1.len, fun m s' hs => ?_, S1.dis⟩ d2
  have k1' := S1.ok m s' hs
  by_cases hm : m = i
  · subst hm
    rw [hsl] at hs
    have : SD.sack o = s' := Option.some.inj hs
    subst this
    exact ⟨k1, k2, k3, r1, r2, fo2, ho2, hk1⟩
  · have nd : ∀ c, IsMut ρ m → σ[m]? = some (some (.ref c)) → c ≠ o := fun c mm e z => S1.dis m i o hm mm ⟨_, hsl, rfl⟩ (by rw [e, z]) r1
    have off : ∀ c u, c ≠ o → F1 c = none → H1 c = some u → F2 c = none := fun c u hc fc hcu => by
      cases w : F2 c with
      | none => rfl
      | some z =>
        rcases g2.nw c z w with e | e
        · rw [fc] at e; cases e
        · rw [hide_ne hc, hcu] at e; cases e
    cases s' with
    | no => trivial
    | val d' =>
      obtain ⟨v', e1, e2⟩ := k1'
      exact ⟨v', e1, e2.same g2.ff⟩
    | own es' =>
      obtain ⟨c, ws, e1, e2, e3, e4, e5⟩ := k1'
      have hc := nd c ⟨_, hs, rfl⟩ e1
      exact ⟨c, ws, e1, e2, off c _ hc e3 e4, bh2 c _ (by rw [hide_ne hc]; exact e4), e5.same g2.ff⟩
    | sack o' =>
      obtain ⟨m1, m2, m3, e1, e2, e3, e4, e5⟩ := k1'
      have hc := nd o' ⟨_, hs, rfl⟩ e1
      exact ⟨m1, m2, m3, e1, e2, off o' _ hc e3 e4, bh2 o' _ (by rw [hide_ne hc]; exact e4), e5⟩
end
end Wf

namespace Wf
open PySem PySem.Spec PyProof.Rows L2 C8

section
variable {X : Cx} {ρ : Rho} {e a b : Expr} {es : List Expr} {pos p : Pos} {Q : PyData → Prop} {x : Str}
/-! ### bool - bool -/
def rSubB : R2 := fun x y H Q => ∃ p q : Bool, x = .bl p ∧ y = .bl q ∧ Q (.int (PyProof.Rows.b2i p - PyProof.Rows.b2i q)) H
theorem op_subB : OpR X (binaryOp .Sub) rSubB := by
  intro pins s σ H x y v u Q I rx ry h
  obtain ⟨p, q, rfl, rfl, k⟩ := h
  cases rx
  cases ry
  exact PyProof.Rows.sub_bool ⟨.int _, H, I.tok _, ⟨_, rfl⟩, k⟩
theorem jv_subB {k m : Bool} (ha : JV X a ρ (.bool k)) (hb : JV X b ρ (.bool m)) : JV X (.BinOp a .Sub b pos) ρ (.int (PyProof.Rows.b2i k - PyProof.Rows.b2i m)) :=
  je_op op_subB ha fun x e => by
    subst e
    exact hb.to (rd_val rfl fun F H v w f d1 d2 => ⟨.int _, .int _, fun kk q => by rw [d1.bool_, d2.bool_]; exact ⟨k, m, rfl, rfl, q⟩⟩)

/-! ### isinstance -/
/-- the type of data that are read -/
def tyD : PyData → String
  | .none => "NoneType"
  | .bool _ => "bool"
  | .int _ => "int"
  | .str _ => "str"
  | .list _ => "list"
  | .tuple _ => "tuple"
  | .dict _ => "dict"
theorem tyx_of {K : PySem.W.Frag} {H : Hp} {v : V} {d : PyData} (h : Dp K H v d) : TyX K H v (.type (tyD d)) := by
  cases h with
  | non => exact .base .non
  | bl b => exact .base (.bl b)
  | int i => exact .base (.int i)
  | str s => exact .base (.str s)
  | lst h k =>
    rcases h with (h | ⟨o, h⟩) | h
    · exact .base (.lst h)
    · exact .base (.frz h)
    · obtain ⟨o, its, n, e, q, _⟩ := h
      exact .kList e q
  | tup h k =>
    rcases h with (h | ⟨o, h⟩) | h
    · exact .base (.tup h)
    · exact .fTuple h
    · obtain ⟨o, its, n, e, q, _⟩ := h
      exact .kTuple e q
theorem jv_isi {T : Str} {n : String} {d : PyData} {r : Bool} {p2 : Pos} (h : JV X a ρ d) (hk : kitB (tyD d) n = some r) (hg : Gl X "isinstance") (hm : X.mg "isinstance" = none) (hg2 : Gl X T) (hm2 : X.mg T = none) (hb : bootBuiltins T = some (.type n)) (hn : T ≠ "__name__" := by decide) (hd : (T == ("__debug__" : Str)) = false := by decide)
    (h1 : starEach [a, .Name T p2] X.env = (false, eval a X.env) :: starEach [.Name T p2] X.env := by rfl) (h2 : starEach [.Name T p2] X.env = (false, eval (.Name T p2) X.env) :: starEach [] X.env := by rfl) (hpl : (backTo pos (starEach [.Name T p2] X.env)).any (·.1) = false := by rfl) :
    JV X (.Call (.Name "isinstance" p) [a, .Name T p2] [] pos) ρ (.bool r) := fun B F H σ k f bb S q => by
  refine toE (pe_callB call_isi hg hm (by decide +kernel) (pa_cons pE (pa_cons (pe_bltn (v := .ty n) hg2 hm2 hb rfl hn hd) pa_nil h2) h1) (he := h1) (hpl := hpl)) ?_
  refine h B F H σ _ f bb S fun v d' F1 H1 e g1 S1 d1 => ?_
  subst e
  exact ⟨v, .ty n, .type (tyD d'), .type n, r, rfl, .ty n, tyx_of (d1.same g1.fh), kit_ty hk, q _ _ F1 H1 rfl g1 S1 (.bl r)⟩

/-! ### gcd, lcm -/
theorem jv_gcd {i j : Int} (ha : JV X a ρ (.int i)) (hb : JV X b ρ (.int j)) (hg : Gl X "gcd") (hm : X.mg "gcd" = some (.builtin "math.gcd")) (h1 : starEach [a, b] X.env = (false, eval a X.env) :: starEach [b] X.env := by rfl) (h2 : starEach [b] X.env = (false, eval b X.env) :: starEach [] X.env := by rfl)
    (hpl : (backTo pos (starEach [b] X.env)).any (·.1) = false := by rfl) : JV X (.Call (.Name "gcd" p) [a, b] [] pos) ρ (.int ((Nat.gcd i.natAbs j.natAbs : Nat) : Int)) :=
  je_callG cr_gcd hg hm (jav_cons ha (jav_cons hb jav_nil h2) h1) (fun ds' e => by
    subst e
    intro F H vs k f d q
    obtain ⟨v, v', rfl, d1, d2⟩ := rc_two d
    rw [d1.int_, d2.int_]
    exact ⟨i, j, rfl, q _ _ F H rfl (Grow.refl f (Same.refl _)) (.int _)⟩) (he := h1) (hpl := hpl)
def rLcm : List V → Hp → VK → Prop := fun vs H Q => ∃ a b : Int, vs = [.int a, .int b] ∧ a.natAbs < 2 ^ 64 ∧ b.natAbs < 2 ^ 64 ∧ Q (.int ((Nat.lcm a.natAbs b.natAbs : Nat) : Int)) H
theorem cr_lcm : CallR X (.builtin "math.lcm") rLcm := by
  intro pins s σ H vs us Q I r ⟨a, b, hv, h1, h2, q⟩
  subst hv
  obtain ⟨t, u, rfl⟩ := Vals.int2 r
  exact PySem.W.mc_lcm h1 h2 fun _ => ⟨.int _, H, I.tok _, ⟨_, rfl⟩, q⟩
theorem jv_lcm {i j : Int} (ha : JV X a ρ (.int i)) (hb : JV X b ρ (.int j)) (hi : i.natAbs < 2 ^ 64) (hj : j.natAbs < 2 ^ 64) (hg : Gl X "lcm") (hm : X.mg "lcm" = some (.builtin "math.lcm")) (h1 : starEach [a, b] X.env = (false, eval a X.env) :: starEach [b] X.env := by rfl) (h2 : starEach [b] X.env = (false, eval b X.env) :: starEach [] X.env := by rfl)
    (hpl : (backTo pos (starEach [b] X.env)).any (·.1) = false := by rfl) : JV X (.Call (.Name "lcm" p) [a, b] [] pos) ρ (.int ((Nat.lcm i.natAbs j.natAbs : Nat) : Int)) :=
  je_callG cr_lcm hg hm (jav_cons ha (jav_cons hb jav_nil h2) h1) (fun ds' e => by
    subst e
    intro F H vs k f d q
    obtain ⟨v, v', rfl, d1, d2⟩ := rc_two d
    rw [d1.int_, d2.int_]
    exact ⟨i, j, rfl, hi, hj, q _ _ F H rfl (Grow.refl f (Same.refl _)) (.int _)⟩) (he := h1) (hpl := hpl)

/-! ### is None -/
def isNo : PyData → Bool
  | .none => true
  | _ => false
theorem isNo_dp {K : PySem.W.Frag} {H : Hp} {v : V} {d : PyData} (h : Dp K H v d) : decide (v = .non) = isNo d := by
  cases h <;> rfl
theorem jv_isNone {d : PyData} (ha : JV X a ρ d) (hb : JV X b ρ .none) : JV X (.Compare a [.Is] [b] pos) ρ (.bool (isNo d)) :=
  je_cmp op_isN ha (fun x e => by
    subst e
    exact hb.to (rd_val rfl fun F H v w f d1 d2 => ⟨.bl _, .bl _, fun k q => ⟨d2.none_, by rw [isNo_dp d1]; exact q⟩⟩)) (nomark _)
theorem jv_notNone {d : PyData} (ha : JV X a ρ d) (hb : JV X b ρ .none) : JV X (.Compare a [.IsNot] [b] pos) ρ (.bool (!isNo d)) :=
  je_cmp op_notN ha (fun x e => by
    subst e
    exact hb.to (rd_val rfl fun F H v w f d1 d2 => ⟨.bl _, .bl _, fun k q => ⟨d2.none_, by rw [isNo_dp d1]; exact q⟩⟩)) (nomark _)
theorem jt_isNone {d : PyData} (ha : JV X a ρ d) (hb : JV X b ρ .none) : JTV X (.Compare a [.Is] [b] pos) ρ (isNo d) :=
  jt_cmp op_isN ha (fun x e => by
    subst e
    exact hb.to (rd_val (Q := fun d' => ∃ k, d' = .bool k ∧ k = isNo x) ⟨_, rfl, rfl⟩ fun F H v w f d1 d2 => ⟨.bl _, .bl _, fun k q => ⟨d2.none_, by rw [isNo_dp d1]; exact q⟩⟩)) (nomark _)
theorem jt_notNone {d : PyData} (ha : JV X a ρ d) (hb : JV X b ρ .none) : JTV X (.Compare a [.IsNot] [b] pos) ρ (!isNo d) :=
  jt_cmp op_notN ha (fun x e => by
    subst e
    exact hb.to (rd_val (Q := fun d' => ∃ k, d' = .bool k ∧ k = !isNo x) ⟨_, rfl, rfl⟩ fun F H v w f d1 d2 => ⟨.bl _, .bl _, fun k q => ⟨d2.none_, by rw [isNo_dp d1]; exact q⟩⟩)) (nomark _)

/-! ### == of data -/
theorem rd_D {K : PySem.W.Frag} {c d : PyData} {r : R2} {g : PyData → PyData → Bool} (hr : ∀ x y H (Q : VK), Dp K H x c → Dp K H y d → Q (.bl (g c d)) H → r x y H Q) (hq : Q (.bool (g c d))) : RD K r c d Q :=
  rd_val hq fun F H v w f d1 d2 => ⟨.bl _, .bl _, fun k q => hr v w H k (d1.same f) (d2.same f) q⟩
theorem jv_eqD {c d : PyData} (ha : JV X a ρ c) (hb : JV X b ρ d) (hu : X.A.units + 64 < cLine) (s1 : SeqAt.shaped c = true) (s2 : SeqAt.shaped d = true) : JV X (.Compare a [.Eq] [b] pos) ρ (.bool (PyData.eqv c d)) :=
  je_cmp (op_eqD hu) ha (fun x e => by subst e; exact hb.to (rd_D (g := PyData.eqv) (fun x y H Q d1 d2 q => ⟨_, _, d1, d2, s1, s2, q⟩) rfl)) (nomark _)
theorem jt_eqD {c d : PyData} (ha : JV X a ρ c) (hb : JV X b ρ d) (hu : X.A.units + 64 < cLine) (s1 : SeqAt.shaped c = true) (s2 : SeqAt.shaped d = true) : JTV X (.Compare a [.Eq] [b] pos) ρ (PyData.eqv c d) :=
  jt_cmp (op_eqD hu) ha (fun x e => by subst e; exact hb.to (rd_D (Q := fun d' => ∃ k, d' = .bool k ∧ k = PyData.eqv x d) (g := PyData.eqv) (fun x y H Q d1 d2 q => ⟨_, _, d1, d2, s1, s2, q⟩) ⟨_, rfl, rfl⟩)) (nomark _)
theorem jt_neD {c d : PyData} (ha : JV X a ρ c) (hb : JV X b ρ d) (hu : X.A.units + 64 < cLine) (s1 : SeqAt.shaped c = true) (s2 : SeqAt.shaped d = true) : JTV X (.Compare a [.NotEq] [b] pos) ρ (!PyData.eqv c d) :=
  jt_cmp (op_neD hu) ha (fun x e => by subst e; exact hb.to (rd_D (Q := fun d' => ∃ k, d' = .bool k ∧ k = !PyData.eqv x d) (g := fun c d => !PyData.eqv c d) (fun x y H Q d1 d2 q => ⟨_, _, d1, d2, s1, s2, q⟩) ⟨_, rfl, rfl⟩)) (nomark _)
theorem jt_notInD {d : PyData} {ds : List PyData} (ha : JV X a ρ d) (hb : JV X b ρ (.list ds)) (hu : X.A.units + 65 < cLine) (s1 : SeqAt.shaped d = true) (s2 : SeqAt.shaped (.list ds) = true) (hk : behindInMarks .NotIn b = false := by rfl) : JTV X (.Compare a [.NotIn] [b] pos) ρ (!ds.any fun z => PyData.eqv z d) :=
  jt_cmp (op_notInD hu) ha (fun x e => by subst e; exact hb.to (rd_D (Q := fun d' => ∃ k, d' = .bool k ∧ k = !ds.any fun z => PyData.eqv z x) (g := fun x _ => !ds.any fun z => PyData.eqv z x) (fun x y H Q d1 d2 q => ⟨_, _, d1, d2, s1, s2, q⟩) ⟨_, rfl, rfl⟩)) hk
/-- .. of a list of one's own -/
theorem jt_notInO (j : Nat) {y : Str} {py : Pos} {d : PyData} {ds : List PyData} (ha : JV X a ρ d) (h : ρ[j]? = some (.own ds)) (hu : X.A.units + 65 < cLine) (s1 : SeqAt.shaped d = true) (s2 : SeqAt.shaped (.list ds) = true) (hN : X.N[j]? = some y := by rfl)
    (hv : Vis X.env.scope y := by first | exact Or.inl rfl | exact Or.inr (Or.inl rfl) | exact Or.inr (Or.inr rfl)) (hd : (y == ("__debug__" : Str)) = false := by decide) (hcd : (y == ("__classdict__" : Str)) = false := by decide) :
    JTV X (.Compare a [.NotIn] [.Name y py] pos) ρ (!ds.any fun z => PyData.eqv z d) := fun B F H σ k f bb S q => by
  refine toT (pt_cmpR (op_notInD hu) pE (pe_var hN hv hd hcd) rfl) ?_
  refine ha B F H σ _ f bb S fun v x F1 H1 px g1 S1 d1 => ?_
  subst px
  obtain ⟨o, vs, q1, q2, q3, q4, q5⟩ := S1.ok j _ h
  exact ⟨.ref o, q1, x, ds, d1.same g1.fh, .lst (SqL.of q4) (q5.same g1.fh), s1, s2, _, rfl, q _ F1 H1 rfl g1 S1⟩
/-- xs == [] of a list of one's own -/
theorem jt_eqO (j : Nat) {y : Str} {py : Pos} {c : PyData} {ds : List PyData} (h : ρ[j]? = some (.own ds)) (hb : JV X b ρ c) (hu : X.A.units + 64 < cLine) (s1 : SeqAt.shaped (.list ds) = true) (s2 : SeqAt.shaped c = true) (hN : X.N[j]? = some y := by rfl)
    (hv : Vis X.env.scope y := by first | exact Or.inl rfl | exact Or.inr (Or.inl rfl) | exact Or.inr (Or.inr rfl)) (hd : (y == ("__debug__" : Str)) = false := by decide) (hcd : (y == ("__classdict__" : Str)) = false := by decide) :
    JTV X (.Compare (.Name y py) [.Eq] [b] pos) ρ (PyData.eqv (.list ds) c) := fun B F H σ k f bb S q => by
  refine toT (pt_cmpR (op_eqD hu) (pe_var hN hv hd hcd) pE (nomark _)) ?_
  obtain ⟨o, vs, q1, q2, q3, q4, q5⟩ := S.ok j _ h
  refine ⟨.ref o, q1, ?_⟩
  refine hb B F H σ _ f bb S fun v x F1 H1 px g1 S1 d1 => ?_
  subst px
  obtain ⟨o', vs', r1, r2, r3, r4, r5⟩ := S1.ok j _ h
  rw [q1] at r1
  have : o = o' := by simpa using r1
  subst this
  exact ⟨.list ds, x, .lst (SqL.of r4) (r5.same g1.fh), d1.same g1.fh, s1, s2, _, rfl, q _ F1 H1 rfl g1 S1⟩

/-! ### list + list, slices -/
def rCatD (K : PySem.W.Frag) : R2 := fun x y H Q => ∃ l m us ws, x = .ref l ∧ y = .ref m ∧ SqL K H l us ∧ SqL K H m ws ∧ us.length + ws.length ≤ sizeLine ∧ ∀ p, H p = none → Q (.ref p) (upd H p (.lst (us ++ ws)))
theorem op_catD : OpR X (binaryOp .Add) (rCatD X.K) := by
  intro pins s σ H x y v u Q I rx ry ⟨l, m, us, ws, hx, hy, h1, h2, hz, q⟩
  subst hx hy
  cases rx
  cases ry
  obtain ⟨i1, r1, ⟨⟨c1, f1, g1, k1⟩, n1, e1, b1, b2, b3⟩, _⟩ := I.list h1
  obtain ⟨i2, r2, ⟨⟨c2, f2, g2, k2⟩, n2, e2, d1, d2, d3⟩, _⟩ := I.list h2
  have b1' : c1 = .type "list" := b1
  have b3' : g1 = .seq i1.toArray n1 := b3
  have d1' : c2 = .type "list" := d1
  have d3' : g2 = .seq i2.toArray n2 := d3
  subst b1' b3' d1' d3'
  have hs : i1.toArray.size + i2.toArray.size ≤ sizeLine := by
    rw [List.size_toArray, List.size_toArray, ← r1.length, ← r2.length]
    exact hz
  have ha : s.TypeIs (.ref l) "list" := ⟨_, e1, rfl⟩
  have hb : s.TypeIs (.ref m) "list" := ⟨_, e2, rfl⟩
  have hw := PyProof.Rows.list_addW l m i1.toArray i2.toArray n1 n2 f1 f2 k1 k2 hs
  refine concat_meets ha hb PySem.noFill_list_add PySem.seq_list_add PySem.F.slot_list_add PySem.F.entry_list_add (PySem.F.args_list_add_2 _ _) hw ⟨e1, e2, ?_⟩
  have ea : i1.toArray ++ i2.toArray = (i1 ++ i2).toArray := by simp
  rw [ea]
  have J := I.lnew (t' := s.toks) (r1.append r2) (by rw [List.length_append]; exact hz)
  exact ⟨.ref _, _, J, rfl, q _ I.fresh⟩
end
end Wf

namespace Wf
open PySem PySem.Spec PyProof.Rows L2 C8

section
variable {X : Cx} {ρ : Rho} {e a b : Expr} {es : List Expr} {pos p : Pos} {Q : PyData → Prop} {x : Str}
/-- what makes a new object, by data -/
theorem rd_newL {K : PySem.W.Frag} {ds : List PyData} {F H : Hp} {vs : List V} {k : VK} (f : Same F H) (hv : DpAll K F vs ds) (hq : Q (.list ds)) (q : ∀ u d F' H', Q d → Grow H F F' H' → Dp K F' u d → k u H') : ∀ p, H p = none → k (.ref p) (upd H p (.lst vs)) := fun p hp =>
  q _ _ _ _ hq (Grow.new f hp) (.lst (SqL.of upd_same) (hv.same (same_new (f.free hp))))
theorem jv_cat {cs ds : List PyData} (ha : JV X a ρ (.list cs)) (hb : JV X b ρ (.list ds)) (hl : cs.length + ds.length ≤ 100000) : JV X (.BinOp a .Add b pos) ρ (.list (cs ++ ds)) :=
  je_op op_catD ha fun x e => by
    subst e
    refine hb.to fun F H v w k f d1 d2 q => ?_
    obtain ⟨l, us, rfl, h1, k1⟩ := d1.lst_
    obtain ⟨m, ws, rfl, h2, k2⟩ := d2.lst_
    exact ⟨l, m, us, ws, rfl, rfl, sqL_same f h1, sqL_same f h2, by rw [k1.length, k2.length]; exact Nat.le_trans hl (by decide), rd_newL (Q := (· = _)) f (k1.append k2) rfl q⟩
/-- xs[::-1] -/
theorem jv_rev {ds : List PyData} {k : Nat} {p1 p2 p3 : Pos} (ha : JV X a ρ (.list ds)) : JV X (.Subscript a (.Slice none none (some (.UnaryOp .USub (.Constant (.int 1) k p1) p2)) p3) pos) ρ (.list ds.reverse) := fun B F H σ kk f bb S q => by
  refine toE (pe_revL pE) ?_
  refine ha B F H σ _ f bb S fun v d F1 H1 e g1 S1 d1 => ?_
  subst e
  obtain ⟨o, vs, rfl, h1, h2⟩ := d1.lst_
  refine ⟨o, vs, rfl, sqL_same g1.fh h1, fun p hp => ?_⟩
  have g2 : Grow H1 F1 (upd F1 p (.lst vs.reverse)) (upd H1 p (.lst vs.reverse)) := Grow.new g1.fh hp
  exact q _ _ _ _ rfl (g1.trans (g2.wide g1.bh)) (S1.up g2) (.lst (SqL.of upd_same) (h2.reverse.same g2.ff))
/-- xs[lo:hi] of a list -/
theorem jv_cutL {ds : List PyData} {lo hi : Option Expr} {tl th : L2.TO} {p2 : Pos} {l u : Option Int} (ha : JV X a ρ (.list ds)) (hl : L2.PO X lo tl) (hh : L2.PO X hi th) (kl : ∀ σ H (Q : Option Int → Hp → Prop), Q l H → tl σ H Q) (kh : ∀ σ H (Q : Option Int → Hp → Prop), Q u H → th σ H Q) :
    JV X (.Subscript a (.Slice lo hi none p2) pos) ρ (.list ((ds.drop (HT.sIx ds.length 0 l)).take (HT.sIx ds.length ds.length u - HT.sIx ds.length 0 l))) := fun B F H σ kk f bb S q => by
  refine toE (pe_slice sl_list pE hl hh) ?_
  refine ha B F H σ _ f bb S fun v d F1 H1 e g1 S1 d1 => ?_
  subst e
  refine kl σ H1 _ (kh σ H1 _ ?_)
  obtain ⟨o, vs, rfl, h1, h2⟩ := d1.lst_
  refine ⟨o, vs, rfl, sqL_same g1.fh h1, fun p hp => ?_⟩
  have g2 : Grow H1 F1 (upd F1 p (.lst (cutV vs l u))) (upd H1 p (.lst (cutV vs l u))) := Grow.new g1.fh hp
  exact q _ _ _ _ rfl (g1.trans (g2.wide g1.bh)) (S1.up g2) (.lst (SqL.of upd_same) ((h2.cut l u).same g2.ff))
/-- xs[:-1] -/
theorem jv_init {ds : List PyData} {k : Nat} {p1 p2 p3 : Pos} (ha : JV X a ρ (.list ds)) : JV X (.Subscript a (.Slice none (some (.UnaryOp .USub (.Constant (.int 1) k p1) p2)) none p3) pos) ρ (.list ds.dropLast) :=
  (jv_cutL ha po_none (po_some (pe_un un_neg pe_int)) (l := none) (u := some (-1)) (fun σ H Q q => q) (fun σ H Q q => ⟨1, rfl, -1, rfl, q⟩)).is (by
    have e1 : HT.sIx ds.length ds.length (some (-1)) = ds.length - 1 := by
      show (if (-1 : Int) < 0 then ((-1 : Int) + (ds.length : Int)).toNat else min (-1 : Int).toNat ds.length) = _
      rw [if_pos (by decide)]
      omega
    rw [e1, HT.sIx_none, Nat.sub_zero, List.drop_zero, List.dropLast_eq_take])
/-- xs[:n] -/
theorem jv_head {ds : List PyData} {i : Int} {k : Nat} {p1 p3 : Pos} (ha : JV X a ρ (.list ds)) (h0 : 0 ≤ i := by decide) : JV X (.Subscript a (.Slice none (some (.Constant (.int i) k p1)) none p3) pos) ρ (.list (ds.take i.toNat)) :=
  (jv_cutL ha po_none (po_some pe_int) (l := none) (u := some i) (fun σ H Q q => q) (fun σ H Q q => ⟨i, rfl, q⟩)).is (by
    have e1 : HT.sIx ds.length ds.length (some i) = min i.toNat ds.length := by
      show (if i < 0 then (i + (ds.length : Int)).toNat else min i.toNat ds.length) = _
      rw [if_neg (by omega)]
    rw [e1, HT.sIx_none, Nat.sub_zero, List.drop_zero]
    simp [List.take_eq_take_iff])
end
end Wf

namespace Wf
open PySem PySem.Spec PyProof.Rows L2 C8

/-! ### enumerate of a tuple -/
theorem enumT_new (l : Addr) (items : Array Value) :
    Meets (Builtin.«enumerate.__new__» ⟨[.type "enumerate", .ref l], []⟩) (fun _ R s => s.heap.IsTuple l items ∧
      R (.ok (.ret (.ref (s.heap.push { cls := .type "tuple_iterator", data := .fields #[.ref l, .int 0 0] }).objs.size)))
        { s with heap := (s.heap.push { cls := .type "tuple_iterator", data := .fields #[.ref l, .int 0 0] }).push { cls := .type "enumerate", data := .fields #[.none, .bool false, .ref s.heap.objs.size, rawInt 0, .none, .none] } }) :=
  .of_wp fun prog w A R s h => by
    obtain ⟨hp, g, d, tk, os⟩ := s
    obtain ⟨hl, h⟩ := h
    have hsub := sub_enumerate
    have q1 : ∀ {A' : Around} {E : Value → Shared → Prop} {Q : Value → Shared → Prop}, Q (.ref hp.objs.size) ⟨hp.push { cls := .type "tuple_iterator", data := .fields #[.ref l, .int 0 0] }, g, d, tk, os⟩ → wpAny (model prog w) A' (pyIter (.ref l)) Q E ⟨hp, g, d, tk, os⟩ :=
      fun q => wpAny_pyIter_tuple hl q
    wp_walk using q1
    refine wpAny_stack_any fun st => wpAny_pure ?_
    split
    · rename_i c _ _ _ _ _
      cases (c == Value.type "enumerate")
      · wp_walk using q1
        exact ⟨_, rfl, h⟩
      · wp_walk using q1
        exact ⟨_, rfl, h⟩
    · wp_walk using q1
      exact ⟨_, rfl, h⟩
section
variable {prog : Program} {w : World} {A : Around} {E : Value → Shared → Prop} {s : Shared}
theorem enumT_call {l : Addr} {items : Array Value} {Q : Value → Shared → Prop} (hL : s.heap.IsTuple l items)
    (h : ∀ h', IsEnum h' (s.heap.objs.size + 1) s.heap.objs.size 0 .none → h'.IsTupleIter s.heap.objs.size l 0 → h'.objs.size = s.heap.objs.size + 2 →
      (∀ b o, s.heap.get? b = some o → h'.get? b = some o) → Q (.ref (s.heap.objs.size + 1)) { s with heap := h' }) :
    wpAny (model prog w) A (call (.type "enumerate") [.ref l]) Q E s := by
  have hn := enumT_new l items
  generalize hi : ({ cls := .type "tuple_iterator", data := .fields #[.ref l, .int 0 0] } : Obj) = io at hn
  generalize he : ({ cls := .type "enumerate", data := .fields #[.none, .bool false, .ref s.heap.objs.size, rawInt 0, .none, .none] } : Obj) = eo
  have hz : (s.heap.push io).objs.size = s.heap.objs.size + 1 := Heap.size_push ..
  refine callType_new F.called_enumerate (by decide) (F.typeCall_enumerate_1 _) (F.newCall_enumerate_1 _) (fun obj => F.args_object_init_2 obj _) F.entry_enumerate_new hn ⟨hL, ?_⟩
  show _ ∧ _
  rw [hz, he]
  have e1 : ((s.heap.push io).push eo).get? (s.heap.objs.size + 1) = some eo := by
    rw [← hz]
    exact Heap.get?_push_size _ (by rw [← he]; rfl)
  have e2 : IsEnum ((s.heap.push io).push eo) (s.heap.objs.size + 1) s.heap.objs.size 0 .none := by
    rw [← he] at e1 ⊢
    exact e1
  have e3 : ((s.heap.push io).push eo).get? s.heap.objs.size = some io := Heap.get?_push_of_some _ (Heap.get?_push_size _ (by rw [← hi]; rfl))
  refine ⟨⟨eo, e1, by rw [← he]⟩, h _ e2 ⟨io, e3, by rw [← hi], by rw [← hi]; rfl⟩ (by rw [Heap.size_push, hz]) fun b o y => Heap.get?_push_of_some _ (Heap.get?_push_of_some _ y)⟩
end
/-- the tuple at a as it stands at each turn, each item in a new pair -/
def ItEt (K : PySem.W.Frag) (a : Addr) : It where
  go i H := ∃ (us : List V) (y : V), SqT K H a us ∧ us[i]? = some y
  yld i H v H' := ∃ T y, v = .ref T ∧ H T = none ∧ H' = upd H T (.tup [.int (i : Nat), y]) ∧ ∀ us, SqT K H a us → us[i]? = some y
  stop i H := ∃ us : List V, SqT K H a us ∧ us.length = i
theorem two_mem {a b c : Addr} (h : c ∈ [a, b]) : c = a ∨ c = b := by simpa using h
theorem turn_enumT {P : Program} {w : World} {K : PySem.W.Frag} {tgs : List Expr} {kk : Nat} {tpos : Pos} (a e it : Addr) (hae : a ≠ e) (hai : a ≠ it) :
    Turn P w K (.Tuple tgs kk tpos) (ItEt K a) [e, it] e (fun i h => (∃ old, IsEnum h e it ((i : Nat) : Int) old) ∧ h.IsTupleIter it a i ∧ e ≠ it) where
  mem := List.mem_cons_self
  obj := fun i h ⟨⟨old, he⟩, ⟨o, ho, hc, hd⟩, _⟩ b hb => by
    rcases two_mem hb with rfl | rfl
    · exact ⟨_, he, fun v q => nomatch q⟩
    · exact ⟨o, ho, fun v q => by rw [hd] at q; cases q⟩
  keep := fun i h h' ⟨⟨old, he⟩, hi, hne⟩ k => ⟨⟨old, k e List.mem_cons_self _ he⟩, hi.at fun o q => k it (by simp) o q, hne⟩
  item := by
    intro X hP hw hK hc i pins s σ H E I hf ⟨⟨old, he⟩, hit, hne⟩ ⟨us, y, hq, hy⟩
    subst hP hw hK
    obtain ⟨its, rv, tp, hz⟩ := I.tuple hq
    obtain ⟨u, hu, ru⟩ := rv.get hy
    have hT : s.heap.IsTuple a its.toArray := tp
    have hlt : i < its.toArray.size := by
      rw [List.size_toArray]
      exact (List.getElem?_eq_some_iff.mp hu).1
    have le : e < s.heap.objs.size := Heap.lt_size he
    have li : it < s.heap.objs.size := by obtain ⟨_, q, _⟩ := hit; exact Heap.lt_size q
    have hout : e ∉ [it, a] := fun m => (two_mem m).elim hne fun z => hae z.symm
    refine wpAny_pyNext_enum_itemD (Draws.tuple (A := X.A.in1) (I.ok.hd hc) it a hai its.toArray) he ⟨hit, hT⟩ hlt hne hout fun x h' tk hx ho st' hN hsz hk => ?_
    have ex : x = u := by
      have : its.toArray[i]? = some u := by simpa using hu
      exact Option.some.inj (hx.symm.trans this)
    subst ex
    refine ⟨_, rfl, wpAny_letOwnedTupleGo_enum (s := { s with heap := h', toks := tk + 1 }) ho fun h'' he' sb => ?_⟩
    have hN2 : h''.get? s.heap.objs.size = some { cls := .type "tuple", data := .seq #[.int i tk, x] } := (sb.2 _ (Nat.ne_of_gt le)).trans hN
    have vs2 : Vals [V.int (i : Nat), y] [Value.int i tk, x] := .cons ⟨_, rfl⟩ (.cons ru .nil)
    have new : ObjOk X.prog X.w (upd H s.heap.objs.size (.tup [.int (i : Nat), y])) h'' s.heap.objs.size (.tup [.int (i : Nat), y]) := ⟨show 2 ≤ sizeLine by decide, _, vs2, _, hN2, rfl, _, rfl⟩
    have old' : ∀ b ob, b ∉ [e, it] → s.heap.get? b = some ob → h''.get? b = some ob := fun b ob hb q =>
      (sb.2 b fun z => hb (by rw [z]; exact List.mem_cons_self)).trans (hk b ob (fun z => hb (by rw [z]; exact List.mem_cons_self)) (fun z => hb (by rw [z]; simp)) q)
    have J : Inv X pins σ (upd H s.heap.objs.size (.tup [.int (i : Nat), y])) { s with heap := h'', toks := tk + 1 } := I.turnedNew (ch := [e, it]) old' hf (Nat.le_refl _) new
    refine ⟨.ref s.heap.objs.size, _, J, rfl, ⟨_, y, rfl, I.hok.fresh (Nat.le_refl _), rfl, fun ws hw => by rw [I.tuple_inj hw hq]; exact hy⟩, ⟨⟨x, ?_⟩, st'.1.at fun o q => (sb.2 it (Ne.symm hne)).trans q, hne⟩, fun b hb => ?_⟩
    · have e1 : ((i + 1 : Nat) : Int) = (i : Int) + 1 := by omega
      rw [e1]
      exact he'
    · have hb' : b < s.heap.objs.size := by
        rcases two_mem hb with rfl | rfl
        · exact le
        · exact li
      rw [upd_ne (Nat.ne_of_lt hb')]
      exact (hf b hb).1
  done := by
    intro X hP hw hK hc i pins s σ H E I hf ⟨⟨old, he⟩, hit, hne⟩ ⟨us, hq, hl⟩
    subst hP hw hK
    obtain ⟨its, rv, tp, hz⟩ := I.tuple hq
    have hT : s.heap.IsTuple a its.toArray := tp
    obtain ⟨f0, f1, f2, f3, f4, f5⟩ := hf it (by simp)
    have hlen := rv.length
    have hn : i = its.toArray.size := by
      rw [List.size_toArray, ← hlen, hl]
    have hit2 : s.heap.IsTupleIter it a its.toArray.size := by
      rw [← hn]
      exact hit
    exact wpAny_pyNext_enum_endD (Draws.tuple (A := X.A.in1) (I.ok.hd hc) it a hai its.toArray) he ⟨hit2, hT⟩ fun h' eb => ⟨rfl, I.turned (t' := s.toks) (fun b o hb q => eb b o hb q) f0 f1 f3 f4 f5⟩
  self := fun A i s Q E ⟨⟨_, he⟩, _⟩ h => wpAny_pyIter_enum he h
/-- for i, x in enumerate(t), t a tuple -/
def iEnumT (K : PySem.W.Frag) (ta : TA) : TI := fun σ H R => ta σ H fun vs H1 => ∃ a us, vs = [.ref a] ∧ SqT K H1 a us ∧ R (ItEt K a) H1
theorem pi_enumT {X : Cx} {e : Expr} {ta : TA} {p pos tpos : Pos} {tgs : List Expr} {kk : Nat} (hg : Gl X "enumerate") (hm : X.mg "enumerate" = none) (ha : PA X [e] ta) (hs : starEach [e] X.env = [(false, eval e X.env)] := by rfl) :
    PI X (.Tuple tgs kk tpos) (.Call (.Name "enumerate" p) [e] [] pos) (iEnumT X.K ta) := by
  refine ⟨fun pins s σ H R I h => ?_⟩
  refine Call_ (ld_blt I hg hm boot_enumerate (PyProof.Rows.callWith_type1 (thn (ha.run pos pins s σ H _ I h) fun us s1 ⟨vs, H1, I1, r1, a, xs, ex, hq, q⟩ => ?_) hs rfl))
  subst ex
  rw [Vals.ref1 r1]
  obtain ⟨its, rv, tp, hz⟩ := I1.tuple hq
  have hT : s1.heap.IsTuple a its.toArray := tp
  have la : a < s1.heap.objs.size := by obtain ⟨_, z, _⟩ := hT; exact Heap.lt_size z
  refine enumT_call hT fun h' he hit hsz hk => wpAny_pyIter_enum he ?_
  have J : Inv X pins σ H1 { s1 with heap := h' } := I1.kept (t' := s1.toks) hk
  refine ⟨s1.heap.objs.size + 1, [s1.heap.objs.size + 1, s1.heap.objs.size], _, _, H1, rfl, J, turn_enumT a (s1.heap.objs.size + 1) s1.heap.objs.size (Nat.ne_of_lt (Nat.lt_succ_of_lt la)) (Nat.ne_of_lt la), ⟨⟨.none, he⟩, hit, Nat.succ_ne_self _⟩, fun b hb => ?_, q⟩
  have hle : s1.heap.objs.size ≤ b := by
    rcases two_mem hb with rfl | rfl
    · exact Nat.le_add_right _ _
    · exact Nat.le_refl _
  exact I1.fpOk hle (I1.hok.fresh hle)
theorem ji_enumT {X : Cx} {ρ : Rho} {e : Expr} {ds : List PyData} {p pos tpos : Pos} {tgs : List Expr} {kk : Nat} (h : JV X e ρ (.tuple ds)) (hg : Gl X "enumerate") (hm : X.mg "enumerate" = none) (hs : starEach [e] X.env = [(false, eval e X.env)] := by rfl) (h1 : starEach [e] X.env = (false, eval e X.env) :: starEach [] X.env := by rfl) :
    JI X (.Tuple tgs kk tpos) (.Call (.Name "enumerate" p) [e] [] pos) ρ ds.length (fun i => .tuple [.int (i : Nat), ds.getD i .none]) := fun B F H σ R f bb S q => by
  refine toI (pi_enumT hg hm pA hs) ?_
  refine (jav_cons h jav_nil h1) B F H σ _ f bb S fun vs ds' F1 H1 e1 g1 S1 d1 => ?_
  subst e1
  obtain ⟨v, rfl, dv⟩ := rc_one d1
  obtain ⟨a, us, rfl, hu, hv⟩ := dv.tup_
  refine ⟨a, us, rfl, sqT_same g1.fh hu, q _ F1 H1 g1 S1 ⟨fun i H' hi hh => ?_, fun H' hh => ⟨us, sqT_same hh hu, hv.length⟩, fun i F2 H2 x H3 hi h1 h2 y => ?_⟩⟩
  · have hl : i < us.length := by rw [hv.length]; exact hi
    exact ⟨us, us[i], sqT_same hh hu, by simp [hl]⟩
  · obtain ⟨T, z, rfl, hn, rfl, hz⟩ := y
    have e2 := hz us (sqT_same (h1.trans h2) hu)
    obtain ⟨d, ed, hd⟩ := hv.get' e2
    have e3 : ds.getD i .none = d := by rw [List.getD_eq_getElem?_getD, ed]; rfl
    have g : Grow H2 F2 (upd F2 T (.tup [.int (i : Nat), z])) (upd H2 T (.tup [.int (i : Nat), z])) := Grow.new h2 hn
    refine ⟨_, g, ?_⟩
    rw [e3]
    exact .tup (SqT.of upd_same) (.cons (.int _) (.cons (hd.same (h1.trans g.ff)) .nil))
end Wf

namespace Wf
open PySem PySem.Spec PyProof.Rows L2 C8

/-! ### sorted of a set of pairs of whole numbers, any sign -/
def prOf : List Int → Int × Int
  | [x, y] => (x, y)
  | _ => (0, 0)
def keyIn (L : List (Addr × List Int)) : Value → Int × Int
  | .ref b => ((L.find? fun q => q.1 == b).map fun q => prOf q.2).getD (0, 0)
  | _ => (0, 0)
theorem keyIn_eq {L : List (Addr × List Int)} {q : Addr × List Int} (hq : q ∈ L) (one : ∀ r ∈ L, r.1 = q.1 → r.2 = q.2) : keyIn L (.ref q.1) = prOf q.2 := by
  show ((L.find? fun r => r.1 == q.1).map fun r => prOf r.2).getD (0, 0) = _
  cases hf : L.find? fun r => r.1 == q.1 with
  | none =>
    have := List.find?_eq_none.mp hf q hq
    simp at this
  | some r =>
    have h1 := List.mem_of_find?_eq_some hf
    have h2 := List.find?_some hf
    have h3 : r.1 = q.1 := by simpa using h2
    show prOf r.2 = _
    rw [one r h1 h3]
section
variable {P : Program} {w : World} {A : Around} {E : Value → Shared → Prop} {s : Shared}
theorem pair_isT {h : Heap} {b : Addr} {x y : Int} (z : IsT P w h [x, y] b) : Srt.IsPair h (.ref b) x y := by
  obtain ⟨c, its, e, ⟨o, ho, hc, n, hd⟩, hi⟩ := tupInts_of z
  cases e
  obtain ⟨l⟩ := its
  have hi : IntsAre l [x, y] := hi
  cases hi with
  | cons _ t1 r =>
    cases r with
    | cons _ t2 r =>
      cases r
      exact ⟨b, o, t1, t2, n, rfl, ho, hc, hd⟩
theorem sortSet {a : Addr} {L : List (Addr × List Int)} {es : Array (Int × Value)} {ep : Nat} {t : SetTable} {Q : Value → Shared → Prop} (R : SetTR P w s.heap a L es ep t) (hh : A.handled = none) (hp : ∀ q ∈ L, ∃ x y, q.2 = [x, y])
    (hQ : ∀ (s' : Shared) (p : Addr) (out : Array Value) (c : Nat) (M : List (Addr × List Int)), (∀ b o, s.heap.get? b = some o → s'.heap.get? b = some o) → s'.gens = s.gens → s'.os = s.os → s.heap.objs.size ≤ p → s'.heap.get? p = some (seqObj "list" out c) →
      out.toList = M.map (fun q => Value.ref q.1) → M.Perm L → M.Pairwise (fun q r => SrtO.lexB (prOf r.2) (prOf q.2) = false) → Q (.ref p) s') : wpAny (model P w) A (call (.builtin "sorted") [.ref a]) Q E s := by
  obtain ⟨o, ho, hex, hd⟩ := R.ob
  have hsz := R.size
  have few := R.few
  -- one key to an address
  have uni : ∀ q ∈ L, ∀ r ∈ L, r.1 = q.1 → r.2 = q.2 := fun q hq r hr e => by
    have a1 := R.tup r hr
    rw [e] at a1
    exact a1.inj (R.tup q hq)
  have key : ∀ q ∈ L, keyIn L (.ref q.1) = prOf q.2 := fun q hq => keyIn_eq hq (uni q hq)
  have back : ∀ us : List Value, (∀ u ∈ us, ∃ q ∈ L, Value.ref q.1 = u) → ∃ M : List (Addr × List Int), us = M.map (fun q => Value.ref q.1) ∧ ∀ q ∈ M, q ∈ L := by
    intro us
    induction us with
    | nil => exact fun _ => ⟨[], rfl, fun q hq => nomatch hq⟩
    | cons u us ih =>
      intro hu
      obtain ⟨q, hq, rfl⟩ := hu u List.mem_cons_self
      obtain ⟨M, rfl, hM⟩ := ih fun v hv => hu v (List.mem_cons_of_mem _ hv)
      exact ⟨q :: M, rfl, fun r hr => (List.mem_cons.mp hr).elim (fun z => z ▸ hq) (hM r)⟩
  have ndL : L.Nodup := nodup_of_map R.nd
  have ndR : (L.map fun q => Value.ref q.1).Nodup := by
    refine List.pairwise_map.mpr (ndL.imp_of_mem fun {q r} hq hr hne e => hne ?_)
    injection e with e
    exact Prod.ext e (uni r hr q hq e)
  refine Calls.call_function_entry kind_sorted plain_sorted entry_sorted (args_sorted1 _) ?_
  unfold Builtin.«sorted»
  refine wpAny_bind (m := checkCount "sorted" 1 1 _) (wpAny_pure ?_)
  have fits := R.fits
  have bound : es.size < scanBound := by rw [hsz]; unfold scanBound; omega
  refine wpAny_bind (collect_set (A := A.in1) hh ⟨o, ho, hex.1, hd⟩ fits bound R.tab.ris R.led fun s1 vs old le1 g1 o1 pm => ?_)
  have rows : es.toList.map (·.2) = L.map fun q => Value.ref q.1 := by
    rw [R.rows]
    simp [rowsOf, Function.comp_def]
  rw [rows] at pm
  have vlen : vs.length = L.length := by rw [pm.length_eq, List.length_map]
  have vsz : vs.length ≤ sizeLine := by rw [vlen, sizeLine_eq]; omega
  refine wpAny_bind (wpAny_newList ?_ vsz)
  generalize hH : s1.heap.push (seqObj "list" vs.toArray 0) = H2
  have hoL : H2.get? s1.heap.objs.size = some (seqObj "list" vs.toArray 0) := by rw [← hH]; exact Heap.get?_push_size _ rfl
  have keepH : ∀ b u, s.heap.get? b = some u → H2.get? b = some u := fun b u e => by rw [← hH]; exact Heap.get?_push_of_some _ (old b u e)
  have pairs : ∀ v ∈ vs, Srt.IsPair H2 v (keyIn L v).1 (keyIn L v).2 := fun v hv => by
    obtain ⟨q, hq, rfl⟩ := List.mem_map.mp (pm.mem_iff.mp hv)
    obtain ⟨x, y, e⟩ := hp q hq
    rw [key q hq, e]
    have z := isT_keep (R.tup q hq) keepH
    rw [e] at z
    exact pair_isT z
  refine wpAny_bind (wpAny_holding (wpAny_call_entry slot_list_sort (s := { s1 with heap := H2 }) ⟨_, hoL, rfl⟩ entry_list_sort (SrtO.list_sort_ord (SrtO.swo_lex (keyIn L)) hoL vsz (fun h2 => ?_) fun out h1 h2 => ⟨.none, rfl, ?_⟩) (args_list_sort _)))
  · refine SrtO.pairs_sortableO (s := { s1 with heap := H2 }) (by omega) pairs fun ob eo cc => ?_
    have eo' : some ob = some (seqObj "list" vs.toArray 0) := eo.symm.trans hoL
    cases eo'
    exact absurd (Value.type.inj cc) (by decide)
  · obtain ⟨c, hc⟩ := sortedHeap_at (vs := vs) (out := out.toArray) hoL
    have po : out.Perm (L.map fun q => Value.ref q.1) := h2.perm.trans pm
    obtain ⟨M, hM, sub⟩ := back out fun v hv => by
      obtain ⟨q, hq, e⟩ := List.mem_map.mp (po.mem_iff.mp hv)
      exact ⟨q, hq, e⟩
    have pML : M.Perm L := by
      rw [hM] at po
      have ndM : M.Nodup := nodup_of_map (po.nodup_iff.mpr ndR)
      refine (List.perm_ext_iff_of_nodup ndM ndL).mpr fun q => ⟨sub q, fun hq => ?_⟩
      obtain ⟨r, hr, e⟩ := List.mem_map.mp (po.mem_iff.mpr (List.mem_map.mpr ⟨q, hq, rfl⟩))
      injection e with e
      have e2 := uni q hq r (sub r hr) e
      rw [← (Prod.ext e e2 : r = q)]
      exact hr
    have pw : M.Pairwise (fun q r => SrtO.lexB (prOf r.2) (prOf q.2) = false) := by
      have h1' : out.Pairwise fun x y => SrtO.lexB (keyIn L y) (keyIn L x) = false := h1
      rw [hM] at h1'
      refine (List.pairwise_map.mp h1').imp_of_mem fun {q r} hq hr z => ?_
      rw [key q (sub q hq), key r (sub r hr)] at z
      exact z
    refine wpAny_pure ⟨_, rfl, hQ _ s1.heap.objs.size out.toArray c M (fun b u e => ?_) g1 o1 le1 hc (by simpa using hM) pML pw⟩
    have lb : b < s1.heap.objs.size := Heap.lt_size (old b u e)
    have lb2 : b < H2.objs.size := by rw [← hH, size_push']; exact Nat.lt_succ_of_lt lb
    show (sortedHeap H2 s1.heap.objs.size vs out.toArray).get? b = some u
    rw [sortedHeap_old (Nat.ne_of_lt lb) lb2]
    exact keepH b u e

/-- set.add of a tuple of whole numbers -/
theorem tup_add {a : Addr} {L : List (Addr × List Int)} {es : Array (Int × Value)} {ep : Nat} {t : SetTable} {x : Addr} {k : List Int} {Q : Value → Shared → Prop} (R : SetTR P w s.heap a L es ep t) (hx : IsT P w s.heap k x) (hu : A.units + 2 < cLine) (few : L.length + 1 < 64)
    (hQ : ∀ tk h' M es' ep' t', Heap.SameBut a s.heap h' → SetTR P w h' a M es' ep' t' → (k ∈ L.map (·.2) → M = L) → (k ∉ L.map (·.2) → M.Perm ((x, k) :: L)) → Q .none { s with heap := h', toks := tk }) :
    wpAny (model P w) A (call (.builtin "set.add") [.ref a, .ref x]) Q E s := by
  obtain ⟨o, ho, hex, hd⟩ := R.ob
  refine wpAny_call_entry F.slot_set_add ⟨o, ho, hex.1⟩ F.entry_set_add ?_ (F.args_set_add_2 _ _)
  unfold Builtin.«set.add» Builtin.Frozenset.oneOther
  simp only [List.isEmpty_nil, bind_assoc]
  unfold Builtin.Frozenset.addrOf setAdd
  refine wpAny_bind (wpAny_pure ?_)
  try dsimp only
  refine wpAny_bind (wpAny_pure ?_)
  try dsimp only
  refine wpAny_bind ?_
  refine wpAny_holding ?_
  have hu1 : A.in1.units < cLine := by show A.units + 1 < cLine; omega
  refine wpAny_bind (wpAny_pyHash_tuple hu1 hx ?_)
  refine add_at (s := { s with toks := s.toks + (k.length + 1) }) R hx hu1 few fun b h' M es' ep' t' sb R' c1 c2 => ?_
  show wpAny _ _ (ret Value.none) _ _ _
  exact wpAny_pure ⟨_, rfl, hQ _ h' M es' ep' t' sb R' c1 c2⟩
end
end Wf

namespace Wf
open PySem PySem.Spec PyProof.Rows L2 C8
/-- the set D takes the tuple y -/
def takesT (K : PySem.W.Frag) (P : Program) (w : World) (D : Addr) (y : V) (H : Hp) (Nx : Hp → Prop) : Prop :=
  ∃ (x : Addr) (k : List Int) (L : List (Addr × List Int)), y = .ref x ∧ H D = some (SetTO P w D L) ∧ SqT K H x (k.map V.int) ∧ (∀ p ∈ L, SqT K H p.1 (p.2.map V.int)) ∧ L.length + 1 < 64 ∧
    ∀ M, (k ∈ L.map (·.2) → M = L) → (k ∉ L.map (·.2) → M.Perm ((x, k) :: L)) → Nx (upd H D (SetTO P w D M))
section
variable {X : Cx}
theorem takes_run {pins : List (Addr × Obj)} {σ : L2.St} {H : Hp} {s : Shared} {E : Value → Shared → Prop} {D : Addr} {y : V} {u : Value} {Nx : Hp → Prop} {Q : Value → Shared → Prop} (I : L2.Inv X pins σ H s) (ry : RelV y u) (hu : X.A.units + 2 < cLine) (h : takesT X.K X.prog X.w D y H Nx)
    (fin : ∀ s' H', L2.Inv X pins σ H' s' → Nx H' → Q .none s') : wpAny (model X.prog X.w) X.A (call (.builtin "set.add") [.ref D, u]) Q E s := by
  obtain ⟨x, k, L, rfl, hD, hx, hL, few, nx⟩ := h
  cases ry
  have R0 : SetT0 X.prog X.w s.heap D L := (I.hok D _ hD).1
  obtain ⟨es, ep, t, R⟩ := R0.full fun p hp => I.isT (hL p hp)
  refine tup_add R (I.isT hx) hu few fun tk h' M es' ep' t' sb R' c1 c2 => ?_
  have here : ∃ o, h'.get? D = some o := by
    obtain ⟨o, ho, _⟩ := R'.ob
    exact ⟨o, ho⟩
  have J := I.write (e := D) (t' := tk) (o := SetTO X.prog X.w D M) (by rw [hD]; trivial) (.inl rfl) (fun b v hb hv => (sb.2 b hb).trans hv) here (setTO_new R'.t0)
  exact fin _ _ J (nx M c1 c2)
/-- {elt for target in iter}, elt a tuple of whole numbers -/
def tSetC (K : PySem.W.Frag) (P : Program) (w : World) (wi : TI) (g : TG) (tt : TT) (te : TE) (vs : List Nat) : TE := fun σ H Q => wi σ H fun J H1 => ∀ D, H1 D = none →
  ∃ W : Nat → Nat → Hp → Prop, (∃ m, W 0 m (upd H1 D (SetTO P w D []))) ∧ ∀ i m H2, W i m H2 →
    (J.stop i H2 ∧ Q (.ref D) H2) ∨ (J.go i H2 ∧ ∃ Nx : Hp → Prop, (∀ H', Nx H' → ∃ m', m' < m ∧ W (i + 1) m' H') ∧
      ∀ x H', J.yld i H2 x H' → g x (wipe σ vs) H' fun σ2 H3 => wipe σ2 vs = wipe σ vs ∧ tt σ2 H3 fun b H4 => if b = true then te σ2 H4 fun y H5 => takesT K P w D y H5 Nx else Nx H4)
theorem pe_setC {elt tg iter : Expr} {ifs : List Expr} {scope : Scope} {own : List (PySem.Str × Nat)} {pos : Pos} {wi : TI} {g : TG} {tt : TT} {te : TE} (hc : X.calm = true) (hu : X.A.units + 2 < cLine) (hN : X.N.Nodup) (hi : PI X tg iter wi) (ok : BlkOk X.N X.env.scope scope own)
    (hg : ∀ s H C cl fp, PG (Blk X scope s H C cl fp) tg g) (ht : ∀ s H C cl fp, PTs (Blk X scope s H C cl fp) ifs tt) (he : ∀ s H C cl fp, PE (Blk X scope s H C cl fp) elt te) (hs : ∀ x, foldedSetIterable iter X.env x = pure x := by intro _; rfl) :
    PE X (.SetComp elt [⟨tg, iter, ifs, 0⟩] scope pos) (tSetC X.K X.prog X.w wi g tt te (own.map (·.2))) := by
  refine ⟨fun pins s σ H Q I h => ?_⟩
  rw [PpSet.eval_SetComp]
  have clo : ∀ y ∈ scope.names, y.2 = .free → ∃ c, X.env.cells.lookup y.1 = some c := fun y hy e => (ok.free y hy e).elim (fun k => I.ok.has _ (.inl k)) fun k => I.ok.has _ (.inr k)
  refine wpAny_comprehension_free (use := none) rfl hs (closure_ok clo) ok.kind (fun y hy e => by rw [ok.uniq y hy, e]) (thn (hi.run pins s σ H _ I h) fun xv s1 hx => thn hx fun itv s2 h2 => ?_)
  obtain ⟨it, fp, tn, J, H2, e, I2, T, st2, f2, q⟩ := h2
  subst e
  refine PpSet.newSet_ok (newEnv_comp ?_)
  generalize hD : s2.heap.objs.size = D
  have hDn : H2 D = none := I2.hok.fresh (Nat.le_of_eq hD)
  obtain ⟨W, ⟨m0, w0⟩, turn⟩ := q D hDn
  generalize hS : ({ cls := .type "set", dict := none, data := .set #[] 0 (.fresh 0 0 (!X.w.params.followText "set-order")) } : Obj) = So
  generalize hs3 : ({ s2 with heap := s2.heap.push So } : Shared) = s3
  have e3 : s3.heap = s2.heap.push So := by rw [← hs3]
  have at3 : s3.heap.get? D = some So := by rw [e3, ← hD]; exact Heap.get?_push_size _ (by rw [← hS]; rfl)
  have keep3 : ∀ b o, s2.heap.get? b = some o → s3.heap.get? b = some o := fun b o z => by rw [e3]; exact Heap.get?_push_of_some _ z
  have I3 : L2.Inv X pins σ (upd H2 D (SetTO X.prog X.w D [])) s3 := by
    have R : SetTR X.prog X.w s3.heap D [] #[] 0 (.fresh 0 0 (!X.w.params.followText "set-order")) := setTR_fresh (by rw [at3, ← hS])
    have N := I2.laid (a := D) (o := SetTO X.prog X.w D []) (h' := s3.heap) (t' := s2.toks) keep3 (Nat.le_of_eq hD) (setTO_new R.t0)
    rw [← hs3]
    rw [← hs3] at N
    exact N
  have young : ∀ b ∈ fp, b < s2.heap.objs.size := fun b hb => by
    obtain ⟨o, z, _⟩ := T.obj _ _ st2 b hb
    exact Heap.lt_size z
  generalize hH3 : upd H2 D (SetTO X.prog X.w D []) = H3 at I3 w0
  have f3 : ∀ b ∈ fp, FpOk X pins H3 b ∧ b < s3.heap.objs.size := fun b hb => by
    have lt := young b hb
    refine ⟨⟨?_, (f2 b hb).2⟩, by rw [e3, Heap.size_push]; exact Nat.lt_succ_of_lt lt⟩
    rw [← hH3, upd_ne (by rw [← hD]; exact Nat.ne_of_lt lt)]
    exact (f2 b hb).1
  have st3 : tn 0 s3.heap := T.keep _ _ _ st2 fun b _ o z => keep3 b o z
  have I4 := block_start I3 ok hN f3
  have pg := hg s3 H3 s3.heap.objs.size (cellsFrom (s3.heap.objs.size + 1) scope.names (cloFrom X.env.cells scope.names [])) fp
  have pt := ht s3 H3 s3.heap.objs.size (cellsFrom (s3.heap.objs.size + 1) scope.names (cloFrom X.env.cells scope.names [])) fp
  have pe := he s3 H3 s3.heap.objs.size (cellsFrom (s3.heap.objs.size + 1) scope.names (cloFrom X.env.cells scope.names [])) fp
  unfold Blk at pg pt pe
  show codeAny _ _ (.compStart (.SetComp elt [⟨tg, iter, ifs, 0⟩] scope pos) 0 (.ref it) (.ref D) (compEnvC scope (cellsFrom (s3.heap.objs.size + 1) scope.names (cloFrom X.env.cells scope.names [])) s3.heap.objs.size X.env)) (compPost (model X.prog X.w) X.A X.xe none (EP X pins σ Q) (.ref D) s3.heap.objs.size) { s3 with heap := pushCells (s3.heap.push { cls := .type "dict", data := .dict #[] }) scope.names }
  generalize hce : compEnvC scope (cellsFrom (s3.heap.objs.size + 1) scope.names (cloFrom X.env.cells scope.names [])) s3.heap.objs.size X.env = ce at I4 pg pt pe ⊢
  have cL : ce.locals = s3.heap.objs.size := by subst hce; rfl
  generalize hs4 : ({ s3 with heap := pushCells (s3.heap.push { cls := .type "dict", data := .dict #[] }) scope.names } : Shared) = s4 at I4 ⊢
  have st4 : tn 0 s4.heap := T.keep _ _ _ st3 fun b _ o z => by rw [← hs4]; exact pushCells_keeps _ _ _ _ (Heap.get?_push_of_some _ z)
  -- the block's context
  generalize hY : X.blk s3 H3 scope ce fp = Y at I4 pg pt pe
  have yP : Y.prog = X.prog := by rw [← hY]
  have yW : Y.w = X.w := by rw [← hY]
  have yK : Y.K = X.K := by rw [← hY]
  have yC : Y.calm = true := by rw [← hY]; exact hc
  have yA : Y.A = X.A := by rw [← hY]
  have yE : Y.env = ce := by rw [← hY]
  have yX : Y.xe = fun _ _ => False := by rw [← hY]
  have own_ : ∀ {σ' : L2.St} {H' : Hp} {s' : Shared}, L2.Inv Y [] σ' H' s' → (∀ b ∈ fp, H' b = none) → ∀ b ∈ fp, FpOk Y [] H' b := fun {σ' H' s'} I' hn b hb => by
    subst hY
    exact ⟨hn b hb, (I'.ok.exf b hb).1, I'.ok.exfs b hb, .inl hb, fun x c z => (I'.ok.exf b hb).2 x c z, fun p hp => nomatch (show p ∈ ([] : List (Addr × Obj)) from hp)⟩
  have loop : codeAny (model X.prog X.w) X.A (.compLoop (.SetComp elt [⟨tg, iter, ifs, 0⟩] scope pos) 0 (.ref it) (.ref D) ce) (compPost (model X.prog X.w) X.A X.xe none (EP X pins σ Q) (.ref D) s3.heap.objs.size) s4 := by
    refine PpSet.compLoopS_any (fun n s' => ∃ i H', L2.Inv Y [] (wipe σ (own.map (·.2))) H' s' ∧ tn i s'.heap ∧ (∀ b ∈ fp, H' b = none) ∧ W i n H') ?_ m0 ⟨0, H3, I4, st4, fun b hb => (f3 b hb).1.1, w0⟩
    rintro n s5 ⟨i, H5, I5, st5, n5, w5⟩
    rcases turn i n H5 w5 with ⟨stop, qq⟩ | ⟨go, Nx, hNx, step⟩
    · have td := T.done Y yP yW yK yC i [] s5 _ H5 (fun _ _ => False) I5 (own_ I5 n5) st5 stop
      rw [yA] at td
      refine thnF td fun r s6 ⟨hr, I6⟩ => ?_
      subst hr
      have I7 : L2.Inv X pins σ H5 s6 := by
        subst hY
        exact I3.call' (ch := fp) I6.os I6.base I6.hok I6.bare fun b hb => ⟨(f3 b hb).1.2.2.2.1, (f3 b hb).1.2.1, (f3 b hb).1.2.2.2.2.1, (f3 b hb).1.2.2.2.2.2⟩
      have nC : H5 s3.heap.objs.size = none := by
        subst hY
        have z : H5 ce.locals = none := I6.free
        rw [cL] at z
        exact z
      have nsC : ∃ m, s6.heap.Ns s3.heap.objs.size m := by
        subst hY
        obtain ⟨m, hn, _⟩ := I6.loc
        have hn : s6.heap.Ns ce.locals m := hn
        rw [cL] at hn
        exact ⟨m, hn⟩
      obtain ⟨m, hn⟩ := nsC
      obtain ⟨g0, g1, g2, g3, g4, g5⟩ := I3.fpOk (H' := H5) (Nat.le_refl _) nC
      exact ⟨m, hn, fun h'' sb => ⟨.ref D, H5, I7.turned (t' := s6.toks) (fun b o hb z => (sb.2 b hb).trans z) g0 g1 g3 g4 g5, rfl, qq⟩⟩
    · have ti := T.item Y yP yW yK yC i [] s5 _ H5 (fun _ _ => False) I5 (own_ I5 n5) st5 go
      rw [yA] at ti
      refine thnF ti fun r s6 ⟨u, hr, h6⟩ => ?_
      subst hr
      refine thnF h6 fun _ s7 ⟨x, H7, I7, r7, y7, st7, n7⟩ => ?_
      have I7' := I7.pinned (own_ I7 n7) (T.obj _ _ st7)
      have rg := pg.run _ s7 _ H7 x u _ I7' r7 (step x H7 y7)
      rw [yP, yW, yA, yE, yX] at rg
      refine thnF rg fun _ s8 ⟨σ8, H8, I8, hw8, q8⟩ => ?_
      have rt := pt.run _ s8 σ8 H8 _ I8 q8
      rw [yP, yW, yA, yE, yX] at rt
      refine thnF rt fun b s9 ⟨H9, I9, q9⟩ => ?_
      have fin : ∀ {s' : Shared} {H' : Hp}, L2.Inv Y ([] ++ pinsAt fp s7.heap) σ8 H' s' → Nx H' → ∃ m, m < n ∧ ∃ i H', L2.Inv Y [] (wipe σ (own.map (·.2))) H' s' ∧ tn i s'.heap ∧ (∀ b ∈ fp, H' b = none) ∧ W i m H' := fun {s' H'} I' nx => by
        obtain ⟨m', hm, w'⟩ := hNx H' nx
        have pin' : ∀ b ∈ fp, ∀ o, s7.heap.get? b = some o → s'.heap.get? b = some o ∧ H' b = none := fun b hb o z =>
          have zz := I'.pin (b, o) (List.mem_append_right _ (List.mem_append_right _ (mem_pinsAt hb z)))
          ⟨zz.1, zz.2.1⟩
        have hl : (wipe σ (own.map (·.2))).length = σ8.length := by rw [← hw8, wipe_length]
        refine ⟨m', hm, i + 1, H', (I'.unpinned (pins := [])).weak hl (fun j v z => ?_), T.keep _ _ _ st7 fun b hb o z => (pin' b hb o z).1, fun b hb => ?_, w'⟩
        · rw [← hw8] at z
          exact (wipe_some z).1
        · obtain ⟨o, z, _⟩ := T.obj _ _ st7 b hb
          exact (pin' b hb o z).2
      cases b with
      | false =>
        simp only [Bool.false_eq_true, if_false] at q9 ⊢
        exact fin I9 q9
      | true =>
        simp only [if_true] at q9 ⊢
        have re := pe.run _ s9 σ8 H9 _ I9 q9
        rw [yP, yW, yA, yE, yX] at re
        refine thnF re fun z s10 ⟨yv, H10, I10, r10, tk⟩ => ?_
        have tk' : takesT Y.K Y.prog Y.w D yv H10 Nx := by rw [yK, yP, yW]; exact tk
        have fr := takes_run (X := Y) (E := notedBy (model X.prog X.w) X.A ce fun e s' => compPost (model X.prog X.w) X.A X.xe none (EP X pins σ Q) (.ref D) s3.heap.objs.size (.error e) s') I10 r10 (by rw [yA]; exact hu) tk' (Q := fun _ s' => ∃ m, m < n ∧ ∃ i H', L2.Inv Y [] (wipe σ (own.map (·.2))) H' s' ∧ tn i s'.heap ∧ (∀ b ∈ fp, H' b = none) ∧ W i m H') fun s11 H11 I11 nx => fin I11 nx
        rw [yP, yW, yA] at fr
        exact fr
  exact PpSet.codeAny_compStart_set loop (T.self X.A 0 _ _ _ st4 loop)
end
end Wf

namespace Wf
open PySem PySem.Spec PyProof.Rows L2 C8
def rSortS (K : PySem.W.Frag) (P : Program) (w : World) : List V → Hp → VK → Prop := fun vs H Q => ∃ (a : Addr) (L : List (Addr × List Int)), vs = [V.ref a] ∧ H a = some (SetTO P w a L) ∧ (∀ q ∈ L, SqT K H q.1 (q.2.map V.int)) ∧ (∀ q ∈ L, ∃ x y, q.2 = [x, y]) ∧
  ∀ (M : List (Addr × List Int)) (p : Addr), M.Perm L → (M.map (·.2)).Nodup → M.Pairwise (fun q r => SrtO.lexB (prOf r.2) (prOf q.2) = false) → H p = none → Q (.ref p) (upd H p (.lst (M.map fun q => V.ref q.1)))
section
variable {X : Cx}
theorem cr_sortS (hc : X.calm = true) : CallR X (.builtin "sorted") (rSortS X.K X.prog X.w) := by
  intro pins s σ H vs us Q I r ⟨a, L, hv, ha, hk, hp, q⟩
  subst hv
  have R0 : SetT0 X.prog X.w s.heap a L := (I.hok a _ ha).1
  obtain ⟨es, ep, t, R⟩ := R0.full fun q hq => I.isT (hk q hq)
  rw [Vals.ref1 r]
  refine sortSet R (I.ok.hd hc) hp fun s' p out c M old g o hle hg hout pm pw => ?_
  have few : M.length < 64 := by rw [pm.length_eq]; exact R.few
  have nodup : (M.map (·.2)).Nodup := (pm.map (·.2)).nodup_iff.mpr R.nd
  have fresh : H p = none := I.hok.fresh hle
  have vals : Vals (M.map fun q => V.ref q.1) out.toList := by rw [hout]; exact vals_of_refs M
  have okp : (M.map fun q => V.ref q.1).length ≤ sizeLine := by rw [List.length_map, sizeLine_eq]; omega
  have J : L2.Inv X pins σ (upd H p (.lst (M.map fun q => V.ref q.1))) s' := I.call' (ch := []) o (Un.laid old hle fresh) (I.hok.laid old hle ⟨okp, out.toList, c, vals, hg⟩) (by rw [g]; exact I.bare) (fun _ z => nomatch z)
  exact ⟨.ref p, _, J, rfl, q M p pm nodup pw fresh⟩
abbrev d2 (p : Pt) : PyData := .tuple [.int p.1, .int p.2]
abbrev k2 (p : Pt) : List Int := [p.1, p.2]
theorem k2_inj {p q : Pt} (h : k2 p = k2 q) : p = q := by
  obtain ⟨a, b⟩ := p
  obtain ⟨c, d⟩ := q
  injection h with h1 h2
  injection h2 with h2 _
  exact Prod.ext h1 h2
theorem k2_pr {k : List Int} (h : ∃ x y, k = [x, y]) : k2 (prOf k) = k := by
  obtain ⟨x, y, rfl⟩ := h
  rfl
theorem dp_keys {K : PySem.W.Frag} {F : Hp} {M : List (Addr × List Int)} (h : ∀ q ∈ M, SqT K F q.1 (q.2.map V.int)) (hp : ∀ q ∈ M, ∃ x y, q.2 = [x, y]) : DpAll K F (M.map fun q => V.ref q.1) ((M.map fun q => prOf q.2).map d2) := by
  induction M with
  | nil => exact .nil
  | cons q M ih =>
    obtain ⟨x, y, e⟩ := hp q List.mem_cons_self
    refine .cons ?_ (ih (fun r hr => h r (List.mem_cons_of_mem _ hr)) fun r hr => hp r (List.mem_cons_of_mem _ hr))
    have hq := h q List.mem_cons_self
    rw [e] at hq
    have e2 : prOf q.2 = (x, y) := by rw [e]; rfl
    show Dp K F (V.ref q.1) (d2 (prOf q.2))
    rw [e2]
    exact .tup hq (.cons (.int x) (.cons (.int y) .nil))
theorem asc_keys {M : List (Addr × List Int)} (hp : ∀ q ∈ M, ∃ x y, q.2 = [x, y]) (nd : (M.map (·.2)).Nodup) (pw : M.Pairwise (fun q r => SrtO.lexB (prOf r.2) (prOf q.2) = false)) : Asc (M.map fun q => prOf q.2) := by
  refine List.pairwise_map.mpr ?_
  have nd' : M.Pairwise (fun q r => q.2 ≠ r.2) := List.pairwise_map.mp nd
  refine List.Pairwise.imp_of_mem (fun {q r} hq hr z => ?_) (List.Pairwise.and nd' pw)
  obtain ⟨ne, le⟩ := z
  have le' := SrtO.lexB_no.mp le
  have ne' : prOf q.2 ≠ prOf r.2 := fun e => ne (by rw [← k2_pr (hp q hq), ← k2_pr (hp r hr), e])
  unfold lx
  generalize prOf q.2 = a at le' ne'
  generalize prOf r.2 = b at le' ne'
  obtain ⟨a1, a2⟩ := a
  obtain ⟨b1, b2⟩ := b
  have ne2 : ¬ (a1 = b1 ∧ a2 = b2) := fun e => ne' (by rw [e.1, e.2])
  simp only at le' ⊢
  omega
/-- the tracked set D tells the first i of f -/
structure SetTells (K : PySem.W.Frag) (F : Hp) (L : List (Addr × List Int)) (i : Nat) (f : Nat → Pt) : Prop where
  at_ : ∀ q ∈ L, SqT K F q.1 (q.2.map V.int)
  two : ∀ q ∈ L, ∃ x y, q.2 = [x, y]
  all : ∀ p : Pt, k2 p ∈ L.map (·.2) ↔ ∃ j, j < i ∧ f j = p
theorem SetTells.nil {K : PySem.W.Frag} {F : Hp} {f : Nat → Pt} : SetTells K F [] 0 f := ⟨fun q hq => (nomatch hq), fun q hq => (nomatch hq), fun p => ⟨fun h => (nomatch h), fun ⟨j, hj, _⟩ => absurd hj (Nat.not_lt_zero j)⟩⟩
theorem SetTells.up {K : PySem.W.Frag} {F F' : Hp} {L : List (Addr × List Int)} {i : Nat} {f : Nat → Pt} (T : SetTells K F L i f) (e : Same F F') : SetTells K F' L i f := ⟨fun q hq => sqT_same e (T.at_ q hq), T.two, T.all⟩
theorem SetTells.add {K : PySem.W.Frag} {F : Hp} {L M : List (Addr × List Int)} {i : Nat} {f : Nat → Pt} {x : Addr} (T : SetTells K F L i f) (hx : SqT K F x ((k2 (f i)).map V.int)) (c1 : k2 (f i) ∈ L.map (·.2) → M = L) (c2 : k2 (f i) ∉ L.map (·.2) → M.Perm ((x, k2 (f i)) :: L)) : SetTells K F M (i + 1) f := by
  have more : ∀ p : Pt, (∃ j, j < i + 1 ∧ f j = p) ↔ (f i = p ∨ ∃ j, j < i ∧ f j = p) := fun p => by
    constructor
    · rintro ⟨j, hj, e⟩
      rcases Nat.lt_succ_iff_lt_or_eq.mp hj with h | h
      · exact .inr ⟨j, h, e⟩
      · exact .inl (by rw [← h]; exact e)
    · rintro (e | ⟨j, hj, e⟩)
      · exact ⟨i, Nat.lt_succ_self i, e⟩
      · exact ⟨j, Nat.lt_succ_of_lt hj, e⟩
  by_cases h : k2 (f i) ∈ L.map (·.2)
  · rw [c1 h]
    refine ⟨T.at_, T.two, fun p => ?_⟩
    rw [more, T.all]
    constructor
    · exact .inr
    · rintro (e | e)
      · subst e; exact (T.all _).mp h
      · exact e
  · have pm := c2 h
    refine ⟨fun q hq => ?_, fun q hq => ?_, fun p => ?_⟩
    · rcases List.mem_cons.mp (pm.mem_iff.mp hq) with e | hq
      · subst e; exact hx
      · exact T.at_ q hq
    · rcases List.mem_cons.mp (pm.mem_iff.mp hq) with e | hq
      · subst e; exact ⟨_, _, rfl⟩
      · exact T.two q hq
    · rw [more, ← T.all, (pm.map (·.2)).mem_iff, List.map_cons, List.mem_cons]
      constructor
      · rintro (e | e)
        · exact .inl (k2_inj e).symm
        · exact .inr e
      · rintro (e | e)
        · exact .inl (by rw [e])
        · exact .inr e
end
section
variable {X : Cx} {ρ : Rho} {elt tg iter a : Expr} {scope : Scope} {pos p cpos : Pos} {own : List (Str × Nat)} {n : Nat} {item : Nat → PyData} {g : TG} {st : PyData → Rho → Rho} {tok : PyData → Prop}
/-- sorted of a set that tells n of f: ascending, the same members -/
theorem sorted_told {B F H : Hp} {D : Addr} {L : List (Addr × List Int)} {f : Nat → Pt} {Q : VK} (T : SetTells X.K F L n f) (fh : Same F H) (hD : H D = some (SetTO X.prog X.w D L))
    (q : ∀ a M F' H', Asc M → (∀ p, p ∈ M ↔ ∃ j, j < n ∧ f j = p) → Grow H F F' H' → Dp X.K F' (.ref a) (.list (M.map d2)) → Q (.ref a) H') : rSortS X.K X.prog X.w [V.ref D] H Q := by
  refine ⟨D, L, rfl, hD, fun z hz => sqT_same fh (T.at_ z hz), T.two, fun M p pm nd pw hp => ?_⟩
  have at_ : ∀ z ∈ M, SqT X.K F z.1 (z.2.map V.int) := fun z hz => T.at_ z (pm.mem_iff.mp hz)
  have two : ∀ z ∈ M, ∃ x y, z.2 = [x, y] := fun z hz => T.two z (pm.mem_iff.mp hz)
  have gr : Grow H F (upd F p (.lst (M.map fun q => V.ref q.1))) (upd H p (.lst (M.map fun q => V.ref q.1))) := Grow.new fh hp
  refine q p (M.map fun z => prOf z.2) _ _ (asc_keys two nd pw) (fun x => ?_) gr (.lst (SqL.of upd_same) ((dp_keys at_ two).same gr.ff))
  rw [← T.all]
  constructor
  · intro hx
    obtain ⟨z, hz, e⟩ := List.mem_map.mp hx
    rw [← e, k2_pr (two z hz)]
    exact List.mem_map.mpr ⟨z, pm.mem_iff.mp hz, rfl⟩
  · intro hx
    obtain ⟨z, hz, e⟩ := List.mem_map.mp hx
    have hz' := pm.mem_iff.mpr hz
    exact List.mem_map.mpr ⟨z, hz', k2_inj ((k2_pr (two z hz')).trans e)⟩
/-- sorted({elt for target in iter}) -/
theorem je_sortSetC (f : Nat → Pt) (hi : JI X tg iter ρ n item) (hg : ∀ s H C cl fp, PG (Blk X scope s H C cl fp) tg g) (tgo : TgOk X.K (own.map (·.2)) g st tok) (hn : n < 60)
    (step : ∀ i, i < n → tok (item i) ∧ JEb X scope elt (st (item i) (forget (own.map (·.2)) ρ)) (· = d2 (f i)))
    (hN : X.N.Nodup) (hno : noMut (own.map (·.2)) ρ = true) (ok : BlkOk X.N X.env.scope scope own) (hu : X.A.units + 2 < cLine) (hgs : Gl X "sorted") (hms : X.mg "sorted" = none) (hc : X.calm = true := by rfl) (hs : ∀ x, foldedSetIterable iter X.env x = pure x := by intro _; rfl)
    (h1 : starEach [.SetComp elt [⟨tg, iter, [], 0⟩] scope cpos] X.env = (false, eval (.SetComp elt [⟨tg, iter, [], 0⟩] scope cpos) X.env) :: starEach [] X.env := by rfl) (hpl : (backTo pos (starEach [] X.env)).any (·.1) = false := by rfl) :
    JE X (.Call (.Name "sorted" p) [.SetComp elt [⟨tg, iter, [], 0⟩] scope cpos] [] pos) ρ (fun d => ∃ M, d = .list (M.map d2) ∧ Asc M ∧ ∀ p, p ∈ M ↔ ∃ j, j < n ∧ f j = p) := fun B F H σ k ff bb S q => by
  refine toE (pe_callB (cr_sortS hc) hgs hms (by decide +kernel) (pa_cons (pe_setC hc hu hN pI ok hg (fun _ _ _ _ _ => pts_nil) pbE hs) pa_nil h1) (he := h1) (hpl := hpl)) ?_
  refine hi B F H σ _ ff bb S fun It F1 H1 g1 S1 wk => fun D hD => ?_
  have bD : B D = none := g1.bh.free hD
  have fD : F1 D = none := g1.fh.free hD
  have hm := S1.fresh hD
  have hno' := noMut_ok hno
  refine ⟨fun i m H' => m = n - i ∧ i ≤ n ∧ ∃ F' L, L.length ≤ i ∧ SetTells X.K F' L i f ∧ Grow B F1 F' H' ∧ Slots X.K B F' H' σ ρ ∧ F' D = none ∧ H' D = some (SetTO X.prog X.w D L), ⟨n, by omega, Nat.zero_le _, F1, [], Nat.le_refl _, SetTells.nil, ⟨Same.refl _, g1.fh.trans (same_new hD), g1.bh.trans (same_new hD), fun _ _ e => .inl e⟩, S1.grown hm, fD, upd_same⟩, ?_⟩
  rintro i m H' ⟨rfl, hin, F', L, few, T, g', S', fD', hD'⟩
  by_cases hlt : i < n
  · refine .inr ⟨wk.go i H' hlt (g'.ff.trans g'.fh), fun H2 => ∃ F2 M, M.length ≤ i + 1 ∧ SetTells X.K F2 M (i + 1) f ∧ Grow B F1 F2 H2 ∧ Slots X.K B F2 H2 σ ρ ∧ F2 D = none ∧ H2 D = some (SetTO X.prog X.w D M), fun H2 w => ⟨n - (i + 1), by omega, rfl, by omega, w⟩, fun x H2 hy => ?_⟩
    obtain ⟨F2, g2, dx⟩ := wk.yld i F' H' x H2 hlt g'.ff g'.fh hy
    have hD2 : H2 D = some (SetTO X.prog X.w D L) := g2.bh D _ hD'
    have fD2 : F2 D = none := g2.non fD' hD'
    have S2 := S'.up g2
    have g3 : Grow B F1 F2 H2 := g'.trans (g2.wide g'.bh)
    obtain ⟨tok_, je⟩ := step i hlt
    refine tgo.run (plus B D (SetTO X.prog X.w D L)) F2 H2 σ (forget (own.map (·.2)) ρ) x (item i) _ g2.fh ((S2.plus_ hm).wipe_ _) dx tok_ fun σ2 S3 hw => ⟨hw, ?_⟩
    unfold tYes
    dsimp only
    simp only [if_true]
    have bP : Same (plus B D (SetTO X.prog X.w D L)) H2 := plus_same g3.bh hD2
    refine je (plus B D (SetTO X.prog X.w D L)) F2 H2 σ2 _ g2.fh bP S3 fun y d F5 H5 pd5 g5 S5 d5 => ?_
    subst pd5
    have hD5 : H5 D = some (SetTO X.prog X.w D L) := g5.bh D _ plus_at
    have fD5 : F5 D = none := g5.off fD2
    obtain ⟨ax, ws, rfl, hx, hws⟩ := d5.tup_
    have ew : ws = (k2 (f i)).map V.int := DpAll.ints (ns := k2 (f i)) hws
    rw [ew] at hx
    have T5 := T.up (g2.ff.trans g5.ff)
    -- the def's own slots
    have back : Slots X.K B F5 H5 σ ρ := by
      have S6 := S5.minus bD
      refine ⟨S2.len, fun i' s hs => ?_, S2.dis⟩
      by_cases hin' : i' ∈ own.map (·.2)
      · have k1 := S2.ok i' s hs
        have nm := hno' i' hin' s hs
        cases s with
        | no => trivial
        | val d =>
          obtain ⟨v, e1, e2⟩ := k1
          exact ⟨v, e1, e2.same g5.ff⟩
        | own es => cases nm
        | sack w => cases nm
      · have e1 : (st (item i) (forget (own.map (·.2)) ρ))[i']? = some s := by rw [tgo.keep _ _ _ hin', forget_get hin']; exact hs
        have k1 := S6.ok i' s e1
        have e2 : σ2[i']? = σ[i']? := by
          have z1 := wipe_get σ2 (own.map (·.2)) i'
          have z2 := wipe_get σ (own.map (·.2)) i'
          rw [if_neg hin'] at z1 z2
          rw [← z1, ← z2, hw]
        rw [← e2]
        exact k1
    have g6 := g3.trans (g5.minus bD)
    have lenM : ∀ M : List (Addr × List Int), (k2 (f i) ∈ L.map (·.2) → M = L) → (k2 (f i) ∉ L.map (·.2) → M.Perm ((ax, k2 (f i)) :: L)) → M.length ≤ i + 1 := fun M c1 c2 => by
      by_cases h : k2 (f i) ∈ L.map (·.2)
      · rw [c1 h]; omega
      · rw [(c2 h).length_eq, List.length_cons]; omega
    refine ⟨ax, k2 (f i), L, rfl, hD5, sqT_same g5.fh hx, fun z hz => sqT_same g5.fh (T5.at_ z hz), by omega, fun M c1 c2 => ⟨F5, M, lenM M c1 c2, T5.add hx c1 c2, ⟨g6.ff, fun c u z => ?_, fun c u z => ?_, g6.nw⟩, back.grown hm, fD5, upd_same⟩⟩
    · rw [upd_ne fun e => by rw [e, fD5] at z; cases z]
      exact g6.fh c u z
    · rw [upd_ne fun e => by rw [e, bD] at z; cases z]
      exact g6.bh c u z
  · have e : i = n := by omega
    subst e
    refine .inl ⟨wk.stop H' (g'.ff.trans g'.fh), ?_⟩
    exact sorted_told (B := B) T g'.fh hD' fun a M F3 H3 as me g3 d3 => q (.ref a) _ F3 H3 ⟨M, rfl, as, me⟩ ((g1.trans g').trans (g3.wide g'.bh)) (S'.up g3) d3
/-- sorted(set(xs)), xs a list of pairs -/
theorem je_sortSet {ds : List Pt} (ha : JV X a ρ (.list (ds.map d2))) (hl : ds.length < 60) (hu : X.A.units + 64 < cLine) (hg : Gl X "sorted") (hm : X.mg "sorted" = none) (hg2 : Gl X "set") (hm2 : X.mg "set" = none) (hc : X.calm = true := by rfl)
    (h1 : starEach [a] X.env = (false, eval a X.env) :: starEach [] X.env := by rfl) (h2 : ∀ p2, starEach [.Call (.Name "set" p2) [a] [] cpos] X.env = (false, eval (.Call (.Name "set" p2) [a] [] cpos) X.env) :: starEach [] X.env := by intro _; rfl)
    (hp1 : (backTo pos (starEach [] X.env)).any (·.1) = false := by rfl) (hp2 : (backTo cpos (starEach [] X.env)).any (·.1) = false := by rfl) {p2 : Pos} :
    JE X (.Call (.Name "sorted" p) [.Call (.Name "set" p2) [a] [] cpos] [] pos) ρ (fun d => ∃ M, d = .list (M.map d2) ∧ Asc M ∧ ∀ p, p ∈ M ↔ p ∈ ds) := fun B F H σ k ff bb S q => by
  refine toE (pe_callB (cr_sortS hc) hg hm (by decide +kernel) (pa_cons (pe_callTy (cr_setOfT hc hu) hg2 hm2 (by decide +kernel) (pa_cons pE pa_nil h1) (he := h1) (hpl := hp2)) pa_nil (h2 p2)) (he := h2 p2) (hpl := hp1)) ?_
  refine ha B F H σ _ ff bb S fun v d F1 H1 e g1 S1 d1 => ?_
  subst e
  obtain ⟨l, vs, rfl, hl1, hv⟩ := d1.lst_
  -- the items are refs of pairs
  have refs : ∀ (vs : List V) (ds : List Pt), DpAll X.K F1 vs (ds.map d2) → ∃ ks : List (Addr × List Int), vs = ks.map (fun p => V.ref p.1) ∧ (∀ p ∈ ks, SqT X.K F1 p.1 (p.2.map V.int)) ∧ ks.map (·.2) = ds.map k2 := by
    intro vs ds
    induction ds generalizing vs with
    | nil => intro h; cases h; exact ⟨[], rfl, fun p hp => (nomatch hp), rfl⟩
    | cons x ds ih =>
      intro h
      cases h with
      | cons h1 h2 =>
        obtain ⟨b, ws, rfl, hb, hw⟩ := h1.tup_
        obtain ⟨ks, rfl, q1, q2⟩ := ih _ h2
        have ew : ws = (k2 x).map V.int := DpAll.ints (ns := k2 x) hw
        rw [ew] at hb
        refine ⟨(b, k2 x) :: ks, rfl, fun p hp => ?_, by rw [List.map_cons, List.map_cons, q2]⟩
        rcases List.mem_cons.mp hp with e | hp
        · subst e; exact hb
        · exact q1 p hp
  obtain ⟨ks, rfl, q1, q2⟩ := refs vs ds hv
  have lk : ks.length = ds.length := by
    have := congrArg List.length q2
    simpa using this
  refine ⟨l, ks, rfl, sqL_same g1.fh hl1, fun p hp => sqT_same g1.fh (q1 p hp), by omega, fun D L hD sub all => ?_⟩
  have bD : B D = none := g1.bh.free hD
  have fD : F1 D = none := g1.fh.free hD
  have T : SetTells X.K F1 L ds.length (fun j => ds.getD j (0, 0)) := ⟨fun z hz => q1 z (sub z hz), fun z hz => ?_, fun x => ?_⟩
  · have hT : H1 = H1 := rfl
    refine sorted_told (B := B) T (g1.fh.trans (same_new hD)) upd_same fun a M F3 H3 as me g3 d3 => ?_
    have g2 : Grow B F1 F1 (upd H1 D (SetTO X.prog X.w D L)) := ⟨Same.refl _, g1.fh.trans (same_new hD), g1.bh.trans (same_new hD), fun _ _ e => .inl e⟩
    refine q (.ref a) _ F3 H3 ⟨M, rfl, as, fun x => ?_⟩ ((g1.trans g2).trans (g3.wide g2.bh)) ((S1.grown (S1.fresh hD)).up g3) d3
    rw [me]
    constructor
    · rintro ⟨j, hj, e⟩
      rw [List.getD_eq_getElem?_getD, List.getElem?_eq_getElem hj] at e
      rw [← (show ds[j] = x from e)]
      exact List.getElem_mem hj
    · intro hx
      obtain ⟨j, hj, e⟩ := List.mem_iff_getElem.mp hx
      exact ⟨j, hj, by rw [List.getD_eq_getElem?_getD, List.getElem?_eq_getElem hj]; exact e⟩
  · have : z.2 ∈ ds.map k2 := by rw [← q2]; exact List.mem_map.mpr ⟨z, sub z hz, rfl⟩
    obtain ⟨x, _, e⟩ := List.mem_map.mp this
    exact ⟨_, _, e.symm⟩
  · constructor
    · intro hx
      obtain ⟨z, hz, e⟩ := List.mem_map.mp hx
      have : z.2 ∈ ds.map k2 := by rw [← q2]; exact List.mem_map.mpr ⟨z, sub z hz, rfl⟩
      obtain ⟨y, hy, e2⟩ := List.mem_map.mp this
      have : y = x := k2_inj (e2.trans e)
      subst this
      obtain ⟨j, hj, e⟩ := List.mem_iff_getElem.mp hy
      exact ⟨j, hj, by rw [List.getD_eq_getElem?_getD, List.getElem?_eq_getElem hj]; exact e⟩
    · rintro ⟨j, hj, e⟩
      rw [List.getD_eq_getElem?_getD, List.getElem?_eq_getElem hj] at e
      have ex : ds[j] = x := e
      have : k2 x ∈ ks.map (·.2) := by rw [q2, ← ex]; exact List.mem_map.mpr ⟨_, List.getElem_mem hj, rfl⟩
      obtain ⟨z, hz, e3⟩ := List.mem_map.mp this
      rw [← e3]
      exact all z hz
end
end Wf

namespace Wf
open PySem PySem.Spec PyProof.Rows L2 C8

/-! ### a def that gives a new list -/
def spN (K : PySem.W.Frag) {α : Type} (args : α → List PyData) (pre : α → Prop) (post : α → List PyData → Prop) : Sp := fun vs H Q _ =>
  ∃ (x : α) (F : Hp), DpAll K F vs (args x) ∧ Same F H ∧ pre x ∧ ∀ a ws ds F' H', post x ds → Grow H F F' H' → H a = none → F' a = none → H' a = some (.lst ws) → DpAll K F' ws ds → Q (.ref a) H'
section
variable {P : Program} {w : World} {K : PySem.W.Frag} {mg : Str → Option Value} {base : Heap} {α : Type} {args : α → List PyData} {pre : α → Prop} {post : α → PyData → Prop} {postN : α → List PyData → Prop}
theorem calN_mk {x : Str} {st : Stmt} {f : Addr} {fd : FuncData} {N ps : List Str} {k : Nat} (D : Def K mg x st f fd) (b : Binds K fd ps []) (S : FnScope N ps (fnScope st)) (hl : ∀ y, (args y).length = ps.length)
    (body : ∀ (y : α), pre y → ∀ (cdv : Value) (A : Around) (outer : List Env) (s : Shared) (H : Hp) (E : XK), Room k (A.deeper (envOfC x (fnScope st) s.heap.objs.size f cdv)) →
      JB (cxOf C8.CX0 P w K mg base N x (fnScope st) f cdv A outer s H E).nox (fnBody st) (rho0 N (args y)) { nx := fun _ => False, rt := fun _ _ => False, ro := fun ds _ => postN y ds }) : Cal P w K mg base (k + 1) x (spN K args pre postN) [] := by
  refine cal0 D b .nil S (fun vs H Q E h => ?_) fun cdv A outer s H vs Q E hr h => ?_
  · obtain ⟨y, F', h1, _⟩ := h
    rw [h1.length, hl]
  · obtain ⟨y, F', h1, h2, h3, h4⟩ := h
    refine ⟨_, pB, ?_⟩
    exact body y h3 cdv A outer s H E hr H F' H (L2.start N vs) _ h2 (Same.refl H) (slots_start h1) ⟨fun _ _ _ _ z => z.elim, fun _ _ _ _ _ _ z => z.elim, fun _ _ _ _ z => z.elim, fun _ _ _ _ z => z.elim, fun a ws ds ρ' σ' F2 H2 p g _ b0 f0 h0 d0 => h4 a ws ds F2 H2 p g b0 f0 h0 d0⟩
/-- the promise of a def over data -/
theorem fn_mk {x : Str} {st : Stmt} {f : Addr} {fd : FuncData} {N ps : List Str} {k : Nat} (D : Def K mg x st f fd) (S : FnScope N ps (fnScope st)) (hl : ∀ y, (args y).length = ps.length)
    (body : ∀ (y : α), pre y → ∀ (f : Addr) (cdv : Value) (A : Around) (outer : List Env) (s : Shared) (H : Hp) (E : XK), Room k (A.deeper (envOfC x (fnScope st) s.heap.objs.size f cdv)) →
      JB (cxOf C8.CX0 P w K mg base N x (fnScope st) f cdv A outer s H E).nox (fnBody st) (rho0 N (args y)) { nx := fun _ => post y .none, rt := fun d _ => post y d }) : FnOk P w K mg base C8.CX0 (k + 1) f fd ps (spD K args pre post) := by
  refine fn0 D.fn S (fun vs H Q E h => ?_) fun cdv A outer s H vs Q E hr h => ?_
  · obtain ⟨y, F', h1, _⟩ := h
    rw [h1.length, hl]
  · obtain ⟨y, F', h1, h2, h3, h4⟩ := h
    refine ⟨_, pB, ?_⟩
    exact body y h3 f cdv A outer s H E hr H F' H (L2.start N vs) _ h2 (Same.refl H) (slots_start h1) ⟨fun ρ' σ' F2 H2 p g _ => h4 .non .none F2 H2 p g .non, fun v d ρ' σ' F2 H2 p g _ dv => h4 v d F2 H2 p g dv, fun _ _ _ _ z => z.elim, fun _ _ _ _ z => z.elim, fun _ _ _ _ _ _ _ z => z.elim⟩
end

/-! ### calls by names alone -/
structure CalK (P : Program) (w : World) (K : PySem.W.Frag) (mg : Str → Option Value) (base : Heap) (k : Nat) (x : Str) (ks : List Str) (g : List Value → List Value → List Value) (gV : List V → List V → List V) (sp : Sp) : Prop where
  ex : ∃ (f : Addr) (fd : FuncData) (ps : List Str), FnOk P w K mg base C8.CX0 k f fd ps sp ∧ mg x = some (.ref f) ∧ PySem.W.keepIn K (.ref f) = true ∧ KBinds K fd ps ks g gV
def wK (X : Cx) (kws : List Keyword) : TA := fun σ H Q => ∀ (pos : Pos) (pins : List (Addr × Obj)) (s : Shared), L2.Inv X pins σ H s → wpAny (model X.prog X.w) X.A (evalAll ((backToKw pos (keywordEach kws X.env)).map (·.2))) (AP X pins σ Q) X.xe s
theorem pK {X : Cx} {kws : List Keyword} : PK X kws (wK X kws) := ⟨fun pos pins s _ _ _ I h => h pos pins s I⟩
def JK (X : Cx) (kws : List Keyword) (ρ : Rho) (ds : List PyData) : Prop :=
  ∀ (B F H : Hp) (σ : L2.St) (k : List V → Hp → Prop), Same F H → Same B H → Slots X.K B F H σ ρ → (∀ vs F' H', Grow B F F' H' → Slots X.K B F' H' σ ρ → DpAll X.K F' vs ds → k vs H') → wK X kws σ H k
section
variable {X : Cx} {ρ : Rho} {e : Expr} {kws : List Keyword} {pos p kp : Pos} {d : PyData} {ds : List PyData} {nm : Option Str}
theorem jk_nil : JK X [] ρ [] := fun B F H σ k f bb S q pos pins s I => pk_nil.run pos pins s σ H k I (q [] F H (Grow.refl f bb) S .nil)
theorem jk_cons (h : JV X e ρ d) (h1 : JK X kws ρ ds) : JK X (⟨nm, e, kp⟩ :: kws) ρ (d :: ds) := fun B F H σ k f bb S q pos pins s I => by
  refine (pk_cons pE pK).run pos pins s σ H k I ?_
  refine h B F H σ _ f bb S fun v d' F1 H1 e1 g1 S1 d1 => ?_
  subst e1
  exact h1 B F1 H1 σ _ g1.fh g1.bh S1 fun vs F2 H2 g2 S2 d2 => q (v :: vs) F2 H2 (g1.trans g2) S2 (.cons (d1.same g2.ff) d2)
theorem je_callKw {α : Type} {args : α → List PyData} {pre : α → Prop} {post : α → PyData → Prop} {x : Str} {k j : Nat} {ks : List Str} {g : List Value → List Value → List Value} {gV : List V → List V → List V} (c : CalK X.prog X.w X.K X.mg X.base k x ks g gV (spD X.K args pre post)) (hr : Room j X.A) (hg : Gl X x)
    (y : α) (ha : JK X kws ρ ds) (hy : ∀ (H : Hp) vs, DpAll X.K H vs ds → DpAll X.K H (gV [] vs) (args y)) (hp : pre y) (hk : k ≤ j := by decide) (hall : (backToKw pos (keywordEach kws X.env)).all (·.1.isSome) = true := by rfl) (hks : (backToKw pos (keywordEach kws X.env)).filterMap (·.1) = ks := by rfl)
    (hpl : ((backTo pos (starEach [] X.env)).any (·.1) || (backToKw pos (keywordEach kws X.env)).any (·.1.isNone)) = false := by rfl) (hdb : (x == ("__debug__" : Str)) = false := by decide) : JE X (.Call (.Name x p) [] kws pos) ρ (post y) := fun B F H σ kk f bb S q => by
  obtain ⟨fa, fd, ps, G, hm, kp', kb⟩ := c.ex
  have gl : ∀ (pins : List (Addr × Obj)) (s : Shared), L2.Inv X pins σ H s → wpAny (model X.prog X.w) X.A (eval (.Call (.Name x p) [] kws pos) X.env) (EP X pins σ kk) X.xe s := fun pins s I => by
    refine wpAny_Call_Name_kw (ld_glob I hg hm ?_ hdb)
    have ev := ha B F H σ (fun zs H2 => spD X.K args pre post (gV [] zs) H2 kk C8.E0) f bb S fun vs F1 H1 g1 S1 d1 => ⟨y, F1, hy F1 vs d1, g1.fh, hp, fun v d F2 H2 pd g2 d2 => q v d F2 H2 pd (g1.trans (g2.wide g1.bh)) (S1.up g2) d2⟩
    refine PySem.W.callWith_KW0 (h₀ := X.base) I.ok.mod.kin kp' hall (thn (pK.run pos pins s σ H _ I ev) fun ws s2 ⟨zs, H2, I2, rz, q2⟩ => ⟨I2.kIn, ?_⟩) hpl
    rw [hks]
    exact run_fnk G (hr.mono hk) kb C8.pass0 I2 .nil rz q2
  exact gl
end

/-! ### repr, where nothing is being shown -/
def rRepr (K : PySem.W.Frag) : List V → Hp → VK → Prop := fun vs H Q => (∃ b : Bool, vs = [.bl b] ∧ Q (.str (if b then "True" else "False")) H) ∨
  ∃ (a : Addr) (d : PyData), vs = [.ref a] ∧ Dp K H (.ref a) d ∧ d.showable = true ∧ d.hasDict = false ∧ d.depth ≤ 30 ∧ d.shown.length ≤ sizeLine ∧ Q (.str d.shown) H
theorem cr_repr {X : Cx} (hg : X.A.guards = some []) (hu : X.A.units + 64 < cLine) : CallR X (.builtin "repr") (rRepr X.K) := by
  intro pins s σ H vs us Q I r h
  rcases h with ⟨b, hv, q⟩ | ⟨a, d, hv, hd, hs, hn, hp, hl, q⟩
  · subst hv
    obtain ⟨u, rfl, ru⟩ := vals1 r
    obtain rfl : u = Value.bool b := ru
    exact P.repr_of_bool ⟨.str _, H, I.tok _, ⟨_, rfl⟩, q⟩
  · subst hv
    rw [Vals.ref1 r]
    obtain ⟨as, rd⟩ := Dp.reads I d (.ref a) (.ref a) hd rfl
    refine repr_of_reads' (h₀ := s.heap) rd hs (fun z => by rw [hn] at z; cases z) hg (by omega) (fun b o e => e) (fun h' u tk k => ⟨.str _, H, I.kept k, ⟨_, rfl⟩, q⟩) hl
section
variable {X : Cx} {ρ : Rho} {a : Expr} {pos p : Pos}
theorem jv_reprB {b : Bool} (h : JV X a ρ (.bool b)) (hg : X.A.guards = some []) (hu : X.A.units + 64 < cLine) (hn : Gl X "repr") (hm : X.mg "repr" = none) (h1 : starEach [a] X.env = (false, eval a X.env) :: starEach [] X.env := by rfl) (hpl : (backTo pos (starEach [] X.env)).any (·.1) = false := by rfl) :
    JV X (.Call (.Name "repr" p) [a] [] pos) ρ (.str (if b then "True" else "False")) :=
  je_callB (cr_repr hg hu) hn hm (by decide +kernel) (jav_cons h jav_nil h1) (fun ds' e => by
    subst e
    intro F H vs k f d q
    obtain ⟨v, rfl, dv⟩ := rc_one d
    rw [dv.bool_]
    exact .inl ⟨b, rfl, q _ _ F H rfl (Grow.refl f (Same.refl _)) (.str _)⟩) (he := h1) (hpl := hpl)
theorem jv_reprBs {b c : Bool} (h : JV X a ρ (.list [.bool b, .bool c])) (hg : X.A.guards = some []) (hu : X.A.units + 64 < cLine) (hn : Gl X "repr") (hm : X.mg "repr" = none) (h1 : starEach [a] X.env = (false, eval a X.env) :: starEach [] X.env := by rfl) (hpl : (backTo pos (starEach [] X.env)).any (·.1) = false := by rfl) :
    JV X (.Call (.Name "repr" p) [a] [] pos) ρ (.str (PyData.shown (.list [.bool b, .bool c]))) :=
  je_callB (cr_repr hg hu) hn hm (by decide +kernel) (jav_cons h jav_nil h1) (fun ds' e => by
    subst e
    intro F H vs k f d q
    obtain ⟨v, rfl, dv⟩ := rc_one d
    obtain ⟨o, ws, rfl, h1, h2⟩ := dv.lst_
    have facts : (PyData.list [.bool b, .bool c]).showable = true ∧ (PyData.list [.bool b, .bool c]).hasDict = false ∧ (PyData.list [.bool b, .bool c]).depth ≤ 30 ∧ (PyData.list [.bool b, .bool c]).shown.length ≤ sizeLine := by
      cases b <;> cases c <;> exact ⟨by decide +kernel, by decide +kernel, by decide +kernel, by decide +kernel⟩
    exact .inr ⟨o, _, rfl, dv.same f, facts.1, facts.2.1, facts.2.2.1, facts.2.2.2, q _ _ F H rfl (Grow.refl f (Same.refl _)) (.str _)⟩) (he := h1) (hpl := hpl)
/-- == of two texts -/
theorem jt_neS {b : Expr} {x y : Str} (ha : JV X a ρ (.str x)) (hb : JV X b ρ (.str y)) : JTV X (.Compare a [.NotEq] [b] pos) ρ (!decide (V.str x = V.str y)) := jt_cmp op_ne ha (fun z e => by subst e; exact hb.to (rd_ne rfl rfl rfl ⟨_, rfl, rfl⟩)) (nomark _)
theorem jv_eqS {b : Expr} {x y : Str} (ha : JV X a ρ (.str x)) (hb : JV X b ρ (.str y)) : JV X (.Compare a [.Eq] [b] pos) ρ (.bool (decide (V.str x = V.str y))) := je_cmp op_eq ha (fun z e => by subst e; exact hb.to (rd_eq rfl rfl rfl rfl)) (nomark _)
end

/-! ### defs that are called while nothing is being shown -/
structure FnG (P : Program) (w : World) (K : PySem.W.Frag) (mg : Str → Option Value) (base : Heap) (k : Nat) (f : Addr) (fd : FuncData) (ps : List Str) (sp : Sp) : Prop where
  len : ∀ vs H Q E, sp vs H Q E → vs.length = ps.length
  run : ∀ (A : Around) (outer : List Env) (s : Shared) (H : Hp) (args : Args) (us : List Value) (vs : List V) (Q : VK) (E : XK), Room k A → A.guards = some [] → Env0 P w K mg base A outer s H → BindsTo s fd args (ps.zip us) → Vals vs us → sp vs H Q E →
    codeAny (model P w) A (.call (.ref f) args) (CR C8.CX0 outer P w H s Q E) s
section
variable {P : Program} {w : World} {K : PySem.W.Frag} {mg : Str → Option Value} {base : Heap}
theorem fnG_of {x : Str} {st : Stmt} {f : Addr} {fd : FuncData} {N ps : List Str} {k : Nat} {sp : Sp} (D : C8.Fun K x x st f fd) (S : FnScope N ps (fnScope st)) (len : ∀ vs H Q E, sp vs H Q E → vs.length = ps.length)
    (body : ∀ (cdv : Value) (A : Around) (outer : List Env) (s : Shared) (H : Hp) (vs : List V) (Q : VK) (E : XK), Room k (A.deeper (envOfC x (fnScope st) s.heap.objs.size f cdv)) → A.guards = some [] → sp vs H Q E →
      ∃ t, PSs (cxOf C8.CX0 P w K mg base N x (fnScope st) f cdv A outer s H E).nox (fnBody st) t ∧ t { nx := fun _ H' => Q .non H', rt := Q } (L2.start N vs) H) : FnG P w K mg base (k + 1) f fd ps sp := by
  obtain ⟨oc, od, dV, kV, doc, pm, an, cdv, ct, osl, rfl, lk, hcd⟩ := D.ex
  refine ⟨len, fun A outer s H args us vs Q E hr hgu e0 hb r hsp => ?_⟩
  have nlen := len _ _ _ _ hsp
  have KX : K.In s.heap := e0.mod.kin.keeps fun b o e => (e0.bs b o e).1
  have lim : s.heap.NoLimit := e0.mod.nolimit.keeps fun b o e => (e0.bs b o e).1
  have par : ∀ y ∈ ps.zip us, (fnScope st).names.lookup y.1 = some .local ∨ ((fnScope st).names.lookup y.1 = some .cell ∧ ((cellsFrom (s.heap.objs.size + 1) (fnScope st).names []).lookup y.1).isSome = true) := fun y hy =>
    (S.par y.1 (List.of_mem_zip (show (y.1, y.2) ∈ ps.zip us from hy)).1).imp id fun q => ⟨q, PySem.W.cellsFrom_some _ _ _ (.inl q)⟩
  refine codeAny_call_function hr.depth (KX _ _ lk) rfl S.co S.gen rfl (PySem.W.codeRec_of KX hcd) (hb _ _ _ _ (wpAny_newFunctionEnv_cells S.kind par fun env he s1 z => ?_))
  subst he
  refine ⟨lim.keeps z.toInCall.keep, codeAny_func ?_⟩
  obtain ⟨t, ht, hq⟩ := body cdv A outer s H vs Q E (hr.deeper _) hgu hsp
  have I : L2.Inv (cxOf C8.CX0 P w K mg base N x (fnScope st) f cdv A outer s H E) [] (L2.start N vs) H s1 := inv_start S hr.hd e0 nlen r z
  have done : ∀ {σ' : L2.St} {H' : Hp} {v : V} {u : Value} {s' : Shared}, L2.Inv (cxOf C8.CX0 P w K mg base N x (fnScope st) f cdv A outer s H E) [] σ' H' s' → RelV v u → Q v H' → CE outer P w H s Q u s' := fun {σ' H' v u s'} J rv q => ⟨v, H', J.os, J.bare, J.base, J.hok, rv, q⟩
  refine wpAny_mono (ht.nox.run [] s1 (L2.start N vs) H _ I hq) (fun fl s' hs => ?_) fun e s' hs => hs
  cases fl with
  | next =>
    obtain ⟨σ', H', J, q⟩ := hs
    exact done (v := .non) (u := .none) J rfl q
  | ret u =>
    obtain ⟨v, σ', H', J, rv, q⟩ := hs
    exact done J rv q
  | brk =>
    obtain ⟨_, _, _, q⟩ := hs
    exact q.elim
  | cont =>
    obtain ⟨_, _, _, q⟩ := hs
    exact q.elim
end
section
variable {X : Cx} {k : Nat} {f : Addr} {fd : FuncData} {ps : List Str} {sp : Sp} {x : Str} {p pos : Pos} {e : Expr} {es : List Expr} {t : TA}
theorem pe_callGd (F : FnG X.prog X.w X.K X.mg X.base k f fd ps sp) (hr : Room k X.A) (hgu : X.A.guards = some []) (hg : Gl X x) (hm : X.mg x = some (.ref f)) (kp : PySem.W.keepIn X.K (.ref f) = true) (hb : Binds X.K fd ps []) (ha : PA X (e :: es) t)
    (hdb : (x == ("__debug__" : Str)) = false := by decide) (he : starEach (e :: es) X.env = (false, eval e X.env) :: starEach es X.env := by rfl) (hpl : (backTo pos (starEach es X.env)).any (·.1) = false := by rfl) :
    PE X (.Call (.Name x p) (e :: es) [] pos) (fun σ H Q => t σ H fun vs H1 => sp vs H1 Q C8.E0) := by
  refine ⟨fun pins s σ H Q I h => ?_⟩
  refine wpAny_Call_Name_kw (ld_glob I hg hm ?_ hdb)
  refine PySem.W.callWith_K (h₀ := X.base) I.ok.mod.kin kp (thn (ha.run pos pins s σ H _ I h) fun us s1 ⟨vs, H1, I1, r, q⟩ => ⟨I1.kIn, ?_⟩) he hpl
  have hl : us.length = ps.length := by rw [← r.length]; exact F.len _ _ _ _ q
  have bd := hb s1 us I1.kIn (by rw [List.append_nil]; exact hl)
  rw [List.append_nil] at bd
  refine wpAny_call (codeAny_mono (F.run X.A X.stack s1 H1 ⟨us, []⟩ us vs Q C8.E0 hr hgu I1.env0 bd r q) fun rr s' hq => ?_)
  cases rr with
  | error e => exact C8.pass0 (E := C8.E0) pins σ H1 s1 e s' I1 hq
  | ok fl =>
    cases fl with
    | ret u => exact I1.after hq
    | next => exact hq.elim
    | brk => exact hq.elim
    | cont => exact hq.elim
end
end Wf

namespace Wf
open PySem PySem.Spec PyProof.Rows L2 C8
/-- the law's call, where nothing is being shown -/
theorem law_callG {P : Program} {w : World} {K : PySem.W.Frag} {mg mb : Str → Option Value} {k : Nat} {fa a : Addr} {fd : FuncData} {x : Str} {sp : Sp} {s : Shared} {vs : List Value} {ns : List Int}
    (KX : K.In s.heap) (hns : s.heap.Ns mainGlobals mg) (hb : s.heap.Ns builtinsNs mb) (hbb : ∀ x : Str, x ≠ "__name__" → mb x = bootBuiltins x) (hlim : s.heap.NoLimit) (hg : s.gens = #[])
    (ha : s.heap.get? a = some { cls := .type "list", data := .seq vs.toArray }) (hi : IntsAre vs ns) (hl : ns.length ≤ sizeLine) (hr : Room k callerA)
    (F : ∀ base : Heap, K.In base → base.Ns mainGlobals mg → FnG P w K mg base k fa fd [x] sp) (hbind : ∀ (s : Shared) (u : Value), BindsTo s fd ⟨[u], []⟩ [(x, u)])
    (hsp : ∀ H : Hp, SqL K H a (ns.map V.int) → sp [.ref a] H (fun v _ => v = .bl true) C8.E0) :
    codeAny (model P w) callerA (.call (.ref fa) ⟨[.ref a], []⟩) (fun r s' => r = .ok (.ret (.bool true)) ∧ OldK s.heap s'.heap ∧ s'.os = s.os ∧ AllBare s'.gens) s := by
  have rv := vals_ints hi
  have len := hi.length
  generalize hob : ({ cls := .type "list", data := .seq vs.toArray } : Obj) = ob at ha
  have obd : ob.data = .seq vs.toArray := by rw [← hob]
  -- in a heap that tracks at most the script
  have main : ∀ H : Hp, (∀ b u, H b = some u → b = a ∧ u = .frz ob (.lst (ns.map V.int))) → SqL K H a (ns.map V.int) → HOk P w H s.heap → (H a ≠ none → K.lookup a = none) →
      codeAny (model P w) callerA (.call (.ref fa) ⟨[.ref a], []⟩) (fun r s' => r = .ok (.ret (.bool true)) ∧ OldK s.heap s'.heap ∧ s'.os = s.os ∧ AllBare s'.gens) s := by
    intro H only hS hok hK
    have low : ∀ {b : Addr} {o : Obj}, s.heap.get? b = some o → H b = none → (hidT s.heap H).get? b = some o := fun e n => hidT_get e n
    have nodict : ∀ {b : Addr} {o : Obj} {es : Array DictEntry} {ep : Nat}, s.heap.get? b = some o → o.data = .dict es ep → H b = none := fun {b o es ep} e d => by
      cases q : H b with
      | none => rfl
      | some u =>
        obtain ⟨rfl, _⟩ := only b u q
        rw [ha] at e
        cases e
        rw [obd] at d
        cases d
    have names : ∀ {b : Addr} {m : Str → Option Value}, s.heap.Ns b m → (hidT s.heap H).Ns b m := fun ⟨o, es, ep, e, d, r⟩ => ⟨o, es, ep, low e (nodict e d), d, r⟩
    have kb : K.In (hidT s.heap H) := fun b o e => low (KX b o e) (by
      cases q : H b with
      | none => rfl
      | some u =>
        obtain ⟨rfl, _⟩ := only b u q
        have := hK (by rw [q]; exact fun z => (nomatch z))
        rw [this] at e
        cases e)
    have hM : Mod K mg (hidT s.heap H) := ⟨kb, names hns, ⟨mb, names hb, hbb⟩, by
      obtain ⟨mc, h1, h2⟩ := hlim
      exact ⟨mc, names h1, h2⟩⟩
    have e0 : Env0 P w K mg (hidT s.heap H) callerA [] s H := ⟨rfl, hM, fun b o e => of_hidT e, Nat.le_of_eq (hidT_size _ _), trivial, fun b hb => (nomatch hb), hok, .of_eq hg⟩
    have run := (F _ kb (names hns)).run callerA [] s H ⟨[.ref a], []⟩ [.ref a] [.ref a] (fun v _ => v = .bl true) C8.E0 hr rfl e0 (hbind s (.ref a)) (.cons rfl .nil) (hsp H hS)
    refine codeAny_mono run fun r s' h => ?_
    cases r with
    | error e => exact (show False from h).elim
    | ok fl =>
      cases fl with
      | next => exact (show False from h).elim
      | brk => exact (show False from h).elim
      | cont => exact (show False from h).elim
      | ret u =>
        obtain ⟨v, H', os, bare, un, hok', r', q⟩ := h
        have q' : v = .bl true := q
        subst q'
        obtain rfl : u = Value.bool true := r'
        refine ⟨rfl, OldK.of_keep fun b o e => ?_, os, bare⟩
        cases q : H b with
        | none => exact un.keep b o e q (fun z => nomatch z) (fun z => nomatch z)
        | some u =>
          obtain ⟨rfl, rfl⟩ := only b u q
          have z2 := un.frzs b ob _ q
          obtain ⟨e1, _⟩ := hok b _ q
          obtain ⟨e2, _⟩ := hok' b _ z2
          rw [e] at e1
          cases e1
          exact e2
  cases hk : K.lookup a with
  | some o =>
    have e := KX a o hk
    rw [ha] at e
    cases e
    have hcl : ob.cls = .type "list" := by rw [← hob]
    have hdi : ob.dict = none := by rw [← hob]
    exact main (fun _ => none) (fun b u z => (nomatch z)) (.inr ⟨ob, vs.toArray, _, hk, hcl, hdi, obd, by rw [List.size_toArray, len]; exact hl, by simpa using rv⟩) (fun b u z => (nomatch z)) fun z => absurd rfl z
  | none =>
    have tell : ∀ b u, (if b = a then some (HO.frz ob (.lst (ns.map V.int))) else none) = some u → b = a ∧ u = .frz ob (.lst (ns.map V.int)) := fun b u z => by
      by_cases hb : b = a
      · rw [if_pos hb] at z
        exact ⟨hb, (Option.some.inj z).symm⟩
      · rw [if_neg hb] at z
        cases z
    refine main (fun b => if b = a then some (.frz ob (.lst (ns.map V.int))) else none) tell (.inl (.inr ⟨ob, if_pos rfl⟩)) (fun b u z => ?_) fun _ => hk
    obtain ⟨rfl, rfl⟩ := tell b u z
    exact ⟨ha, by rw [List.length_map]; exact hl, vs, _, rv, by rw [ha, ← hob]⟩
theorem walk_ofG {l : PySem.W.OpenLaw} {n k : Nat} {q : Program} {loose : List Str} {XP : (Str → Option Value) → Heap → Prop} {YP : World → Heap → Prop} {d : DefRec} {x : Str}
    (hn : l.most = some n) (hn2 : n ≤ sizeLine) (hdf : d.params.defaults = []) (hr : Room k callerA)
    (F : ∀ (w : World) (mg : Str → Option Value) (fa : Addr) (h : Heap), YP w h → h.Ns mainGlobals mg → mg d.name = some (.ref fa) →
      ∃ (K : PySem.W.Frag) (fd : FuncData) (sp : Sp), K.In h ∧ (∀ (s : Shared) (u : Value), BindsTo s fd ⟨[u], []⟩ [(x, u)]) ∧
        (∀ (H : Hp) (a : Addr) (ns : List Int), ns.length ≤ n → SqL K H a (ns.map V.int) → sp [.ref a] H (fun v _ => v = .bl true) C8.E0) ∧
        ∀ base : Heap, K.In base → base.Ns mainGlobals mg → FnG l.prog w K mg base k fa fd [x] sp) :
    PySem.W.WalkO q loose XP YP l.row.toRowW d [] (fun f vs => PySem.call f vs) := by
  refine Att.attach_call hn hdf fun w s₀ s₁ mg mb fa o pm cd doc a vs ns G Y ho hd hcd hmg hobj hints hlen hg => ?_
  obtain ⟨K, fd, sp, KX, hb, hsp, hF⟩ := F w mg fa _ Y G.T.g hmg
  have room : ns.length ≤ sizeLine := Nat.le_trans hlen hn2
  exact law_callG KX G.T.g G.T.b G.T.builtins G.T.nolimit hg hobj hints room hr hF hb fun H hS => hsp H a ns hlen hS
end Wf

namespace Wf
open PySem PySem.Spec PyProof.Rows L2 C8
section
variable {X : Cx} {ρ : Rho} {e a b c : Expr} {es : List Expr} {pos p px : Pos} {Q : PyData → Prop} {x : Str}
/-- one factor is small -/
theorem jv_mulS {i j : Int} (ha : JV X a ρ (.int i)) (hb : JV X b ρ (.int j)) (h : (-(2 ^ 64) < i ∧ i < 2 ^ 64) ∨ (-(2 ^ 64) < j ∧ j < 2 ^ 64)) : JV X (.BinOp a .Mult b pos) ρ (.int (i * j)) :=
  je_op op_mul ha fun x e => by subst e; exact hb.to (rd_I h rfl)
theorem jv_pow {i j : Int} (ha : JV X a ρ (.int i)) (hb : JV X b ρ (.int j)) (h : CPow i j) : JV X (.BinOp a .Pow b pos) ρ (.int (i ^ j.toNat)) :=
  je_op op_pow ha fun x e => by subst e; exact hb.to (rd_I h rfl)
theorem jv_fdivS {i j : Int} (ha : JV X a ρ (.int i)) (hb : JV X b ρ (.int j)) (h : CDiv i j) : JV X (.BinOp a .FloorDiv b pos) ρ (.int (i / j)) :=
  je_op op_fdiv ha fun x e => by subst e; exact hb.to (rd_I h rfl)
/-- divmod of ints that are known but for some -/
theorem je_divmod {P : PyData → Prop} {j : Int} (ha : JE X a ρ P) (hb : JV X b ρ (.int j)) (h : ∀ d, P d → ∃ i, d = .int i ∧ Q (.tuple [.int (i / j), .int (i % j)])) (h0 : 0 < j) (hj : j < 1073741824) (hg : Gl X "divmod") (hm : X.mg "divmod" = none)
    (h1 : starEach [a, b] X.env = (false, eval a X.env) :: starEach [b] X.env := by rfl) (h2 : starEach [b] X.env = (false, eval b X.env) :: starEach [] X.env := by rfl) (hpl : (backTo pos (starEach [b] X.env)).any (·.1) = false := by rfl) :
    JE X (.Call (.Name "divmod" p) [a, b] [] pos) ρ Q :=
  je_callB (P := fun ds => ∃ i, ds = [.int i, .int j] ∧ Q (.tuple [.int (i / j), .int (i % j)])) call_divmodW hg hm (by decide +kernel) (ja_cons ha (fun d pd => by
    obtain ⟨i, rfl, q⟩ := h d pd
    exact (jav_cons hb jav_nil h2).imp fun ds e => ⟨i, by rw [e], q⟩) h1) (fun ds pd => by
    obtain ⟨i, rfl, qi⟩ := pd
    intro F H vs k f d q
    obtain ⟨v, v', rfl, d1, d2⟩ := rc_two d
    rw [d1.int_, d2.int_]
    refine ⟨i, j, rfl, ⟨h0, PyProof.noPylong_small (by omega)⟩, fun o ho => ?_⟩
    have g := Grow.new (F := F) (o := .tup [.int (i / j), .int (i % j)]) f ho
    exact q _ _ _ _ qi g (.tup (SqT.of upd_same) (.cons (.int _) (.cons (.int _) .nil)))) (he := h1) (hpl := hpl)

/-! ### the sack -/
/-- sack[0], sack[1], sack[2] -/
theorem je_sack (i : Nat) {o : Addr} {c : Int} {k : Nat} {pc : Pos} (h : ρ[i]? = some (.sack o)) (hc : c = 0 ∨ c = 1 ∨ c = 2) (q : ∀ z : Int, (c = 0 → 0 ≤ z) → Q (.int z)) (hN : X.N[i]? = some x := by rfl)
    (hv : Vis X.env.scope x := by first | exact Or.inl rfl | exact Or.inr (Or.inl rfl) | exact Or.inr (Or.inr rfl)) (hd : (x == ("__debug__" : Str)) = false := by decide) (hcd : (x == ("__classdict__" : Str)) = false := by decide) :
    JE X (.Subscript (.Name x px) (.Constant (.int c) k pc) pos) ρ Q := fun B F H σ kk f bb S kq => by
  refine toE (pe_ix ix_list (pe_var hN hv hd hcd) pe_int (fun _ _ => rfl)) ?_
  obtain ⟨z0, z1, z2, e, b0, f0, h0, hz⟩ := S.ok i _ h
  have pick : ∃ z : Int, atI [V.int z0, V.int z1, V.int z2] c = some (.int z) ∧ (c = 0 → 0 ≤ z) := by
    rcases hc with rfl | rfl | rfl
    · exact ⟨z0, rfl, fun _ => hz⟩
    · exact ⟨z1, rfl, fun z => by omega⟩
    · exact ⟨z2, rfl, fun z => by omega⟩
  obtain ⟨z, ez, pz⟩ := pick
  exact ⟨.ref o, e, o, _, c, .int z, rfl, rfl, SqL.of h0, ez, kq _ _ F H (q z pz) (Grow.refl f bb) S (.int z)⟩
theorem Slots.sack_upd {K : PySem.W.Frag} {B F H : Hp} {σ : L2.St} {ρ : Rho} {i : Nat} {o : Addr} {z0 z1 z2 : Int} (S : Slots K B F H σ ρ) (fh : Same F H) (bh : Same B H) (h : ρ[i]? = some (.sack o)) (h0 : 0 ≤ z0) :
    Slots K B F (upd H o (.lst [.int z0, .int z1, .int z2])) σ ρ ∧ Grow B F F (upd H o (.lst [.int z0, .int z1, .int z2])) := by
  obtain ⟨_, _, _, e, b0, f0, _, _⟩ := S.ok i _ h
  refine ⟨⟨S.len, fun j s hs => ?_, S.dis⟩, ⟨Same.refl F, fun a u q => ?_, fun a u q => ?_, fun _ _ q => .inl q⟩⟩
  · have k1 := S.ok j s hs
    by_cases hj : j = i
    · subst hj
      rw [h] at hs
      cases hs
      exact ⟨z0, z1, z2, e, b0, f0, upd_same, h0⟩
    · have nd : ∀ a, IsMut ρ j → σ[j]? = some (some (.ref a)) → a ≠ o := fun a m q z => S.dis j i o hj m ⟨_, h, rfl⟩ (by rw [q, z]) e
      cases s with
      | no => trivial
      | val d => exact k1
      | own ds =>
        obtain ⟨a, ws, q1, q2, q3, q4, q5⟩ := k1
        exact ⟨a, ws, q1, q2, q3, by rw [upd_ne (nd a ⟨_, hs, rfl⟩ q1)]; exact q4, q5⟩
      | sack o' =>
        obtain ⟨i1, i2, i3, q1, q2, q3, q4, q5⟩ := k1
        exact ⟨i1, i2, i3, q1, q2, q3, by rw [upd_ne (nd o' ⟨_, hs, rfl⟩ q1)]; exact q4, q5⟩
  · rw [upd_ne fun z => by rw [z, f0] at q; cases q]
    exact fh a u q
  · rw [upd_ne fun z => by rw [z, b0] at q; cases q]
    exact bh a u q
/-- sack[c] = .. -/
theorem jg_sack (i : Nat) {o : Addr} {c z : Int} {k : Nat} {pc : Pos} {R : Rho → Prop} (h : ρ[i]? = some (.sack o)) (hc : c = 0 ∨ c = 1 ∨ c = 2) (hz : c = 0 → 0 ≤ z) (q : R ρ) (hN : X.N[i]? = some x := by rfl)
    (hv : Vis X.env.scope x := by first | exact Or.inl rfl | exact Or.inr (Or.inl rfl) | exact Or.inr (Or.inr rfl)) (hd : (x == ("__debug__" : Str)) = false := by decide) (hcd : (x == ("__classdict__" : Str)) = false := by decide) :
    JG X (.Subscript (.Name x px) (.Constant (.int c) k pc) pos) (.int z) ρ R := fun B F H σ v kk f bb S hd' kq => by
  refine toG (pg_sub (pe_var hN hv hd hcd) pe_int set_list) ?_
  obtain ⟨z0, z1, z2, e, b0, f0, h0, hz0⟩ := S.ok i _ h
  rw [hd'.int_]
  rcases hc with rfl | rfl | rfl
  · obtain ⟨S', g⟩ := S.sack_upd (z1 := z1) (z2 := z2) f bb h (hz rfl)
    exact ⟨.ref o, e, o, _, 0, 0, rfl, rfl, h0, rfl, kq ρ σ F _ q g S'⟩
  · obtain ⟨S', g⟩ := S.sack_upd (z1 := z) (z2 := z2) f bb h hz0
    exact ⟨.ref o, e, o, _, 1, 1, rfl, rfl, h0, rfl, kq ρ σ F _ q g S'⟩
  · obtain ⟨S', g⟩ := S.sack_upd (z1 := z1) (z2 := z) f bb h hz0
    exact ⟨.ref o, e, o, _, 2, 2, rfl, rfl, h0, rfl, kq ρ σ F _ q g S'⟩
/-- a test of a value that is an int -/
theorem jt_gtE {P : PyData → Prop} {T : Bool → Prop} {j : Int} (ha : JE X a ρ P) (hb : JV X b ρ (.int j)) (h : ∀ d, P d → ∃ i, d = .int i ∧ T (decide (j < i))) : JT X (.Compare a [.Gt] [b] pos) ρ T :=
  jt_cmp op_gt ha (fun x px => by
    obtain ⟨i, rfl, t⟩ := h x px
    exact hb.to (rd_B0 ⟨_, rfl, t⟩)) (nomark _)
theorem jt_eqE {P : PyData → Prop} {T : Bool → Prop} {j : Int} (ha : JE X a ρ P) (hb : JV X b ρ (.int j)) (h : ∀ d, P d → ∃ i, d = .int i ∧ T (decide (i = j))) : JT X (.Compare a [.Eq] [b] pos) ρ T :=
  jt_cmp op_eq ha (fun x px => by
    obtain ⟨i, rfl, t⟩ := h x px
    exact hb.to (rd_eq rfl rfl rfl ⟨_, rfl, by rw [dint]; exact t⟩)) (nomark _)
/-- an int operation on values of which some things are known -/
theorem je_addE {P : PyData → Prop} {R : PyData → Prop} (ha : JE X a ρ P) (hb : ∀ d, P d → JE X b ρ R) (h : ∀ d d', P d → R d' → ∃ i j, d = .int i ∧ d' = .int j ∧ Q (.int (i + j))) : JE X (.BinOp a .Add b pos) ρ Q :=
  je_op op_add ha fun x px => (hb x px).imp fun y ry => by
    obtain ⟨i, j, rfl, rfl, q⟩ := h x y px ry
    exact rd_I0 q
theorem je_subE {P : PyData → Prop} {R : PyData → Prop} (ha : JE X a ρ P) (hb : ∀ d, P d → JE X b ρ R) (h : ∀ d d', P d → R d' → ∃ i j, d = .int i ∧ d' = .int j ∧ Q (.int (i - j))) : JE X (.BinOp a .Sub b pos) ρ Q :=
  je_op op_sub ha fun x px => (hb x px).imp fun y ry => by
    obtain ⟨i, j, rfl, rfl, q⟩ := h x y px ry
    exact rd_I0 q
theorem je_mulE {P : PyData → Prop} {R : PyData → Prop} (ha : JE X a ρ P) (hb : ∀ d, P d → JE X b ρ R) (h : ∀ d d', P d → R d' → ∃ i j, d = .int i ∧ d' = .int j ∧ ((-(2 ^ 64) < i ∧ i < 2 ^ 64) ∨ (-(2 ^ 64) < j ∧ j < 2 ^ 64)) ∧ Q (.int (i * j))) : JE X (.BinOp a .Mult b pos) ρ Q :=
  je_op op_mul ha fun x px => (hb x px).imp fun y ry => by
    obtain ⟨i, j, rfl, rfl, hb, q⟩ := h x y px ry
    exact rd_I hb q
theorem je_modE {P : PyData → Prop} {j : Int} (ha : JE X a ρ P) (hb : JV X b ρ (.int j)) (h0 : 0 < j) (h : ∀ d, P d → ∃ i, d = .int i ∧ Q (.int (i % j))) : JE X (.BinOp a .Mod b pos) ρ Q :=
  je_op op_mod ha fun x px => hb.to (by
    obtain ⟨i, rfl, q⟩ := h x px
    exact rd_I h0 q)
theorem je_fdivE {P : PyData → Prop} {j : Int} (ha : JE X a ρ P) (hb : JV X b ρ (.int j)) (h0 : CDiv 0 j) (h : ∀ d, P d → ∃ i, d = .int i ∧ Q (.int (i / j))) : JE X (.BinOp a .FloorDiv b pos) ρ Q :=
  je_op op_fdiv ha fun x px => hb.to (by
    obtain ⟨i, rfl, q⟩ := h x px
    exact rd_I (show CDiv i j from h0) q)
theorem je_intI {P : PyData → Prop} (ha : JE X a ρ P) (h : ∀ d, P d → ∃ i, d = .int i ∧ Q (.int i)) (hg : Gl X "int") (hm : X.mg "int" = none) (hs : starEach [a] X.env = (false, eval a X.env) :: starEach [] X.env := by rfl) (hpl : (backTo pos (starEach [] X.env)).any (·.1) = false := by rfl) : JE X (.Call (.Name "int" p) [a] [] pos) ρ Q :=
  je_callTy (P := fun ds => ∃ i, ds = [.int i] ∧ Q (.int i)) call_int1 hg hm (by decide +kernel) (ja_cons ha (fun d pd => ja_nil (by
    obtain ⟨i, rfl, q⟩ := h d pd
    exact ⟨i, rfl, q⟩)) hs) (fun ds pd => by
    obtain ⟨i, rfl, qi⟩ := pd
    intro F H vs k f d q
    obtain ⟨v, rfl, dv⟩ := rc_one d
    rw [dv.int_]
    exact .inl ⟨i, rfl, q _ _ F H qi (Grow.refl f (Same.refl _)) (.int _)⟩) (he := hs) (hpl := hpl)
end
end Wf

namespace Wf
open PySem PySem.Spec PyProof.Rows L2 C8
def topS (i : Nat) : Stmt := PySem.Challenge.pw_windfigure_k70_whole_bearings_that_catch.main.body.getD i (.Pass ⟨0, 0, 0, 0⟩)
/-- a def of the text -/
structure Df (K : PySem.W.Frag) (mg : Str → Option Value) (x : Str) (st : Stmt) (ps : List Str) : Prop where
  ex : ∃ (f : Addr) (fd : FuncData), Def K mg x st f fd ∧ Binds K fd ps []
/-- .. that is called by names, too; they stand in this order -/
structure DfK (K : PySem.W.Frag) (mg : Str → Option Value) (x : Str) (st : Stmt) (ps ks : List Str) (g : List Value → List Value → List Value) (gV : List V → List V → List V) : Prop where
  ex : ∃ (f : Addr) (fd : FuncData), Def K mg x st f fd ∧ Binds K fd ps [] ∧ KBinds K fd ps ks g gV
abbrev s_is_whole : Stmt := topS 7
abbrev N_is_whole : List Str := ["value"]
theorem sc_is_whole : FnScope N_is_whole ["value"] (fnScope s_is_whole) := fnScope_by (by decide +kernel)
abbrev s_are_wholes : Stmt := topS 8
abbrev N_are_wholes : List Str := ["value", "many", "number"]
theorem sc_are_wholes : FnScope N_are_wholes ["value", "many"] (fnScope s_are_wholes) := fnScope_by (by decide +kernel)
abbrev s_common_divisor : Stmt := topS 9
abbrev N_common_divisor : List Str := ["numbers", "found", "number"]
theorem sc_common_divisor : FnScope N_common_divisor ["numbers"] (fnScope s_common_divisor) := fnScope_by (by decide +kernel)
abbrev s_lowest : Stmt := topS 10
abbrev N_lowest : List Str := ["numbers", "divisor", "number"]
theorem sc_lowest : FnScope N_lowest ["numbers"] (fnScope s_lowest) := fnScope_by (by decide +kernel)
abbrev s_is_lowest : Stmt := topS 11
abbrev N_is_lowest : List Str := ["numbers"]
theorem sc_is_lowest : FnScope N_is_lowest ["numbers"] (fnScope s_is_lowest) := fnScope_by (by decide +kernel)
abbrev s_sign : Stmt := topS 12
abbrev N_sign : List Str := ["number"]
theorem sc_sign : FnScope N_sign ["number"] (fnScope s_sign) := fnScope_by (by decide +kernel)
abbrev s_ratio : Stmt := topS 14
abbrev N_ratio : List Str := ["over", "under"]
theorem sc_ratio : FnScope N_ratio ["over", "under"] (fnScope s_ratio) := fnScope_by (by decide +kernel)
abbrev s_ratio_less : Stmt := topS 15
abbrev N_ratio_less : List Str := ["one", "two"]
theorem sc_ratio_less : FnScope N_ratio_less ["one", "two"] (fnScope s_ratio_less) := fnScope_by (by decide +kernel)
abbrev s_ratio_over : Stmt := topS 16
abbrev N_ratio_over : List Str := ["one", "two"]
theorem sc_ratio_over : FnScope N_ratio_over ["one", "two"] (fnScope s_ratio_over) := fnScope_by (by decide +kernel)
abbrev s_is_lower : Stmt := topS 17
abbrev N_is_lower : List Str := ["one", "two"]
theorem sc_is_lower : FnScope N_is_lower ["one", "two"] (fnScope s_is_lower) := fnScope_by (by decide +kernel)
abbrev s_higher_of : Stmt := topS 18
abbrev N_higher_of : List Str := ["one", "two"]
theorem sc_higher_of : FnScope N_higher_of ["one", "two"] (fnScope s_higher_of) := fnScope_by (by decide +kernel)
abbrev s_lower_of : Stmt := topS 19
abbrev N_lower_of : List Str := ["one", "two"]
theorem sc_lower_of : FnScope N_lower_of ["one", "two"] (fnScope s_lower_of) := fnScope_by (by decide +kernel)
abbrev s_is_vector : Stmt := topS 22
abbrev N_is_vector : List Str := ["value"]
theorem sc_is_vector : FnScope N_is_vector ["value"] (fnScope s_is_vector) := fnScope_by (by decide +kernel)
abbrev s_step_between : Stmt := topS 23
abbrev N_step_between : List Str := ["one", "two"]
theorem sc_step_between : FnScope N_step_between ["one", "two"] (fnScope s_step_between) := fnScope_by (by decide +kernel)
abbrev s_along : Stmt := topS 24
abbrev N_along : List Str := ["normal", "point"]
theorem sc_along : FnScope N_along ["normal", "point"] (fnScope s_along) := fnScope_by (by decide +kernel)
abbrev s_bend : Stmt := topS 25
abbrev N_bend : List Str := ["one", "two"]
theorem sc_bend : FnScope N_bend ["one", "two"] (fnScope s_bend) := fnScope_by (by decide +kernel)
abbrev s_side_at : Stmt := topS 28
abbrev N_side_at : List Str := ["normal", "point", "a", "b", "x", "y", "w"]
theorem sc_side_at : FnScope N_side_at ["normal", "point"] (fnScope s_side_at) := fnScope_by (by decide +kernel)
abbrev s_side_left : Stmt := topS 29
abbrev N_side_left : List Str := ["one", "two", "u", "v"]
theorem sc_side_left : FnScope N_side_left ["one", "two"] (fnScope s_side_left) := fnScope_by (by decide +kernel)
abbrev s_value_at : Stmt := topS 30
abbrev N_value_at : List Str := ["side", "point"]
theorem sc_value_at : FnScope N_value_at ["side", "point"] (fnScope s_value_at) := fnScope_by (by decide +kernel)
abbrev s_are_held : Stmt := topS 31
abbrev N_are_held : List Str := ["borders", "point", "side"]
theorem sc_are_held : FnScope N_are_held ["borders", "point"] (fnScope s_are_held) := fnScope_by (by decide +kernel)
abbrev s_chain : Stmt := topS 32
abbrev N_chain : List Str := ["rows", "found", "row"]
theorem sc_chain : FnScope N_chain ["rows"] (fnScope s_chain) := fnScope_by (by decide +kernel)
abbrev s_is_left : Stmt := topS 33
abbrev N_is_left : List Str := ["one", "two", "three"]
theorem sc_is_left : FnScope N_is_left ["one", "two", "three"] (fnScope s_is_left) := fnScope_by (by decide +kernel)
abbrev s_hull : Stmt := topS 34
abbrev N_hull : List Str := ["points", "under", "point", "rows", "found", "x", "y", "w"]
theorem sc_hull : FnScope N_hull ["points"] (fnScope s_hull) := fnScope_by (by decide +kernel)
abbrev s_is_shape : Stmt := topS 35
abbrev N_is_shape : List Str := ["value", "corner"]
theorem sc_is_shape : FnScope N_is_shape ["value"] (fnScope s_is_shape) := fnScope_by (by decide +kernel)
abbrev s_next_corner : Stmt := topS 36
abbrev N_next_corner : List Str := ["polygon", "at"]
theorem sc_next_corner : FnScope N_next_corner ["polygon", "at"] (fnScope s_next_corner) := fnScope_by (by decide +kernel)
abbrev s_sides : Stmt := topS 37
abbrev N_sides : List Str := ["polygon", "one", "two", "u", "v", "normal", "at", "corner"]
theorem sc_sides : FnScope N_sides ["polygon"] (fnScope s_sides) := fnScope_by (by decide +kernel)
abbrev s_has : Stmt := topS 38
abbrev N_has : List Str := ["polygon", "point"]
theorem sc_has : FnScope N_has ["polygon", "point"] (fnScope s_has) := fnScope_by (by decide +kernel)
abbrev s_check_point : Stmt := topS 40
abbrev N_check_point : List Str := ["value"]
theorem sc_check_point : FnScope N_check_point ["value"] (fnScope s_check_point) := fnScope_by (by decide +kernel)
abbrev s_check_polygon : Stmt := topS 41
abbrev N_check_polygon : List Str := ["value"]
theorem sc_check_polygon : FnScope N_check_polygon ["value"] (fnScope s_check_polygon) := fnScope_by (by decide +kernel)
abbrev s_closing_by : Stmt := topS 43
abbrev N_closing_by : List Str := ["borders", "bearing", "velocity", "low", "high", "a", "b", "h", "gain", "room", "bound"]
theorem sc_closing_by : FnScope N_closing_by ["borders", "bearing", "velocity"] (fnScope s_closing_by) := fnScope_by (by decide +kernel)
abbrev s_is_good : Stmt := topS 44
abbrev N_is_good : List Str := ["number"]
theorem sc_is_good : FnScope N_is_good ["number"] (fnScope s_is_good) := fnScope_by (by decide +kernel)
abbrev s_check_bearing : Stmt := topS 45
abbrev N_check_bearing : List Str := ["value"]
theorem sc_check_bearing : FnScope N_check_bearing ["value"] (fnScope s_check_bearing) := fnScope_by (by decide +kernel)
abbrev s_closings_of : Stmt := topS 46
abbrev N_closings_of : List Str := ["velocities", "bearing", "fleeing", "borders", "corner"]
theorem sc_closings_of : FnScope N_closings_of ["velocities", "bearing", "fleeing"] (fnScope s_closings_of) := fnScope_by (by decide +kernel)
abbrev s_is_strictly_in : Stmt := topS 47
abbrev N_is_strictly_in : List Str := ["borders", "point", "side"]
theorem sc_is_strictly_in : FnScope N_is_strictly_in ["borders", "point"] (fnScope s_is_strictly_in) := fnScope_by (by decide +kernel)
abbrev s_is_caught_from : Stmt := topS 48
abbrev N_is_caught_from : List Str := ["velocities", "fleeing", "bearing", "number"]
theorem sc_is_caught_from : FnScope N_is_caught_from ["velocities", "fleeing", "bearing"] (fnScope s_is_caught_from) := fnScope_by (by decide +kernel)
abbrev s_catches_always : Stmt := topS 49
abbrev N_catches_always : List Str := ["velocities", "fleeing", "borders", "corner"]
theorem sc_catches_always : FnScope N_catches_always ["velocities", "fleeing"] (fnScope s_catches_always) := fnScope_by (by decide +kernel)
abbrev s_seen_from : Stmt := topS 50
abbrev N_seen_from : List Str := ["point", "polygon", "steps", "first", "last", "step", "corner"]
theorem sc_seen_from : FnScope N_seen_from ["point", "polygon"] (fnScope s_seen_from) := fnScope_by (by decide +kernel)
abbrev s_cone_sides : Stmt := topS 51
abbrev N_cone_sides : List Str := ["velocities", "corner", "borders", "first", "last", "found", "a", "b", "h"]
theorem sc_cone_sides : FnScope N_cone_sides ["velocities", "corner"] (fnScope s_cone_sides) := fnScope_by (by decide +kernel)
abbrev s_bearing_sides : Stmt := topS 52
abbrev N_bearing_sides : List Str := ["velocities", "fleeing", "borders", "found", "corner", "side"]
theorem sc_bearing_sides : FnScope N_bearing_sides ["velocities", "fleeing"] (fnScope s_bearing_sides) := fnScope_by (by decide +kernel)
abbrev s__law_sack : Stmt := topS 54
abbrev N__law_sack : List Str := ["_law_script", "_law_turn", "_law_cell", "_law_stir", "_law_each"]
theorem sc__law_sack : FnScope N__law_sack ["_law_script", "_law_turn"] (fnScope s__law_sack) := fnScope_by (by decide +kernel)
abbrev s__law_draw : Stmt := topS 55
abbrev N__law_draw : List Str := ["_law_sack_here", "_law_size", "_law_digit", "_law_blend"]
theorem sc__law_draw : FnScope N__law_draw ["_law_sack_here", "_law_size"] (fnScope s__law_draw) := fnScope_by (by decide +kernel)
abbrev s__law_one : Stmt := topS 56
abbrev N__law_one : List Str := ["_law_sack_here", "_law_some"]
theorem sc__law_one : FnScope N__law_one ["_law_sack_here", "_law_some"] (fnScope s__law_one) := fnScope_by (by decide +kernel)
abbrev s__law_gcd : Stmt := topS 57
abbrev N__law_gcd : List Str := ["_law_one_here", "_law_two"]
theorem sc__law_gcd : FnScope N__law_gcd ["_law_one_here", "_law_two"] (fnScope s__law_gcd) := fnScope_by (by decide +kernel)
abbrev s__law_ratio : Stmt := topS 58
abbrev N__law_ratio : List Str := ["_law_n", "_law_m", "_law_low"]
theorem sc__law_ratio : FnScope N__law_ratio ["_law_n", "_law_m"] (fnScope s__law_ratio) := fnScope_by (by decide +kernel)
abbrev s__law_less : Stmt := topS 59
abbrev N__law_less : List Str := ["_law_one_here", "_law_two"]
theorem sc__law_less : FnScope N__law_less ["_law_one_here", "_law_two"] (fnScope s__law_less) := fnScope_by (by decide +kernel)
abbrev s__law_spot : Stmt := topS 60
abbrev N__law_spot : List Str := ["_law_x", "_law_y", "_law_w", "_law_low"]
theorem sc__law_spot : FnScope N__law_spot ["_law_x", "_law_y", "_law_w"] (fnScope s__law_spot) := fnScope_by (by decide +kernel)
abbrev s__law_said : Stmt := topS 61
abbrev N__law_said : List Str := ["_law_dots", "_law_scale", "_law_x", "_law_y"]
theorem sc__law_said : FnScope N__law_said ["_law_dots", "_law_scale"] (fnScope s__law_said) := fnScope_by (by decide +kernel)
abbrev s__law_bend : Stmt := topS 62
abbrev N__law_bend : List Str := ["_law_a", "_law_b", "_law_c"]
theorem sc__law_bend : FnScope N__law_bend ["_law_a", "_law_b", "_law_c"] (fnScope s__law_bend) := fnScope_by (by decide +kernel)
abbrev s__law_chain : Stmt := topS 63
abbrev N__law_chain : List Str := ["_law_dots", "_law_kept", "_law_dot_here"]
theorem sc__law_chain : FnScope N__law_chain ["_law_dots"] (fnScope s__law_chain) := fnScope_by (by decide +kernel)
abbrev s__law_rim : Stmt := topS 64
abbrev N__law_rim : List Str := ["_law_dots", "_law_some"]
theorem sc__law_rim : FnScope N__law_rim ["_law_dots"] (fnScope s__law_rim) := fnScope_by (by decide +kernel)
abbrev s__law_dot : Stmt := topS 65
abbrev N__law_dot : List Str := ["_law_sack_here"]
theorem sc__law_dot : FnScope N__law_dot ["_law_sack_here"] (fnScope s__law_dot) := fnScope_by (by decide +kernel)
abbrev s__law_hunt : Stmt := topS 66
abbrev N__law_hunt : List Str := ["_law_sack_here", "_law_branch", "_law_scale", "_law_x", "_law_y", "_law_menu", "_law_wide", "_law_fast", "_law_slow", "_law_many", "_law_p", "_law_q", "_law_turn"]
theorem sc__law_hunt : FnScope N__law_hunt ["_law_sack_here"] (fnScope s__law_hunt) := fnScope_by (by decide +kernel)
abbrev s__law_span : Stmt := topS 67
abbrev N__law_span : List Str := ["_law_speeds", "_law_base", "_law_way", "_law_rim_here", "_law_scale", "_law_x", "_law_y", "_law_w", "_law_a", "_law_b", "_law_c", "_law_dots", "_law_found", "_law_many", "_law_j", "_law_i", "_law_here", "_law_there", "_law_near", "_law_far", "_law_low", "_law_high", "_law_each", "_law_p", "_law_q"]
theorem sc__law_span : FnScope N__law_span ["_law_speeds", "_law_base", "_law_way"] (fnScope s__law_span) := fnScope_by (by decide +kernel)
abbrev s__law_is_row : Stmt := topS 68
abbrev N__law_is_row : List Str := ["_law_value", "_law_size", "_law_each"]
theorem sc__law_is_row : FnScope N__law_is_row ["_law_value", "_law_size"] (fnScope s__law_is_row) := fnScope_by (by decide +kernel)
abbrev s__law_is_caught : Stmt := topS 69
abbrev N__law_is_caught : List Str := ["_law_fast", "_law_spots", "_law_way", "_law_spot_here", "_law_found"]
theorem sc__law_is_caught : FnScope N__law_is_caught ["_law_fast", "_law_spots", "_law_way"] (fnScope s__law_is_caught) := fnScope_by (by decide +kernel)
abbrev s__law_are_sides : Stmt := topS 70
abbrev N__law_are_sides : List Str := ["_law_told", "_law_each"]
theorem sc__law_are_sides : FnScope N__law_are_sides ["_law_told"] (fnScope s__law_are_sides) := fnScope_by (by decide +kernel)
abbrev s__law_is_before : Stmt := topS 71
abbrev N__law_is_before : List Str := ["_law_one_here", "_law_two", "_law_here", "_law_there"]
theorem sc__law_is_before : FnScope N__law_is_before ["_law_one_here", "_law_two"] (fnScope s__law_is_before) := fnScope_by (by decide +kernel)
abbrev s__law_in_turn : Stmt := topS 72
abbrev N__law_in_turn : List Str := ["_law_some", "_law_found", "_law_x", "_law_y", "_law_fine", "_law_one_here", "_law_k", "_law_two"]
theorem sc__law_in_turn : FnScope N__law_in_turn ["_law_some"] (fnScope s__law_in_turn) := fnScope_by (by decide +kernel)
abbrev s__law_rays : Stmt := topS 73
abbrev N__law_rays : List Str := ["_law_fast", "_law_slow", "_law_sides", "_law_some", "_law_a", "_law_b", "_law_c", "_law_d", "_law_x", "_law_y", "_law_h", "_law_found", "_law_k"]
theorem sc__law_rays : FnScope N__law_rays ["_law_fast", "_law_slow", "_law_sides"] (fnScope s__law_rays) := fnScope_by (by decide +kernel)
abbrev s__law_right : Stmt := topS 74
abbrev N__law_right : List Str := ["_law_sack_here", "_law_fast", "_law_slow", "_law_wide", "_law_small", "_law_is_all", "_law_x", "_law_y", "_law_k", "_law_one_here", "_law_two", "_law_sides", "_law_rays_here", "_law_is_so", "_law_turn", "_law_way", "_law_a", "_law_b", "_law_h"]
theorem sc__law_right : FnScope N__law_right ["_law_sack_here"] (fnScope s__law_right) := fnScope_by (by decide +kernel)
abbrev s_law : Stmt := topS 75
abbrev N_law : List Str := ["_law_script"]
theorem sc_law : FnScope N_law ["_law_script"] (fnScope s_law) := fnScope_by (by decide +kernel)
/-- only names are given, in this order -/
def gA2 {α : Type} : List α → List α → List α
  | [], zs => zs.reverse
  | _ :: _, _ => []
def gA3 {α : Type} : List α → List α → List α
  | [], zs => zs.drop 1 ++ zs.take 1
  | _ :: _, _ => []
/-- what the head shows of the text -/
structure Txt (K : PySem.W.Frag) (mg : Str → Option Value) : Prop where
  d_is_whole : Df K mg "is_whole" s_is_whole ["value"]
  d_are_wholes : Df K mg "are_wholes" s_are_wholes ["value", "many"]
  d_common_divisor : Df K mg "common_divisor" s_common_divisor ["numbers"]
  d_lowest : Df K mg "lowest" s_lowest ["numbers"]
  d_is_lowest : Df K mg "is_lowest" s_is_lowest ["numbers"]
  d_sign : Df K mg "sign" s_sign ["number"]
  d_ratio : Df K mg "ratio" s_ratio ["over", "under"]
  d_ratio_less : Df K mg "ratio_less" s_ratio_less ["one", "two"]
  d_ratio_over : Df K mg "ratio_over" s_ratio_over ["one", "two"]
  d_is_lower : Df K mg "is_lower" s_is_lower ["one", "two"]
  d_higher_of : Df K mg "higher_of" s_higher_of ["one", "two"]
  d_lower_of : Df K mg "lower_of" s_lower_of ["one", "two"]
  d_is_vector : Df K mg "is_vector" s_is_vector ["value"]
  d_step_between : Df K mg "step_between" s_step_between ["one", "two"]
  d_along : Df K mg "along" s_along ["normal", "point"]
  d_bend : Df K mg "bend" s_bend ["one", "two"]
  d_side_at : Df K mg "side_at" s_side_at ["normal", "point"]
  d_side_left : Df K mg "side_left" s_side_left ["one", "two"]
  d_value_at : Df K mg "value_at" s_value_at ["side", "point"]
  d_are_held : Df K mg "are_held" s_are_held ["borders", "point"]
  d_chain : Df K mg "chain" s_chain ["rows"]
  d_is_left : Df K mg "is_left" s_is_left ["one", "two", "three"]
  d_hull : Df K mg "hull" s_hull ["points"]
  d_is_shape : Df K mg "is_shape" s_is_shape ["value"]
  d_next_corner : Df K mg "next_corner" s_next_corner ["polygon", "at"]
  d_sides : Df K mg "sides" s_sides ["polygon"]
  d_has : Df K mg "has" s_has ["polygon", "point"]
  d_check_point : Df K mg "check_point" s_check_point ["value"]
  d_check_polygon : Df K mg "check_polygon" s_check_polygon ["value"]
  d_closing_by : Df K mg "closing_by" s_closing_by ["borders", "bearing", "velocity"]
  d_is_good : Df K mg "is_good" s_is_good ["number"]
  d_check_bearing : Df K mg "check_bearing" s_check_bearing ["value"]
  d_closings_of : Df K mg "closings_of" s_closings_of ["velocities", "bearing", "fleeing"]
  d_is_strictly_in : Df K mg "is_strictly_in" s_is_strictly_in ["borders", "point"]
  d_is_caught_from : DfK K mg "is_caught_from" s_is_caught_from ["velocities", "fleeing", "bearing"] ["bearing", "velocities", "fleeing"] gA3 gA3
  d_catches_always : DfK K mg "catches_always" s_catches_always ["velocities", "fleeing"] ["fleeing", "velocities"] gA2 gA2
  d_seen_from : Df K mg "seen_from" s_seen_from ["point", "polygon"]
  d_cone_sides : Df K mg "cone_sides" s_cone_sides ["velocities", "corner"]
  d_bearing_sides : Df K mg "bearing_sides" s_bearing_sides ["velocities", "fleeing"]
  d__law_sack : Df K mg "_law_sack" s__law_sack ["_law_script", "_law_turn"]
  d__law_draw : Df K mg "_law_draw" s__law_draw ["_law_sack_here", "_law_size"]
  d__law_one : Df K mg "_law_one" s__law_one ["_law_sack_here", "_law_some"]
  d__law_gcd : Df K mg "_law_gcd" s__law_gcd ["_law_one_here", "_law_two"]
  d__law_ratio : Df K mg "_law_ratio" s__law_ratio ["_law_n", "_law_m"]
  d__law_less : Df K mg "_law_less" s__law_less ["_law_one_here", "_law_two"]
  d__law_spot : Df K mg "_law_spot" s__law_spot ["_law_x", "_law_y", "_law_w"]
  d__law_said : Df K mg "_law_said" s__law_said ["_law_dots", "_law_scale"]
  d__law_bend : Df K mg "_law_bend" s__law_bend ["_law_a", "_law_b", "_law_c"]
  d__law_chain : Df K mg "_law_chain" s__law_chain ["_law_dots"]
  d__law_rim : Df K mg "_law_rim" s__law_rim ["_law_dots"]
  d__law_dot : Df K mg "_law_dot" s__law_dot ["_law_sack_here"]
  d__law_hunt : Df K mg "_law_hunt" s__law_hunt ["_law_sack_here"]
  d__law_span : Df K mg "_law_span" s__law_span ["_law_speeds", "_law_base", "_law_way"]
  d__law_is_row : Df K mg "_law_is_row" s__law_is_row ["_law_value", "_law_size"]
  d__law_is_caught : Df K mg "_law_is_caught" s__law_is_caught ["_law_fast", "_law_spots", "_law_way"]
  d__law_are_sides : Df K mg "_law_are_sides" s__law_are_sides ["_law_told"]
  d__law_is_before : Df K mg "_law_is_before" s__law_is_before ["_law_one_here", "_law_two"]
  d__law_in_turn : Df K mg "_law_in_turn" s__law_in_turn ["_law_some"]
  d__law_rays : Df K mg "_law_rays" s__law_rays ["_law_fast", "_law_slow", "_law_sides"]
  d__law_right : Df K mg "_law_right" s__law_right ["_law_sack_here"]
  b_isinstance : mg "isinstance" = none
  b_int : mg "int" = none
  b_bool : mg "bool" = none
  b_tuple : mg "tuple" = none
  b_len : mg "len" = none
  b_all : mg "all" = none
  b_enumerate : mg "enumerate" = none
  b_list : mg "list" = none
  b_sorted : mg "sorted" = none
  b_set : mg "set" = none
  b_abs : mg "abs" = none
  b_divmod : mg "divmod" = none
  b_range : mg "range" = none
  b_repr : mg "repr" = none
  b_gcd : mg "gcd" = some (.builtin "math.gcd")
  b_lcm : mg "lcm" = some (.builtin "math.lcm")
  nought : ∃ a, mg "NOUGHT" = some (.ref a) ∧ ∀ H, Dp K H (.ref a) (.tuple [.int 0, .int 0, .int 1])
  round : ∃ a, mg "ROUND" = some (.ref a) ∧ ∀ H, Dp K H (.ref a) (.tuple [.tuple [.int 1, .int 0], .tuple [.int 0, .int 1], .tuple [.int (-1), .int 0], .tuple [.int 0, .int (-1)]])
section
variable {P : Program} {w : World} {K : PySem.W.Frag} {mg : Str → Option Value} {base : Heap} {α : Type} {args : α → List PyData} {pre : α → Prop} {post : α → PyData → Prop}
theorem cal_mk' {x : Str} {st : Stmt} {N ps : List Str} {k : Nat} (D : Df K mg x st ps) (S : FnScope N ps (fnScope st)) (hl : ∀ y, (args y).length = ps.length)
    (body : ∀ (y : α), pre y → ∀ (f : Addr) (cdv : Value) (A : Around) (outer : List Env) (s : Shared) (H : Hp) (E : XK), Room k (A.deeper (envOfC x (fnScope st) s.heap.objs.size f cdv)) →
      JB (cxOf C8.CX0 P w K mg base N x (fnScope st) f cdv A outer s H E).nox (fnBody st) (rho0 N (args y)) { nx := fun _ => post y .none, rt := fun d _ => post y d }) : Cal P w K mg base (k + 1) x (spD K args pre post) [] := by
  obtain ⟨f, fd, F, b⟩ := D.ex
  exact cal_mk F b S hl fun y hy => body y hy f
theorem calN_mk' {postN : α → List PyData → Prop} {x : Str} {st : Stmt} {N ps : List Str} {k : Nat} (D : Df K mg x st ps) (S : FnScope N ps (fnScope st)) (hl : ∀ y, (args y).length = ps.length)
    (body : ∀ (y : α), pre y → ∀ (f : Addr) (cdv : Value) (A : Around) (outer : List Env) (s : Shared) (H : Hp) (E : XK), Room k (A.deeper (envOfC x (fnScope st) s.heap.objs.size f cdv)) →
      JB (cxOf C8.CX0 P w K mg base N x (fnScope st) f cdv A outer s H E).nox (fnBody st) (rho0 N (args y)) { nx := fun _ => False, rt := fun _ _ => False, ro := fun ds _ => postN y ds }) : Cal P w K mg base (k + 1) x (spN K args pre postN) [] := by
  obtain ⟨f, fd, F, b⟩ := D.ex
  exact calN_mk F b S hl fun y hy => body y hy f
theorem calS_mk' {x : Str} {st : Stmt} {N ps : List Str} {k : Nat} (D : Df K mg x st ps) (S : FnScope N ps (fnScope st)) (hN : 1 ≤ N.length) (hl : ∀ y, (args y).length + 1 = ps.length)
    (body : ∀ (y : α) (o : Addr), pre y → ∀ (f : Addr) (cdv : Value) (A : Around) (outer : List Env) (s : Shared) (H : Hp) (E : XK), Room k (A.deeper (envOfC x (fnScope st) s.heap.objs.size f cdv)) →
      JB (cxOf C8.CX0 P w K mg base N x (fnScope st) f cdv A outer s H E).nox (fnBody st) (.sack o :: rho0 N.tail (args y)) { nx := fun ρ => ρ[0]? = some (.sack o) ∧ post y .none, rt := fun d ρ => ρ[0]? = some (.sack o) ∧ post y d }) : Cal P w K mg base (k + 1) x (spS K args pre post) [] := by
  obtain ⟨f, fd, F, b⟩ := D.ex
  exact calS_mk F b S hN hl fun y o hy => body y o hy f
theorem cal_mkK {x : Str} {st : Stmt} {N ps ks : List Str} {g : List Value → List Value → List Value} {gV : List V → List V → List V} {k : Nat} (D : DfK K mg x st ps ks g gV) (S : FnScope N ps (fnScope st)) (hl : ∀ y, (args y).length = ps.length)
    (body : ∀ (y : α), pre y → ∀ (f : Addr) (cdv : Value) (A : Around) (outer : List Env) (s : Shared) (H : Hp) (E : XK), Room k (A.deeper (envOfC x (fnScope st) s.heap.objs.size f cdv)) →
      JB (cxOf C8.CX0 P w K mg base N x (fnScope st) f cdv A outer s H E).nox (fnBody st) (rho0 N (args y)) { nx := fun _ => post y .none, rt := fun d _ => post y d }) :
    Cal P w K mg base (k + 1) x (spD K args pre post) [] ∧ CalK P w K mg base (k + 1) x ks g gV (spD K args pre post) := by
  obtain ⟨f, fd, F, b, kb⟩ := D.ex
  have G := fn_mk (P := P) (w := w) (base := base) F S hl body
  exact ⟨⟨f, fd, ps, [], G, F.mgf, F.kp, b, .nil⟩, ⟨f, fd, ps, G, F.mgf, F.kp, kb⟩⟩
end
/-- a name of the module -/
theorem jv_glob {X : Cx} {ρ : Rho} {x : Str} {pos : Pos} {a : Addr} {d : PyData} (hg : Gl X x) (hm : X.mg x = some (.ref a)) (hd : ∀ H, Dp X.K H (.ref a) d) (hdb : (x == ("__debug__" : Str)) = false := by decide) : JV X (.Name x pos) ρ d :=
  je_pure (t := tC (.ref a)) ⟨fun pins s σ H Q I h => ld_glob I hg hm ⟨.ref a, H, I, rfl, h⟩ hdb⟩ fun B F H σ f S => ⟨.ref a, d, rfl, hd F, fun k q => q⟩
end Wf

namespace Wf
open PySem PySem.Spec PyProof.Rows L2 C8
/-! ### the head: what stands in the module behind the top -/
abbrev RW : PySem.W.OpenRow := PySem.W.OpenLaw.row PySem.Challenge.rw_windfigure_k70_whole_bearings_that_catch
def dsL0 : List (Str × Nat) := [("is_whole", 7), ("are_wholes", 8), ("common_divisor", 9), ("lowest", 10), ("is_lowest", 11), ("sign", 12), ("ratio", 14), ("ratio_less", 15), ("ratio_over", 16), ("is_lower", 17), ("higher_of", 18), ("lower_of", 19), ("is_vector", 22), ("step_between", 23), ("along", 24), ("bend", 25), ("side_at", 28), ("side_left", 29), ("value_at", 30), ("are_held", 31), ("chain", 32), ("is_left", 33), ("hull", 34), ("is_shape", 35), ("next_corner", 36), ("sides", 37), ("has", 38), ("check_point", 40), ("check_polygon", 41), ("closing_by", 43)]
def dsL1 : List (Str × Nat) := [("is_good", 44), ("check_bearing", 45), ("closings_of", 46), ("is_strictly_in", 47), ("is_caught_from", 48), ("catches_always", 49), ("seen_from", 50), ("cone_sides", 51), ("bearing_sides", 52), ("_law_sack", 54), ("_law_draw", 55), ("_law_one", 56), ("_law_gcd", 57), ("_law_ratio", 58), ("_law_less", 59), ("_law_spot", 60), ("_law_said", 61), ("_law_bend", 62), ("_law_chain", 63), ("_law_rim", 64), ("_law_dot", 65), ("_law_hunt", 66), ("_law_span", 67), ("_law_is_row", 68), ("_law_is_caught", 69), ("_law_are_sides", 70), ("_law_is_before", 71), ("_law_in_turn", 72), ("_law_rays", 73), ("_law_right", 74)]
def dsL2 : List (Str × Nat) := [("law", 75)]
def dsL : List (Str × Nat) := dsL0 ++ dsL1 ++ dsL2
def frL0 : List Str := ["isinstance", "int", "bool", "tuple", "len", "all", "enumerate", "list", "sorted", "set", "abs", "divmod", "range", "repr"]
def frL : List Str := frL0
def looseL0 : List Str := ["is_whole", "are_wholes", "common_divisor", "lowest", "is_lowest", "sign", "ratio", "ratio_less", "ratio_over", "is_lower", "higher_of", "lower_of", "is_vector", "step_between", "along", "bend", "side_at", "side_left", "value_at", "are_held", "chain", "is_left", "hull", "is_shape", "next_corner", "sides", "has", "check_point", "check_polygon", "closing_by"]
def looseL1 : List Str := ["is_good", "check_bearing", "closings_of", "is_strictly_in", "is_caught_from", "catches_always", "seen_from", "cone_sides", "bearing_sides", "_law_sack", "_law_draw", "_law_one", "_law_gcd", "_law_ratio", "_law_less", "_law_spot", "_law_said", "_law_bend", "_law_chain", "_law_rim", "_law_dot", "_law_hunt", "_law_span", "_law_is_row", "_law_is_caught", "_law_are_sides", "_law_is_before", "_law_in_turn", "_law_rays", "_law_right"]
def looseL2 : List Str := ["WindError", "InvalidPoint", "InvalidPolygon", "NoBearing", "NOUGHT", "ROUND"]
def looseL : List Str := looseL0 ++ looseL1 ++ looseL2
def dD (p : Str × Nat) : He.DefD := ⟨(p.1, none), p.1, p.1, fnArgs (topS p.2), fnBody (topS p.2), fnScope (topS p.2), [], []⟩
def fnL : List He.DefD := dsL.map dD
def faL : List He.Fa := dsL.map (fun p => He.Fa.glo p.1) ++ (frL.map He.Fa.free ++ [.glo "NOUGHT", .glo "ROUND"])

/-- a built-in function by its module name -/
def isBi (K : PySem.W.Frag) (x : Str) (b : String) : Bool := match PySem.W.nsIn K mainGlobals x with
  | some (some (.builtin c)) => decide (c = b)
  | _ => false
/-- a tuple of whole numbers at an address -/
def isTI (K : PySem.W.Frag) (ns : List Int) : Value → Bool
  | .ref a => (match K.lookup a with
    | some ⟨.type c, _, .seq its _, _⟩ => decide (c = "tuple") && (decide (its.size ≤ sizeLine) && He.relAll (ns.map V.int) its.toList)
    | _ => false)
  | _ => false
def allTI (K : PySem.W.Frag) : List (List Int) → List Value → Bool
  | [], [] => true
  | n :: ns, v :: vs => isTI K n v && allTI K ns vs
  | _, _ => false
def isTT (K : PySem.W.Frag) (ns : List (List Int)) (a : Addr) : Bool := match K.lookup a with
  | some ⟨.type c, _, .seq its _, _⟩ => decide (c = "tuple") && (decide (its.size ≤ sizeLine) && allTI K ns its.toList)
  | _ => false
def bxK (K : PySem.W.Frag) : Bool := isBi K "gcd" "math.gcd" && (isBi K "lcm" "math.lcm" && (isTI K [0, 0, 1] (.ref (He.ga K "NOUGHT")) && isTT K [[1, 0], [0, 1], [-1, 0], [0, -1]] (He.ga K "ROUND")))
abbrev AlX : Type := Bool × He.AlD
def obsX (fa : List He.Fa) (fn : List He.DefD) (K : PySem.W.Frag) : AlX := (bxK K, He.obsD fa fn K)
def valX (fn : List He.DefD) : AlX := (true, He.valD fn)
def obsXG (n : Nat) (fa : List He.Fa) (fn : List He.DefD) (g : Addr → Option Obj) : AlX := obsX fa fn (He.frG g (He.asD g n))
def hookX (n : Nat) (fa : List He.Fa) (fn : List He.DefD) : PySem.W.Hook where
  α := AlX
  obs := fun s => obsXG n fa fn s.heap.get?
  val := fun _ => valX fn
  says := fun _ h => ∃ K : PySem.W.Frag, K.In h ∧ bxK K = true ∧ He.SaysD fa fn K
  of := fun _ _ e => ⟨_, He.frG_in, congrArg Prod.fst e, congrArg Prod.snd e⟩
  keeps := fun _ _ _ ⟨K, hK, c⟩ k => ⟨K, PySem.W.Frag.In.keeps hK k, c⟩
theorem obsXG_eq {n : Nat} {fa : List He.Fa} {fn : List He.DefD} {g : Addr → Option Obj} {s : Shared} (h : ∀ a, g a = s.heap.get? a) : obsXG n fa fn g = (hookX n fa fn).obs s := by
  have e : g = s.heap.get? := funext h
  rw [e] <;> rfl
abbrev hkW : PySem.W.Hook := hookX 2 faL fnL
def obW (s : PySem.W.SharedT) : AlX := obsXG 2 faL fnL (HandSHeadRun.getT s)
theorem obW_eq (s : PySem.W.SharedT) : obW s = hkW.obs s.abs := obsXG_eq (HandSHeadRun.getT_eq s)
abbrev qvW : Program := PySem.W.view RW.prog [0, 75]
theorem hd_run (w : World) : HandSHeadRun.RunEqI RW qvW hkW obW 20000 looseL w := by
  unfold HandSHeadRun.RunEqI
  kernel_rfl
end Wf

namespace Wf
open PySem PySem.Spec PyProof.Rows L2 C8
section
variable {X : Cx} {ρ : Rho} {e a b elt tg iter : Expr} {ifs : List Expr} {scope : Scope} {es : List Expr} {pos p : Pos} {Q : PyData → Prop} {x : Str} {own : List (Str × Nat)} {n : Nat} {item : Nat → PyData} {g : TG} {st : PyData → Rho → Rho} {tok : PyData → Prop}
theorem jv_isT {T : Str} {d : PyData} {r : Bool} {p2 : Pos} (t m : String) (h : JV X a ρ d) (hg : Gl X "isinstance") (hm : X.mg "isinstance" = none) (hg2 : Gl X T) (hm2 : X.mg T = none) (ht : tyD d = t := by rfl) (hk : kitB t m = some r := by decide +kernel) (hb : bootBuiltins T = some (.type m) := by decide +kernel) (hn : T ≠ "__name__" := by decide) (hd : (T == ("__debug__" : Str)) = false := by decide)
    (h1 : starEach [a, .Name T p2] X.env = (false, eval a X.env) :: starEach [.Name T p2] X.env := by rfl) (h2 : starEach [.Name T p2] X.env = (false, eval (.Name T p2) X.env) :: starEach [] X.env := by rfl) (hpl : (backTo pos (starEach [.Name T p2] X.env)).any (·.1) = false := by rfl) :
    JV X (.Call (.Name "isinstance" p) [a, .Name T p2] [] pos) ρ (.bool r) := jv_isi (n := m) h (by rw [ht]; exact hk) hg hm hg2 hm2 hb hn hd h1 h2 hpl
theorem blk_by (N : List Str) (sc : Scope) (h : blkC N sc scope own = true) (hN : X.N = N := by rfl) (hs : X.env.scope = sc := by rfl) : BlkOk X.N X.env.scope scope own := by
  rw [hN, hs]
  exact blkOk_by h
theorem JN.imp {Q Q' : List PyData → Prop} (h : JN X e ρ Q) (i : ∀ ds, Q ds → Q' ds) : JN X e ρ Q' := fun B F H σ k f bb S q => h B F H σ k f bb S fun a vs ds F' H' pd => q a vs ds F' H' (i ds pd)
/-- [elt for target in iter], each item known -/
theorem jn_mapV (own : List (Str × Nat)) (out : Nat → PyData) (hi : JI X tg iter ρ n item) (hg : ∀ s H C cl fp, PG (Blk X scope s H C cl fp) tg g) (tgo : TgOk X.K (own.map (·.2)) g st tok) (hn : n < 100000)
    (step : ∀ i, i < n → tok (item i) ∧ ∀ s H C cl fp, JE (Blk X scope s H C cl fp) elt (st (item i) (forget (own.map (·.2)) ρ)) (· = out i))
    (hN : X.N.Nodup) (ok : BlkOk X.N X.env.scope scope own) (hno : noMut (own.map (·.2)) ρ = true := by rfl) (hc : X.calm = true := by rfl) (hs : ∀ x, foldedSetIterable iter X.env x = pure x := by intro _; rfl) : JN X (.ListComp elt [⟨tg, iter, [], 0⟩] scope pos) ρ (· = (List.range n).map out) := by
  refine JN.imp (Q := fun ds => ds = (List.range n).map out ∧ n ≤ n) ?_ fun ds h => h.1
  exact jn_lc (Pd := fun i ds => ds = (List.range i).map out ∧ i ≤ n) hi hg tgo ⟨rfl, Nat.zero_le _⟩ (fun i ds h => by rw [h.1, List.length_map, List.length_range]; omega) (fun i ds hi h => ⟨(step i hi).1, (· = true), jtb fun _ _ _ _ _ => jts_nil, (fun h => by cases h), fun _ => (fun B F H σ k ff bb S q => jeb (step i hi).2 B F H σ k ff bb S fun v d F' H' e => q v d F' H' (by
    subst e
    refine ⟨?_, hi⟩
    rw [h.1, List.range_succ, List.map_append]
    rfl))⟩) hN hno ok hc hs
/-- .. of which something is known -/
theorem jn_mapR (own : List (Str × Nat)) (R : Nat → PyData → Prop) (hi : JI X tg iter ρ n item) (hg : ∀ s H C cl fp, PG (Blk X scope s H C cl fp) tg g) (tgo : TgOk X.K (own.map (·.2)) g st tok) (hn : n < 100000)
    (step : ∀ i, i < n → tok (item i) ∧ ∀ s H C cl fp, JE (Blk X scope s H C cl fp) elt (st (item i) (forget (own.map (·.2)) ρ)) (R i))
    (hN : X.N.Nodup) (ok : BlkOk X.N X.env.scope scope own) (hno : noMut (own.map (·.2)) ρ = true := by rfl) (hc : X.calm = true := by rfl) (hs : ∀ x, foldedSetIterable iter X.env x = pure x := by intro _; rfl) : JN X (.ListComp elt [⟨tg, iter, [], 0⟩] scope pos) ρ (fun ds => ds.length = n ∧ ∀ i, i < n → ∃ d, ds[i]? = some d ∧ R i d) := by
  refine JN.imp (Q := fun ds => (ds.length = n ∧ n ≤ n) ∧ ∀ i, i < n → ∃ d, ds[i]? = some d ∧ R i d) ?_ fun ds h => ⟨h.1.1, h.2⟩
  exact jn_lc (Pd := fun m ds => (ds.length = m ∧ m ≤ n) ∧ ∀ i, i < m → ∃ d, ds[i]? = some d ∧ R i d) hi hg tgo ⟨⟨rfl, Nat.zero_le _⟩, fun i hi => absurd hi (Nat.not_lt_zero i)⟩ (fun i ds h => by omega) (fun m ds hm h => ⟨(step m hm).1, (· = true), jtb fun _ _ _ _ _ => jts_nil, (fun h => by cases h), fun _ => (fun B F H σ k ff bb S q => jeb (step m hm).2 B F H σ k ff bb S fun v d F' H' e => q v d F' H' (by
    refine ⟨⟨by rw [List.length_append, h.1.1]; rfl, hm⟩, fun i hi => ?_⟩
    by_cases c : i < m
    · obtain ⟨d', e', r'⟩ := h.2 i c
      exact ⟨d', by rw [List.getElem?_append_left (by rw [h.1.1]; exact c)]; exact e', r'⟩
    · have : i = m := by omega
      subst this
      exact ⟨d, by rw [List.getElem?_append_right (by rw [h.1.1]; exact Nat.le_refl _), h.1.1, Nat.sub_self]; rfl, e⟩))⟩) hN hno ok hc hs
/-- a thing to walk of which something is known -/
def JIx {β : Type} (X : Cx) (tg iter : Expr) (ρ : Rho) (px : β → Prop) (nn : β → Nat) (it : β → Nat → PyData) : Prop :=
  ∀ (B F H : Hp) (σ : L2.St) (R : It → Hp → Prop), Same F H → Same B H → Slots X.K B F H σ ρ → (∀ J F' H' x, px x → Grow B F F' H' → Slots X.K B F' H' σ ρ → Wk X.K F' J (nn x) (it x) → R J H') → wI X tg iter σ H R
theorem jix_list {β : Type} {px : β → Prop} (ds : β → List PyData) (h : JE X iter ρ fun d => ∃ x, px x ∧ d = .list (ds x)) : JIx X tg iter ρ px (fun x => (ds x).length) (fun x i => (ds x).getD i .none) := fun B F H σ R f bb S q => by
  refine toI (pi_list pE) ?_
  refine h B F H σ _ f bb S fun v d F1 H1 e g1 S1 d1 => ?_
  obtain ⟨x, hx, rfl⟩ := e
  obtain ⟨a, vs, rfl, hs, hv⟩ := d1.lst_
  refine ⟨a, rfl, ⟨vs, sqL_same g1.fh hs⟩, q _ F1 H1 x hx g1 S1 ⟨fun i H' hi hh => ?_, fun H' hh => ⟨vs, sqL_same hh hs, by rw [hv.length]; exact Nat.le_refl _⟩, fun i F2 H2 y H3 hi h1 h2 yl => ?_⟩⟩
  · have hl : i < vs.length := by rw [hv.length]; exact hi
    exact ⟨vs, vs[i], sqL_same hh hs, by simp [hl]⟩
  · obtain ⟨rfl, yl⟩ := yl
    have e := yl vs (sqL_same (h1.trans h2) hs)
    obtain ⟨d, ed, hd⟩ := hv.get' e
    refine ⟨F2, Grow.refl h2 (Same.refl _), ?_⟩
    have : (ds x).getD i .none = d := by rw [List.getD_eq_getElem?_getD, ed]; rfl
    show Dp X.K F2 y ((ds x).getD i .none)
    rw [this]
    exact hd.same h1
theorem jix_range {a : Expr} {p : Pos} {px : Nat → Prop} (h : JE X a ρ fun d => ∃ n : Nat, px n ∧ d = .int n) (hb : ∀ n, px n → n ≤ 100000) (hm : X.mg "range" = none) (hg : Gl X "range" := by rfl) (hs : starEach [a] X.env = [(false, eval a X.env)] := by rfl) (s1 : starEach [a] X.env = (false, eval a X.env) :: starEach [] X.env := by rfl) :
    JIx X tg (.Call (.Name "range" p) [a] [] pos) ρ px (fun n => n) (fun _ i => .int i) := fun B F H σ R f bb S q => by
  refine toI (pi_range1 hg hm pA hs) ?_
  have ja : JA X [a] ρ fun ds => ∃ n : Nat, px n ∧ ds = [.int n] := ja_cons h (fun d hd => ja_nil (by obtain ⟨n, hn, e⟩ := hd; exact ⟨n, hn, by rw [e]⟩)) s1
  refine ja B F H σ _ f bb S fun vs ds F1 H1 e g1 S1 d1 => ?_
  obtain ⟨n, hn, rfl⟩ := e
  obtain ⟨v, rfl, dv⟩ := rc_one d1
  rw [dv.int_]
  have := hb n hn
  refine ⟨n, rfl, by omega, by omega, ?_⟩
  have e : (n : Int).toNat = n := by omega
  rw [e]
  refine q _ F1 H1 n hn g1 S1 ⟨fun i H' hi hh => hi, fun H' hh => Nat.le_refl _, fun i F2 H2 x H3 hi h1 h2 y => ?_⟩
  obtain ⟨rfl, rfl⟩ := y
  refine ⟨F2, Grow.refl h2 (Same.refl _), ?_⟩
  have : (0 : Int) + (i : Int) = i := by omega
  rw [this]
  exact .int _
/-- [elt for target in iter if ..], over what is walked -/
theorem jn_lcX {β : Type} {px : β → Prop} {nn : β → Nat} {it : β → Nat → PyData} {Qf : List PyData → Prop} (own : List (Str × Nat)) (Pd : β → Nat → List PyData → Prop) (hi : JIx X tg iter ρ px nn it) (hg : ∀ s H C cl fp, PG (Blk X scope s H C cl fp) tg g) (tgo : TgOk X.K (own.map (·.2)) g st tok) (h0 : ∀ x, px x → Pd x 0 []) (hlen : ∀ x i ds, px x → Pd x i ds → ds.length < 100000)
    (step : ∀ x i ds, px x → i < nn x → Pd x i ds → tok (it x i) ∧ ∃ Pt : Bool → Prop, JTb X scope ifs (st (it x i) (forget (own.map (·.2)) ρ)) Pt ∧ (Pt false → Pd x (i + 1) ds) ∧ (Pt true → JEb X scope elt (st (it x i) (forget (own.map (·.2)) ρ)) fun d => Pd x (i + 1) (ds ++ [d])))
    (fin : ∀ x ds, px x → Pd x (nn x) ds → Qf ds) (hN : X.N.Nodup) (ok : BlkOk X.N X.env.scope scope own) (hno : noMut (own.map (·.2)) ρ = true := by rfl) (hc : X.calm = true := by rfl) (hs : ∀ x, foldedSetIterable iter X.env x = pure x := by intro _; rfl) : JN X (.ListComp elt [⟨tg, iter, ifs, 0⟩] scope pos) ρ Qf := fun B F H σ k f bb S q =>
  toE (pe_lc hc hN pI ok hg pbT pbE hs) (hi B F H σ _ f bb S fun J F' H' x p g1 S1 wk =>
    lc_body (Pd x) (n := nn x) (item := it x) tgo (h0 x p) (noMut_ok hno) (fun i ds => hlen x i ds p) (fun i ds hi pd => step x i ds p hi pd) g1.fh g1.bh S1 wk fun a vs ds F3 H3 pd g3 => q a vs ds F3 H3 (fin x ds p pd) (g1.trans g3))
theorem jix_of (h : JI X tg iter ρ n item) : JIx X tg iter ρ (fun _ : Unit => True) (fun _ => n) (fun _ => item) := fun B F H σ R f bb S q => h B F H σ R f bb S fun J F' H' g S' wk => q J F' H' () trivial g S' wk
/-- x = [elt for target in iter if ..], over what is walked: a list of one's own -/
theorem jb_setLcX {β : Type} {px : β → Prop} {nn : β → Nat} {it : β → Nat → PyData} {A : AE} {rest : List Stmt} {px' spos : Pos} (i : Nat) (own : List (Str × Nat)) (Pd : β → Nat → List PyData → Prop) (hi : JIx X tg iter ρ px nn it) (hg : ∀ s H C cl fp, PG (Blk X scope s H C cl fp) tg g) (tgo : TgOk X.K (own.map (·.2)) g st tok) (h0 : ∀ x, px x → Pd x 0 []) (hlen : ∀ x i ds, px x → Pd x i ds → ds.length < 100000)
    (step : ∀ x i ds, px x → i < nn x → Pd x i ds → tok (it x i) ∧ ∃ Pt : Bool → Prop, JTb X scope ifs (st (it x i) (forget (own.map (·.2)) ρ)) Pt ∧ (Pt false → Pd x (i + 1) ds) ∧ (Pt true → JEb X scope elt (st (it x i) (forget (own.map (·.2)) ρ)) fun d => Pd x (i + 1) (ds ++ [d])))
    (k : ∀ x ds, px x → Pd x (nn x) ds → JB X rest (ρ.set i (.own ds)) A) (hN : X.N.Nodup) (ok : BlkOk X.N X.env.scope scope own) (hno : noMut (own.map (·.2)) ρ = true := by rfl) {y : Str} (hsw : swapsWith (.ListComp elt [⟨tg, iter, ifs, 0⟩] scope pos) (some (.Name y px')) spos.line X.env = pure true := by rfl)
    (hc : X.calm = true := by rfl) (hy : X.N[i]? = some y := by rfl) (hyl : X.env.scope.names.lookup y = some .local := by rfl) (hs : ∀ x, foldedSetIterable iter X.env x = pure x := by intro _; rfl) :
    JB X (.Assign [.Name y px'] (.ListComp elt [⟨tg, iter, ifs, 0⟩] scope pos) spos :: rest) ρ A := fun B F H σ D f bb S R => by
  refine toB (pss_cons (ps_setLc hc hN hy hyl hsw pI ok hg pbT pbE hs) pB) ?_
  refine hi B F H σ _ f bb S fun J F' H' x p g1 S1 wk => ?_
  exact lc_body (k := fun v H1 => wB X rest D (σ.set i (some v)) H1) (Pd x) (n := nn x) (item := it x) tgo (h0 x p) (noMut_ok hno) (fun i ds => hlen x i ds p) (fun i ds hi pd => step x i ds p hi pd) g1.fh g1.bh S1 wk fun a vs ds F3 H3 pd g3 S3 b3 f3 h3 d3 hm =>
    k x ds p pd B F3 H3 _ D g3.fh g3.bh (S3.own_put b3 f3 h3 d3 hm) (R.up (g1.trans g3))
/-- .. each item known -/
theorem jb_setMapV {A : AE} {rest : List Stmt} {px' spos : Pos} (i : Nat) (own : List (Str × Nat)) (out : Nat → PyData) (hi : JI X tg iter ρ n item) (hg : ∀ s H C cl fp, PG (Blk X scope s H C cl fp) tg g) (tgo : TgOk X.K (own.map (·.2)) g st tok) (hn : n < 100000)
    (step : ∀ i, i < n → tok (item i) ∧ ∀ s H C cl fp, JE (Blk X scope s H C cl fp) elt (st (item i) (forget (own.map (·.2)) ρ)) (· = out i))
    (k : JB X rest (ρ.set i (.own ((List.range n).map out))) A) (hN : X.N.Nodup) (ok : BlkOk X.N X.env.scope scope own) (hno : noMut (own.map (·.2)) ρ = true := by rfl) {y : Str} (hsw : swapsWith (.ListComp elt [⟨tg, iter, [], 0⟩] scope pos) (some (.Name y px')) spos.line X.env = pure true := by rfl)
    (hc : X.calm = true := by rfl) (hy : X.N[i]? = some y := by rfl) (hyl : X.env.scope.names.lookup y = some .local := by rfl) (hs : ∀ x, foldedSetIterable iter X.env x = pure x := by intro _; rfl) :
    JB X (.Assign [.Name y px'] (.ListComp elt [⟨tg, iter, [], 0⟩] scope pos) spos :: rest) ρ A :=
  jb_setLcX i own (fun (_ : Unit) m ds => ds = (List.range m).map out ∧ m ≤ n) (jix_of hi) hg tgo (fun _ _ => ⟨rfl, Nat.zero_le _⟩) (fun _ m ds _ h => by rw [h.1, List.length_map, List.length_range]; omega) (fun _ m ds _ hm h => ⟨(step m hm).1, (· = true), jtb fun _ _ _ _ _ => jts_nil, (fun h => by cases h), fun _ => (fun B F H σ k ff bb S q => jeb (step m hm).2 B F H σ k ff bb S fun v d F' H' e => q v d F' H' (by
    subst e
    refine ⟨?_, hm⟩
    rw [h.1, List.range_succ, List.map_append]
    rfl))⟩) (fun _ ds _ h => by rw [h.1]; exact k) hN ok hno hsw hc hy hyl hs
/-- all([..]) -/
theorem je_allV {n : Nat} {f : Nat → Bool} (h : JN X a ρ (· = (List.range n).map fun i => PyData.bool (f i))) (hg : Gl X "all") (hm : X.mg "all" = none) (q : Q (.bool ((List.range n).all f))) (hc : X.calm = true := by rfl) (hs : starEach [a] X.env = (false, eval a X.env) :: starEach [] X.env := by rfl) (hpl : (backTo pos (starEach [] X.env)).any (·.1) = false := by rfl) : JE X (.Call (.Name "all" p) [a] [] pos) ρ Q :=
  je_all (JN.je h fun ds e => ⟨(List.range n).map f, by rw [e, List.map_map]; rfl, by rw [List.all_map]; exact q⟩) hg hm hc hs hpl
end
/-! ### calls, the def told first -/
section
variable {P : Program} {w : World} {K : PySem.W.Frag} {mg : Str → Option Value} {base : Heap} {α : Type} {args : α → List PyData} {pre : α → Prop} {post : α → PyData → Prop} {X : Cx} {ρ : Rho} {e : Expr} {es : List Expr} {kws : List Keyword} {pos p ps : Pos} {x s : Str} {k j : Nat} {ds : List PyData}
theorem je_cV (c : Cal P w K mg base k x (spD K args pre post) []) (hr : Room j X.A) (y : α) (ha : JAV X (e :: es) ρ ds) (hp : pre y) (hy : ds = args y := by rfl) (hk : k ≤ j := by decide) (hg : Gl X x := by rfl)
    (hdb : (x == ("__debug__" : Str)) = false := by decide) (he : starEach (e :: es) X.env = (false, eval e X.env) :: starEach es X.env := by rfl) (hpl : (backTo pos (starEach es X.env)).any (·.1) = false := by rfl)
    (e1 : X.prog = P := by rfl) (e2 : X.w = w := by rfl) (e3 : X.K = K := by rfl) (e4 : X.mg = mg := by rfl) (e5 : X.base = base := by rfl) : JE X (.Call (.Name x p) (e :: es) [] pos) ρ (post y) := by
  subst e1 e2 e3 e4 e5
  exact je_callV c hr hg y ha hy hp hk hdb he hpl
theorem je_cR {R : List PyData → Prop} {Q : PyData → Prop} (c : Cal P w K mg base k x (spD K args pre post) []) (hr : Room j X.A) (ha : JA X (e :: es) ρ R) (h : ∀ ds, R ds → ∃ y, ds = args y ∧ pre y ∧ ∀ d, post y d → Q d) (hk : k ≤ j := by decide) (hg : Gl X x := by rfl)
    (hdb : (x == ("__debug__" : Str)) = false := by decide) (he : starEach (e :: es) X.env = (false, eval e X.env) :: starEach es X.env := by rfl) (hpl : (backTo pos (starEach es X.env)).any (·.1) = false := by rfl)
    (e1 : X.prog = P := by rfl) (e2 : X.w = w := by rfl) (e3 : X.K = K := by rfl) (e4 : X.mg = mg := by rfl) (e5 : X.base = base := by rfl) : JE X (.Call (.Name x p) (e :: es) [] pos) ρ Q := by
  subst e1 e2 e3 e4 e5
  exact je_call c hr hk hg ha h hdb he hpl
theorem je_cS {o : Addr} (c : Cal P w K mg base k x (spS K args pre post) []) (hr : Room j X.A) (i : Nat) (hsl : ρ[i]? = some (.sack o)) (y : α) (ha : JAV X es ρ ds) (hp : pre y) (hy : ds = args y := by rfl) (hk : k ≤ j := by decide) (hg : Gl X x := by rfl)
    (hN : X.N[i]? = some s := by rfl) (hv : Vis X.env.scope s := by first | exact Or.inl rfl | exact Or.inr (Or.inl rfl) | exact Or.inr (Or.inr rfl)) (hd : (s == ("__debug__" : Str)) = false := by decide) (hcd : (s == ("__classdict__" : Str)) = false := by decide)
    (hdb : (x == ("__debug__" : Str)) = false := by decide) (he : starEach (.Name s ps :: es) X.env = (false, eval (.Name s ps) X.env) :: starEach es X.env := by rfl) (hpl : (backTo pos (starEach es X.env)).any (·.1) = false := by rfl)
    (e1 : X.prog = P := by rfl) (e2 : X.w = w := by rfl) (e3 : X.K = K := by rfl) (e4 : X.mg = mg := by rfl) (e5 : X.base = base := by rfl) : JE X (.Call (.Name x p) (.Name s ps :: es) [] pos) ρ (post y) := by
  subst e1 e2 e3 e4 e5
  exact je_callS i c hr hg hsl y ha hy hp hk hN hv hd hcd hdb he hpl
theorem je_cK {ks : List Str} {g : List Value → List Value → List Value} {gV : List V → List V → List V} (c : CalK P w K mg base k x ks g gV (spD K args pre post)) (hr : Room j X.A) (y : α) (ha : JK X kws ρ ds) (hp : pre y) (hy : ∀ (H : Hp) vs, DpAll K H vs ds → DpAll K H (gV [] vs) (args y)) (hk : k ≤ j := by decide) (hg : Gl X x := by rfl)
    (hall : (backToKw pos (keywordEach kws X.env)).all (·.1.isSome) = true := by rfl) (hks : (backToKw pos (keywordEach kws X.env)).filterMap (·.1) = ks := by rfl)
    (hpl : ((backTo pos (starEach [] X.env)).any (·.1) || (backToKw pos (keywordEach kws X.env)).any (·.1.isNone)) = false := by rfl) (hdb : (x == ("__debug__" : Str)) = false := by decide)
    (e1 : X.prog = P := by rfl) (e2 : X.w = w := by rfl) (e3 : X.K = K := by rfl) (e4 : X.mg = mg := by rfl) (e5 : X.base = base := by rfl) : JE X (.Call (.Name x p) [] kws pos) ρ (post y) := by
  subst e1 e2 e3 e4 e5
  exact je_callKw c hr hg y ha hy hp hk hall hks hpl hdb
end
theorem range_map {α β : Type} (L : List α) (d : α) (g : α → β) : (List.range L.length).map (fun i => g (L.getD i d)) = L.map g := by
  apply List.ext_getElem
  · simp
  · intro i h1 h2
    have : i < L.length := by simpa using h1
    simp [this]
theorem range_all {α : Type} (L : List α) (d : α) (g : α → Bool) : (List.range L.length).all (fun i => g (L.getD i d)) = L.all g := by
  have e := congrArg (fun l : List Bool => l.all id) (range_map L d g)
  simpa [List.all_map, Function.comp_def] using e
theorem getD_map {α : Type} (L : List α) (f : α → PyData) (d : α) {i : Nat} (h : i < L.length) : (L.map f).getD i .none = f (L.getD i d) := by
  simp [h]
end Wf

namespace Wf
open PySem PySem.Spec PyProof.Rows L2
/-! ### displays of numbers, in one go -/
def litL (f : Expr → Option PyData) : List Expr → Option (List PyData)
  | [] => some []
  | e :: es => (f e).bind fun d => (litL f es).map fun ds => d :: ds
def litD : Nat → Expr → Option PyData
  | n + 1, .Constant (.int i) _ _ => some (.int i)
  | n + 1, .UnaryOp .USub (.Constant (.int i) _ _) _ => some (.int (-i))
  | n + 1, .Tuple es _ _ => (litL (litD n) es).bind fun ds => if ds.length ≤ 1000 then some (.tuple ds) else none
  | n + 1, .List es _ => (litL (litD n) es).bind fun ds => if ds.length ≤ 1000 then some (.list ds) else none
  | _, _ => none
theorem lit_star {X : Cx} {n : Nat} {e : Expr} {d : PyData} (h : litD n e = some d) (es : List Expr) : starEach (e :: es) X.env = (false, eval e X.env) :: starEach es X.env := by
  unfold litD at h
  split at h
  · rfl
  · rfl
  · rfl
  · rfl
  · cases h
theorem lit_ok {X : Cx} {ρ : Rho} : ∀ (n : Nat) {e : Expr} {d : PyData}, litD n e = some d → JV X e ρ d
  | 0, e, d, h => by simp [litD] at h
  | n + 1, e, d, h => by
    have all : ∀ (es : List Expr) (ds : List PyData), litL (litD n) es = some ds → JAV X es ρ ds := by
      intro es
      induction es with
      | nil =>
        intro ds q
        cases q
        exact jav_nil
      | cons a es ih =>
        intro ds q
        rw [litL, Option.bind_eq_some_iff] at q
        obtain ⟨d1, q1, q2⟩ := q
        rw [Option.map_eq_some_iff] at q2
        obtain ⟨ds1, q2, rfl⟩ := q2
        exact jav_cons (lit_ok n q1) (ih ds1 q2) (lit_star q1 es)
    unfold litD at h
    split at h
    · rename_i n' i x1 x2 q1
      cases h
      exact jv_int
    · rename_i n' i x1 x2 x3 q1
      cases h
      exact jv_neg jv_int
    · rename_i n' es x1 x2 q1
      have q1 : n = n' := by simpa using q1
      subst q1
      rw [Option.bind_eq_some_iff] at h
      obtain ⟨ds, h1, h2⟩ := h
      split at h2
      · rename_i hl
        cases h2
        exact jv_tup (all es ds h1) (Nat.le_trans hl (by decide))
      · cases h2
    · rename_i n' es x1 q1
      have q1 : n = n' := by simpa using q1
      subst q1
      rw [Option.bind_eq_some_iff] at h
      obtain ⟨ds, h1, h2⟩ := h
      split at h2
      · rename_i hl
        cases h2
        exact jv_lst (all es ds h1) (Nat.le_trans hl (by decide))
      · cases h2
    · cases h
theorem Real.nxI {K : PySem.W.Frag} {B F : Hp} {A : AE} {M N : Rho → Prop} {D : Ends} (i : ∀ ρ, M ρ → N ρ) (R : Real K B F { A with nx := N } D) : Real K B F { A with nx := M } D :=
  ⟨fun ρ' σ' F' H' a g S => R.nx ρ' σ' F' H' (i ρ' a) g S, R.rt, R.bk, R.ct, R.ro⟩
/-- if, no else, and what holds behind it -/
theorem jb_whenP {X : Cx} {c : Expr} {a rest : List Stmt} {ρ : Rho} {A : AE} {pos : Pos} {P : Bool → Prop} (M : Rho → Prop) (h : JT X c ρ P) (h1 : P true → JB X a ρ { A with nx := M }) (h0 : P false → M ρ) (hk : ∀ ρ', M ρ' → JB X rest ρ' A) : JB X (.If c a [] pos :: rest) ρ A :=
  jb_when h (fun e B F H σ D f bb S R => h1 e B F H σ D f bb S (R.nxI hk)) fun e => hk _ (h0 e)
theorem jb_whenM {X : Cx} {c : Expr} {a rest : List Stmt} {ρ : Rho} {A : AE} {pos : Pos} {k : Bool} (M : Rho → Prop) (h : JTV X c ρ k) (h1 : k = true → JB X a ρ { A with nx := M }) (h0 : k = false → M ρ) (hk : ∀ ρ', M ρ' → JB X rest ρ' A) : JB X (.If c a [] pos :: rest) ρ A :=
  jb_whenP M h (fun e => h1 e.symm) (fun e => h0 e.symm) hk
/-- the slots written out -/
theorem jb_is {X : Cx} {ρ : Rho} {A : AE} {rest : List Stmt} (ρ' : Rho) (h : JB X rest ρ' A) (e : ρ = ρ' := by rfl) : JB X rest ρ A := by rw [e]; exact h
theorem je_is {X : Cx} {ρ : Rho} {e : Expr} {Q : PyData → Prop} (ρ' : Rho) (h : JE X e ρ' Q) (q : ρ = ρ' := by rfl) : JE X e ρ Q := by rw [q]; exact h
end Wf

namespace Wf
open PySem PySem.Spec PyProof.Rows L2 C8
/-! ### whole numbers in rows -/
abbrev tI (ns : List Int) : PyData := .tuple (ns.map PyData.int)
def sgn (n : Int) : Int := PyProof.Rows.b2i (decide (0 < n)) - PyProof.Rows.b2i (decide (n < 0))
theorem all_true {n : Nat} : (List.range n).all (fun _ => true) = true := List.all_eq_true.mpr fun _ _ => rfl
section
variable {P : Program} {w : World} {K : PySem.W.Frag} {mg : Str → Option Value} {base : Heap} (T : Txt K mg)
include T
theorem c_is_whole : Cal P w K mg base 1 "is_whole" (spD K (α := Int) (fun i => [.int i]) (fun _ => True) fun _ d => d = .bool true) [] := by
  refine cal_mk' T.d_is_whole sc_is_whole (fun _ => rfl) fun i _ f cdv A outer s H E hr => ?_
  exact jb_ret (JV.to (jv_and2 (jv_isT (r := true) "int" "int" (jv_var 0 rfl) rfl T.b_isinstance rfl T.b_int) fun _ => jv_not (jv_isT (r := false) "int" "bool" (jv_var 0 rfl) rfl T.b_isinstance rfl T.b_bool)) rfl)
theorem c_are_wholes : Cal P w K mg base 2 "are_wholes" (spD K (α := List Int) (fun ns => [tI ns, .int ns.length]) (fun ns => ns.length < 100) fun _ d => d = .bool true) [] := by
  refine cal_mk' T.d_are_wholes sc_are_wholes (fun _ => rfl) fun ns hn f cdv A outer s H E hr => ?_
  have cW := c_is_whole (P := P) (w := w) (base := base) T
  refine jb_ret (je_and (P := (· = true)) (JV.to (jv_isT (r := true) "tuple" "tuple" (jv_var 0 rfl) rfl T.b_isinstance rfl T.b_tuple) ⟨_, rfl, rfl⟩) (fun h => by cases h) fun _ => ?_)
  refine je_and (P := (· = true)) (JV.to (jv_eq (jv_lenT (jv_var 0 rfl) rfl T.b_len) (jv_var 1 rfl)) ⟨_, rfl, by simp⟩) (fun h => by cases h) fun _ => je_one ?_
  refine je_allV (n := ns.length) (f := fun _ => true) ?_ rfl T.b_all (by rw [all_true])
  refine JN.imp (jn_mapV [("number", 2)] (fun _ => .bool true) (ji_tup (jv_var 0 rfl)) (fun _ _ _ _ _ => pg_name (i := 2) sc_are_wholes.nd rfl (Or.inl rfl)) (tg_name (by decide)) (by simp; omega) (fun i hi => ⟨trivial, fun s H C cl fp => ?_⟩) sc_are_wholes.nd (blk_by N_are_wholes (fnScope s_are_wholes) (by decide +kernel))) (fun ds h => by rw [h]; simp)
  have hi' : i < ns.length := by simpa using hi
  exact je_cV cW hr (ns.getD i 0) (jav_cons (jv_var 2 (by rw [getD_map ns PyData.int 0 hi']; rfl)) jav_nil) trivial
theorem c_common_divisor : Cal P w K mg base 1 "common_divisor" (spD K (α := List Int) (fun ns => [tI ns]) (fun ns => ns.length < 100) fun ns d => d = .int (gcdl ns)) [] := by
  refine cal_mk' T.d_common_divisor sc_common_divisor (fun _ => rfl) fun ns hn f cdv A outer s H E hr => ?_
  refine jb_setV 1 jv_int ?_ sc_common_divisor.nd
  refine jb_for (fun i ρ => ∃ y, ρ = [.val (tI ns), .val (.int (gcdl (ns.take i))), y]) (ji_tup (jv_var 0 rfl)) ⟨.no, rfl⟩ (fun i ρ hi ⟨y, e⟩ => ?_) (fun ρ ⟨y, e⟩ => ?_)
  · subst e
    have hi' : i < ns.length := by simpa using hi
    refine jg_name 2 ?_ sc_common_divisor.nd
    have e : gcdl (ns.take (i + 1)) = ((Nat.gcd (gcdl (ns.take i)).natAbs (ns.getD i 0).natAbs : Nat) : Int) := by
      rw [List.take_succ, List.getD_eq_getElem?_getD, List.getElem?_eq_getElem hi']
      unfold gcdl
      rw [List.foldl_append]
      rfl
    rw [e]
    exact jb_setV 1 (jv_gcd (jv_var 1 rfl) (jv_var 2 (by rw [getD_map ns PyData.int 0 hi']; rfl)) rfl T.b_gcd) (jb_nil [] ⟨_, rfl⟩) sc_common_divisor.nd
  · subst e
    refine jb_ret (JV.to (jv_var 1 rfl) ?_)
    have : (ns.map PyData.int).length = ns.length := by simp
    rw [this, List.take_length]
theorem c_lowest : Cal P w K mg base 2 "lowest" (spD K (α := List Int) (fun ns => [tI ns]) (fun ns => ns.length < 100 ∧ 0 < gcdl ns ∧ Bd 4000 (gcdl ns)) fun ns d => d = tI (ns.map (· / gcdl ns))) [] := by
  refine cal_mk' T.d_lowest sc_lowest (fun _ => rfl) fun ns hn f cdv A outer s H E hr => ?_
  obtain ⟨hn, h0, hb⟩ := hn
  have cD := c_common_divisor (P := P) (w := w) (base := base) T
  refine jb_set 1 (je_cV cD hr ns (jav_cons (jv_var 0 rfl) jav_nil) hn) (fun d e => ?_) sc_lowest.nd
  subst e
  refine jb_ret (JV.to (jv_tupleL ?_ rfl T.b_tuple) rfl)
  
  refine JN.je (jn_mapV [("number", 2)] (fun i => .int (ns.getD i 0 / gcdl ns)) (ji_tup (jv_var 0 rfl)) (fun _ _ _ _ _ => pg_name (i := 2) sc_lowest.nd rfl (Or.inl rfl)) (tg_name (by decide)) (by simp; omega) (fun i hi => ⟨trivial, fun s H C cl fp => ?_⟩) sc_lowest.nd (blk_by N_lowest (fnScope s_lowest) (by decide +kernel))) (fun ds h => ?_)
  · have hi' : i < ns.length := by simpa using hi
    exact jv_fdiv (jv_var 2 (by rw [getD_map ns PyData.int 0 hi']; rfl)) (jv_var 1 rfl) h0
  · rw [h]
    have : (ns.map PyData.int).length = ns.length := by simp
    rw [this, range_map ns 0 fun n => PyData.int (n / gcdl ns), List.map_map]
    rfl
theorem c_is_lowest : Cal P w K mg base 2 "is_lowest" (spD K (α := List Int) (fun ns => [tI ns]) (fun ns => ns.length < 100) fun ns d => d = .bool (decide (gcdl ns = 1))) [] := by
  refine cal_mk' T.d_is_lowest sc_is_lowest (fun _ => rfl) fun ns hn f cdv A outer s H E hr => ?_
  have cD := c_common_divisor (P := P) (w := w) (base := base) T
  exact jb_ret (JV.to (jv_eq (je_cV cD hr ns (jav_cons (jv_var 0 rfl) jav_nil) hn) jv_int) rfl)
theorem c_sign : Cal P w K mg base 1 "sign" (spD K (α := Int) (fun n => [.int n]) (fun _ => True) fun n d => d = .int (sgn n)) [] := by
  refine cal_mk' T.d_sign sc_sign (fun _ => rfl) fun n _ f cdv A outer s H E hr => ?_
  exact jb_ret (JV.to (jv_subB (jv_gt (jv_var 0 rfl) jv_int) (jv_lt (jv_var 0 rfl) jv_int)) rfl)
end
end Wf

namespace Wf
open PySem PySem.Spec PyProof.Rows L2 C8
theorem Bd.le {k : Nat} {x y : Int} (h : Bd k y) (l : x.natAbs ≤ y.natAbs) : Bd k x := ⟨Nat.lt_of_le_of_lt l h.lt⟩
theorem Bd.up {k : Nat} (m : Nat) {x : Int} (h : Bd k x) (l : k ≤ m := by decide) : Bd m x := h.mono l
/-- r is o / u reduced -/
structure Rt (o u : Int) (r : Pt) : Prop where
  pos : 0 < r.2
  eq : r.1 * u = o * r.2
  b1 : r.1.natAbs ≤ o.natAbs
  b2 : r.2.natAbs ≤ u.natAbs
theorem rt_low {o u : Int} (h : 0 < u) : 0 < gcdl [o, u] ∧ Rt o u (o / gcdl [o, u], u / gcdl [o, u]) := by
  have g0 : 0 < gcdl [o, u] := gcdl_pos (n := u) (by simp) (by omega)
  obtain ⟨a1, a2⟩ := low_at g0 (n := o) (by simp)
  obtain ⟨b1, b2⟩ := low_at g0 (n := u) (by simp)
  refine ⟨g0, ?_, ?_, a2, b2⟩
  · generalize gcdl [o, u] = g at *
    have : 0 < g * (u / g) := by rw [b1]; exact h
    exact pos_of_mul g0 this
  · generalize gcdl [o, u] = g at *
    show o / g * u = o * (u / g)
    generalize o / g = x at *
    generalize u / g = y at *
    rw [← a1, ← b1]
    grind
theorem rt_neg {o u : Int} {r : Pt} (h : Rt (-o) (-u) r) : Rt o u r := ⟨h.pos, by have := h.eq; grind, by have := h.b1; omega, by have := h.b2; omega⟩
class B2 (k : outParam Nat) (p : Pt) : Prop where
  x : Bd k p.1
  y : Bd k p.2
instance {k : Nat} {p : Pt} [h : B2 k p] : Bd k p.1 := h.x
instance {k : Nat} {p : Pt} [h : B2 k p] : Bd k p.2 := h.y
abbrev d3 (p : V3) : PyData := .tuple [.int p.1, .int p.2.1, .int p.2.2]
class B3 (k : outParam Nat) (p : V3) : Prop where
  x : Bd k p.1
  y : Bd k p.2.1
  z : Bd k p.2.2
instance {k : Nat} {p : V3} [h : B3 k p] : Bd k p.1 := h.x
instance {k : Nat} {p : V3} [h : B3 k p] : Bd k p.2.1 := h.y
instance {k : Nat} {p : V3} [h : B3 k p] : Bd k p.2.2 := h.z
instance bd_lit0 : Bd 1 0 := ⟨by decide⟩
instance bd_lit1 : Bd 1 1 := ⟨by decide⟩
section
variable {P : Program} {w : World} {K : PySem.W.Frag} {mg : Str → Option Value} {base : Heap} (T : Txt K mg)
include T
theorem c_ratio : Cal P w K mg base 3 "ratio" (spD K (α := Int × Int) (fun y => [.int y.1, .int y.2]) (fun y => y.2 ≠ 0 ∧ Bd 3000 y.1 ∧ Bd 3000 y.2) fun y d => ∃ r, d = d2 r ∧ Rt y.1 y.2 r) [] := by
  refine cal_mk' T.d_ratio sc_ratio (fun _ => rfl) fun y hy f cdv A outer s H E hr => ?_
  obtain ⟨o, u⟩ := y
  obtain ⟨h0, i1, i2⟩ := hy
  simp only at h0 i1 i2
  have cL := c_lowest (P := P) (w := w) (base := base) T
  refine jb_ret (je_ifV (jt_gt (jv_var 1 rfl) jv_int) (fun h => ?_) fun h => ?_)
  · have hu : 0 < u := by simpa using h
    obtain ⟨g0, R⟩ := rt_low (o := o) hu
    have gb : Bd 4000 (gcdl [o, u]) := (Bd.le i2 (gcdl_le (by simp) h0)).up 4000
    exact (je_cV cL hr [o, u] (jav_cons (jv_tup (jav_cons (jv_var 0 rfl) (jav_cons (jv_var 1 rfl) jav_nil))) jav_nil) ⟨by simp, g0, gb⟩).imp fun d e => ⟨(o / gcdl [o, u], u / gcdl [o, u]), e, R⟩
  · have hu : 0 < -u := by
      have : ¬ 0 < u := by simpa using h
      omega
    obtain ⟨g0, R⟩ := rt_low (o := -o) hu
    have gb : Bd 4000 (gcdl [-o, -u]) := (Bd.le i2 (Nat.le_trans (gcdl_le (n := -u) (by simp) (by omega)) (by omega))).up 4000
    exact (je_cV cL hr [-o, -u] (jav_cons (jv_tup (jav_cons (jv_neg (jv_var 0 rfl)) (jav_cons (jv_neg (jv_var 1 rfl)) jav_nil))) jav_nil) ⟨by simp, g0, gb⟩).imp fun d e => ⟨((-o) / gcdl [-o, -u], (-u) / gcdl [-o, -u]), e, rt_neg R⟩
theorem c_ratio_less : Cal P w K mg base 4 "ratio_less" (spD K (α := Pt × Pt) (fun y => [d2 y.1, d2 y.2]) (fun y => (0 < y.1.2 ∧ 0 < y.2.2) ∧ B2 1000 y.1 ∧ B2 1000 y.2) fun y d => ∃ r, d = d2 r ∧ Rt (y.1.1 * y.2.2 - y.2.1 * y.1.2) (y.1.2 * y.2.2) r) [] := by
  refine cal_mk' T.d_ratio_less sc_ratio_less (fun _ => rfl) fun y hy f cdv A outer s H E hr => ?_
  obtain ⟨p, q⟩ := y
  obtain ⟨⟨h1, h2⟩, i1, i2⟩ := hy
  simp only at h1 h2 i1 i2
  have cR := c_ratio (P := P) (w := w) (base := base) T
  have k0 : p.2 * q.2 ≠ 0 := by have := mul_pp h1 h2; omega
  exact jb_ret (je_cV cR hr (p.1 * q.2 - q.1 * p.2, p.2 * q.2) (jav_cons (jv_sub (jv_mul (jv_ixT (jv_var 0 rfl) jv_int rfl) (jv_ixT (jv_var 1 rfl) jv_int rfl)) (jv_mul (jv_ixT (jv_var 1 rfl) jv_int rfl) (jv_ixT (jv_var 0 rfl) jv_int rfl))) (jav_cons (jv_mul (jv_ixT (jv_var 0 rfl) jv_int rfl) (jv_ixT (jv_var 1 rfl) jv_int rfl)) jav_nil)) ⟨k0, Bd.up 3000 inferInstance, Bd.up 3000 inferInstance⟩)
theorem c_ratio_over : Cal P w K mg base 4 "ratio_over" (spD K (α := Pt × Pt) (fun y => [d2 y.1, d2 y.2]) (fun y => (y.1.2 ≠ 0 ∧ y.2.1 ≠ 0) ∧ B2 1400 y.1 ∧ B2 1400 y.2) fun y d => ∃ r, d = d2 r ∧ Rt (y.1.1 * y.2.2) (y.1.2 * y.2.1) r) [] := by
  refine cal_mk' T.d_ratio_over sc_ratio_over (fun _ => rfl) fun y hy f cdv A outer s H E hr => ?_
  obtain ⟨p, q⟩ := y
  obtain ⟨⟨h1, h2⟩, i1, i2⟩ := hy
  simp only at h1 h2 i1 i2
  have cR := c_ratio (P := P) (w := w) (base := base) T
  have k0 : p.2 * q.1 ≠ 0 := Int.mul_ne_zero h1 h2
  exact jb_ret (je_cV cR hr (p.1 * q.2, p.2 * q.1) (jav_cons (jv_mul (jv_ixT (jv_var 0 rfl) jv_int rfl) (jv_ixT (jv_var 1 rfl) jv_int rfl)) (jav_cons (jv_mul (jv_ixT (jv_var 0 rfl) jv_int rfl) (jv_ixT (jv_var 1 rfl) jv_int rfl)) jav_nil)) ⟨k0, Bd.up 3000 inferInstance, Bd.up 3000 inferInstance⟩)
theorem c_is_lower : Cal P w K mg base 1 "is_lower" (spD K (α := Pt × Pt) (fun y => [d2 y.1, d2 y.2]) (fun y => B2 3000 y.1 ∧ B2 3000 y.2) fun y d => d = .bool (decide (y.1.1 * y.2.2 < y.2.1 * y.1.2))) [] := by
  refine cal_mk' T.d_is_lower sc_is_lower (fun _ => rfl) fun y hy f cdv A outer s H E hr => ?_
  obtain ⟨p, q⟩ := y
  obtain ⟨i1, i2⟩ := hy
  simp only at i1 i2
  exact jb_ret (JV.to (jv_lt (jv_mul (jv_ixT (jv_var 0 rfl) jv_int rfl) (jv_ixT (jv_var 1 rfl) jv_int rfl)) (jv_mul (jv_ixT (jv_var 1 rfl) jv_int rfl) (jv_ixT (jv_var 0 rfl) jv_int rfl))) rfl)
theorem c_higher_of : Cal P w K mg base 2 "higher_of" (spD K (α := Pt × Pt) (fun y => [d2 y.1, d2 y.2]) (fun y => B2 3000 y.1 ∧ B2 3000 y.2) fun y d => d = d2 (if y.1.1 * y.2.2 < y.2.1 * y.1.2 then y.2 else y.1)) [] := by
  refine cal_mk' T.d_higher_of sc_higher_of (fun _ => rfl) fun y hy f cdv A outer s H E hr => ?_
  obtain ⟨p, q⟩ := y
  have cI := c_is_lower (P := P) (w := w) (base := base) T
  refine jb_ret (je_ifV (jt_valV (je_cV cI hr (p, q) (jav_cons (jv_var 0 rfl) (jav_cons (jv_var 1 rfl) jav_nil)) hy)) (fun h => ?_) fun h => ?_)
  · rw [if_pos (by simpa using h)]
    exact jv_var 1 rfl
  · rw [if_neg (by simpa using h)]
    exact jv_var 0 rfl
theorem c_lower_of : Cal P w K mg base 2 "lower_of" (spD K (α := Pt × Pt) (fun y => [d2 y.1, d2 y.2]) (fun y => B2 3000 y.1 ∧ B2 3000 y.2) fun y d => d = d2 (if y.2.1 * y.1.2 < y.1.1 * y.2.2 then y.2 else y.1)) [] := by
  refine cal_mk' T.d_lower_of sc_lower_of (fun _ => rfl) fun y hy f cdv A outer s H E hr => ?_
  obtain ⟨p, q⟩ := y
  have cI := c_is_lower (P := P) (w := w) (base := base) T
  refine jb_ret (je_ifV (jt_valV (je_cV cI hr (q, p) (jav_cons (jv_var 1 rfl) (jav_cons (jv_var 0 rfl) jav_nil)) ⟨hy.2, hy.1⟩)) (fun h => ?_) fun h => ?_)
  · rw [if_pos (by simpa using h)]
    exact jv_var 1 rfl
  · rw [if_neg (by simpa using h)]
    exact jv_var 0 rfl
theorem c_is_vector : Cal P w K mg base 3 "is_vector" (spD K (α := V3) (fun y => [d3 y]) (fun y => 0 < y.2.2 ∧ gcdl [y.1, y.2.1, y.2.2] = 1) fun y d => d = .bool true) [] := by
  refine cal_mk' T.d_is_vector sc_is_vector (fun _ => rfl) fun y hy f cdv A outer s H E hr => ?_
  have cA := c_are_wholes (P := P) (w := w) (base := base) T
  have cL := c_is_lowest (P := P) (w := w) (base := base) T
  refine jb_ret (je_and (P := (· = true)) ((je_cV cA hr [y.1, y.2.1, y.2.2] (jav_cons (jv_var 0 rfl) (jav_cons jv_int jav_nil)) (by simp)).imp fun d e => ⟨true, e, rfl⟩) (fun h => by cases h) fun _ => ?_)
  refine je_and (P := (· = true)) (JV.to (jv_gt (jv_ixT (jv_var 0 rfl) jv_int rfl) jv_int) ⟨_, rfl, by simpa using hy.1⟩) (fun h => by cases h) fun _ => je_one ?_
  exact (je_cV cL hr [y.1, y.2.1, y.2.2] (jav_cons (jv_var 0 rfl) jav_nil) (by simp)).imp fun d e => by rw [e, hy.2]; rfl
theorem c_step_between : Cal P w K mg base 1 "step_between" (spD K (α := V3 × V3) (fun y => [d3 y.1, d3 y.2]) (fun y => B3 100 y.1 ∧ B3 100 y.2) fun y d => d = d2 (y.2.1 * y.1.2.2 - y.1.1 * y.2.2.2, y.2.2.1 * y.1.2.2 - y.1.2.1 * y.2.2.2)) [] := by
  refine cal_mk' T.d_step_between sc_step_between (fun _ => rfl) fun y hy f cdv A outer s H E hr => ?_
  obtain ⟨p, q⟩ := y
  obtain ⟨i1, i2⟩ := hy
  simp only at i1 i2
  refine jb_ret (JV.to (jv_tup (jav_cons (jv_sub (jv_mul (jv_ixT (jv_var 1 rfl) jv_int rfl) (jv_ixT (jv_var 0 rfl) jv_int rfl)) (jv_mul (jv_ixT (jv_var 0 rfl) jv_int rfl) (jv_ixT (jv_var 1 rfl) jv_int rfl))) (jav_cons (jv_sub (jv_mul (jv_ixT (jv_var 1 rfl) jv_int rfl) (jv_ixT (jv_var 0 rfl) jv_int rfl)) (jv_mul (jv_ixT (jv_var 0 rfl) jv_int rfl) (jv_ixT (jv_var 1 rfl) jv_int rfl))) jav_nil))) rfl)
theorem c_along : Cal P w K mg base 4 "along" (spD K (α := Pt × V3) (fun y => [d2 y.1, d3 y.2]) (fun y => y.2.2.2 ≠ 0 ∧ B2 600 y.1 ∧ B3 700 y.2) fun y d => ∃ r, d = d2 r ∧ Rt (y.1.1 * y.2.1 + y.1.2 * y.2.2.1) y.2.2.2 r) [] := by
  refine cal_mk' T.d_along sc_along (fun _ => rfl) fun y hy f cdv A outer s H E hr => ?_
  obtain ⟨p, q⟩ := y
  obtain ⟨h0, i1, i2⟩ := hy
  simp only at h0 i1 i2
  have cR := c_ratio (P := P) (w := w) (base := base) T
  exact jb_ret (je_cV cR hr (p.1 * q.1 + p.2 * q.2.1, q.2.2) (jav_cons (jv_add (jv_mul (jv_ixT (jv_var 0 rfl) jv_int rfl) (jv_ixT (jv_var 1 rfl) jv_int rfl)) (jv_mul (jv_ixT (jv_var 0 rfl) jv_int rfl) (jv_ixT (jv_var 1 rfl) jv_int rfl))) (jav_cons (jv_ixT (jv_var 1 rfl) jv_int rfl) jav_nil)) ⟨h0, Bd.up 3000 inferInstance, Bd.up 3000 inferInstance⟩)
theorem c_bend : Cal P w K mg base 2 "bend" (spD K (α := Pt × Pt) (fun y => [d2 y.1, d2 y.2]) (fun y => B2 400 y.1 ∧ B2 400 y.2) fun y d => d = .int (sgn (cr y.1 y.2))) [] := by
  refine cal_mk' T.d_bend sc_bend (fun _ => rfl) fun y hy f cdv A outer s H E hr => ?_
  obtain ⟨p, q⟩ := y
  obtain ⟨i1, i2⟩ := hy
  simp only at i1 i2
  have cS := c_sign (P := P) (w := w) (base := base) T
  exact jb_ret (je_cV cS hr (p.1 * q.2 - p.2 * q.1) (jav_cons (jv_sub (jv_mul (jv_ixT (jv_var 0 rfl) jv_int rfl) (jv_ixT (jv_var 1 rfl) jv_int rfl)) (jv_mul (jv_ixT (jv_var 0 rfl) jv_int rfl) (jv_ixT (jv_var 1 rfl) jv_int rfl))) jav_nil) trivial)
end
end Wf

namespace Wf
open PySem PySem.Spec PyProof.Rows L2 C8
theorem l3_bd {k : Nat} {a b c : Int} {s : V3} (l : L3 (a, b, c) s) (ha : Bd k a) (hb : Bd k b) (hc : Bd k c) : B3 k s := ⟨Bd.le ha l.b1, Bd.le hb l.b2, Bd.le hc l.b3⟩
theorem dec_neg {x : Int} : (!decide (0 < x)) = decide (x ≤ 0) := by
  by_cases h : 0 < x
  · rw [decide_eq_true h, decide_eq_false (by omega)]; rfl
  · rw [decide_eq_false h, decide_eq_true (by omega)]; rfl
section
variable {P : Program} {w : World} {K : PySem.W.Frag} {mg : Str → Option Value} {base : Heap} (T : Txt K mg)
include T
theorem c_side_at : Cal P w K mg base 3 "side_at" (spD K (α := Pt × V3) (fun y => [d2 y.1, d3 y.2]) (fun y => (y.1 ≠ (0, 0) ∧ y.2.2.2 ≠ 0) ∧ B2 400 y.1 ∧ B3 100 y.2) fun y d => ∃ s, d = d3 s ∧ L3 (y.1.1 * y.2.2.2, y.1.2 * y.2.2.2, y.1.1 * y.2.1 + y.1.2 * y.2.2.1) s ∧ B3 600 s) [] := by
  refine cal_mk' T.d_side_at sc_side_at (fun _ => rfl) fun y hy f cdv A outer s H E hr => ?_
  obtain ⟨n, p⟩ := y
  obtain ⟨⟨h0, hw⟩, i1, i2⟩ := hy
  simp only at h0 hw i1 i2
  have cL := c_lowest (P := P) (w := w) (base := base) T
  refine jb_asg (jv_var 0 rfl) fun d e => ?_
  subst e
  refine jg_tup (jgs_cons (jg_name 2 (jgs_cons (jg_name 3 (jgs_nil ?_) sc_side_at.nd)) sc_side_at.nd))
  refine jb_asg (jv_var 1 rfl) fun d e => ?_
  subst e
  refine jg_tup (jgs_cons (jg_name 4 (jgs_cons (jg_name 5 (jgs_cons (jg_name 6 (jgs_nil ?_) sc_side_at.nd)) sc_side_at.nd)) sc_side_at.nd))
  have g0 : 0 < gcdl [n.1 * p.2.2, n.2 * p.2.2, n.1 * p.1 + n.2 * p.2.1] ∧ Bd 4000 (gcdl [n.1 * p.2.2, n.2 * p.2.2, n.1 * p.1 + n.2 * p.2.1]) := by
    by_cases c : n.1 = 0
    · have c2 : n.2 ≠ 0 := fun z => h0 (Prod.ext c z)
      have k : n.2 * p.2.2 ≠ 0 := Int.mul_ne_zero c2 hw
      exact ⟨gcdl_pos (n := n.2 * p.2.2) (by simp) k, (Bd.le (inferInstance : Bd (400 + 100) (n.2 * p.2.2)) (gcdl_le (by simp) k)).up 4000⟩
    · have k : n.1 * p.2.2 ≠ 0 := Int.mul_ne_zero c hw
      exact ⟨gcdl_pos (n := n.1 * p.2.2) (by simp) k, (Bd.le (inferInstance : Bd (400 + 100) (n.1 * p.2.2)) (gcdl_le (by simp) k)).up 4000⟩
  have L := l3_of g0.1
  refine jb_ret ((je_cV cL hr [n.1 * p.2.2, n.2 * p.2.2, n.1 * p.1 + n.2 * p.2.1] (jav_cons (jv_tup (jav_cons (jv_mul (jv_var 2 rfl) (jv_var 6 rfl)) (jav_cons (jv_mul (jv_var 3 rfl) (jv_var 6 rfl)) (jav_cons (jv_add (jv_mul (jv_var 2 rfl) (jv_var 4 rfl)) (jv_mul (jv_var 3 rfl) (jv_var 5 rfl))) jav_nil)))) jav_nil) ⟨by simp, g0.1, g0.2⟩).imp fun d e => by
    refine ⟨_, ?_, L, l3_bd L (Bd.up 600 inferInstance) (Bd.up 600 inferInstance) (Bd.up 600 inferInstance)⟩
    exact e)
theorem c_side_left : Cal P w K mg base 4 "side_left" (spD K (α := V3 × V3) (fun y => [d3 y.1, d3 y.2]) (fun y => (stp y.1 y.2 ≠ (0, 0) ∧ y.1.2.2 ≠ 0) ∧ B3 100 y.1 ∧ B3 100 y.2) fun y d => ∃ s, d = d3 s ∧ L3 ((stp y.1 y.2).2 * y.1.2.2, - (stp y.1 y.2).1 * y.1.2.2, (stp y.1 y.2).2 * y.1.1 + - (stp y.1 y.2).1 * y.1.2.1) s ∧ B3 600 s) [] := by
  refine cal_mk' T.d_side_left sc_side_left (fun _ => rfl) fun y hy f cdv A outer s H E hr => ?_
  obtain ⟨p, q⟩ := y
  obtain ⟨⟨h0, hw⟩, i1, i2⟩ := hy
  simp only at h0 hw i1 i2
  have cS := c_step_between (P := P) (w := w) (base := base) T
  have cA := c_side_at (P := P) (w := w) (base := base) T
  refine jb_asg (je_cV cS hr (p, q) (jav_cons (jv_var 0 rfl) (jav_cons (jv_var 1 rfl) jav_nil)) ⟨i1, i2⟩) fun d e => ?_
  have e : d = d2 (stp p q) := e
  subst e
  refine jg_tup (jgs_cons (jg_name 2 (jgs_cons (jg_name 3 (jgs_nil ?_) sc_side_left.nd)) sc_side_left.nd))
  have bu : Bd 201 (stp p q).1 := inferInstance
  have bv : Bd 201 (stp p q).2 := inferInstance
  have b2 : B2 400 ((stp p q).2, - (stp p q).1) := ⟨bv.up 400, (Bd.neg (hx := bu)).up 400⟩
  have nz : ((stp p q).2, - (stp p q).1) ≠ ((0, 0) : Pt) := fun z => by
    have z1 := congrArg Prod.fst z
    have z2 := congrArg Prod.snd z
    simp only at z1 z2
    exact h0 (Prod.ext (by simp only; omega) z1)
  generalize stp p q = st at *
  exact jb_ret (je_cV cA hr ((st.2, - st.1), p) (jav_cons (jv_tup (jav_cons (jv_var 3 rfl) (jav_cons (jv_neg (jv_var 2 rfl)) jav_nil))) (jav_cons (jv_var 0 rfl) jav_nil)) ⟨⟨nz, hw⟩, b2, i1⟩)
theorem c_value_at : Cal P w K mg base 1 "value_at" (spD K (α := V3 × V3) (fun y => [d3 y.1, d3 y.2]) (fun y => B3 600 y.1 ∧ B3 100 y.2) fun y d => d = .int (val y.1 y.2)) [] := by
  refine cal_mk' T.d_value_at sc_value_at (fun _ => rfl) fun y hy f cdv A outer s H E hr => ?_
  obtain ⟨p, q⟩ := y
  obtain ⟨i1, i2⟩ := hy
  simp only at i1 i2
  exact jb_ret (JV.to (jv_sub (jv_add (jv_mul (jv_ixT (jv_var 0 rfl) jv_int rfl) (jv_ixT (jv_var 1 rfl) jv_int rfl)) (jv_mul (jv_ixT (jv_var 0 rfl) jv_int rfl) (jv_ixT (jv_var 1 rfl) jv_int rfl))) (jv_mul (jv_ixT (jv_var 0 rfl) jv_int rfl) (jv_ixT (jv_var 1 rfl) jv_int rfl))) rfl)
theorem c_are_held : Cal P w K mg base 2 "are_held" (spD K (α := List V3 × V3) (fun y => [.tuple (y.1.map d3), d3 y.2]) (fun y => (∀ s ∈ y.1, B3 600 s) ∧ y.1.length < 1000 ∧ B3 100 y.2) fun y d => d = .bool (y.1.all fun s => decide (val s y.2 ≤ 0))) [] := by
  refine cal_mk' T.d_are_held sc_are_held (fun _ => rfl) fun y hy f cdv A outer s H E hr => ?_
  obtain ⟨S, v⟩ := y
  obtain ⟨i1, hl, i2⟩ := hy
  simp only at i1 i2 hl
  have cV := c_value_at (P := P) (w := w) (base := base) T
  refine jb_ret (je_allV (n := S.length) (f := fun i => decide (val (S.getD i (0, 0, 0)) v ≤ 0)) ?_ rfl T.b_all (by rw [range_all S (0, 0, 0) fun s => decide (val s v ≤ 0)]))
  refine JN.imp (jn_mapV [("side", 2)] (fun i => .bool (decide (val (S.getD i (0, 0, 0)) v ≤ 0))) (ji_tup (jv_var 0 rfl)) (fun _ _ _ _ _ => pg_name (i := 2) sc_are_held.nd rfl (Or.inl rfl)) (tg_name (by decide)) (by simp; omega) (fun i hi => ⟨trivial, fun s H C cl fp => ?_⟩) sc_are_held.nd (blk_by N_are_held (fnScope s_are_held) (by decide +kernel))) (fun ds h => by rw [h]; simp)
  have hi' : i < S.length := by simpa using hi
  have mem : S.getD i (0, 0, 0) ∈ S := by simp [hi']
  exact jv_le (je_cV cV hr (S.getD i (0, 0, 0), v) (jav_cons (jv_var 2 (by rw [getD_map S d3 (0, 0, 0) hi']; rfl)) (jav_cons (jv_var 1 rfl) jav_nil)) ⟨i1 _ mem, i2⟩) jv_int
theorem c_is_strictly_in : Cal P w K mg base 2 "is_strictly_in" (spD K (α := List V3 × V3) (fun y => [.tuple (y.1.map d3), d3 y.2]) (fun y => (∀ s ∈ y.1, B3 600 s) ∧ y.1.length < 1000 ∧ B3 100 y.2) fun y d => d = .bool (y.1.all fun s => decide (val s y.2 < 0))) [] := by
  refine cal_mk' T.d_is_strictly_in sc_is_strictly_in (fun _ => rfl) fun y hy f cdv A outer s H E hr => ?_
  obtain ⟨S, v⟩ := y
  obtain ⟨i1, hl, i2⟩ := hy
  simp only at i1 i2 hl
  have cV := c_value_at (P := P) (w := w) (base := base) T
  refine jb_ret (je_allV (n := S.length) (f := fun i => decide (val (S.getD i (0, 0, 0)) v < 0)) ?_ rfl T.b_all (by rw [range_all S (0, 0, 0) fun s => decide (val s v < 0)]))
  refine JN.imp (jn_mapV [("side", 2)] (fun i => .bool (decide (val (S.getD i (0, 0, 0)) v < 0))) (ji_tup (jv_var 0 rfl)) (fun _ _ _ _ _ => pg_name (i := 2) sc_is_strictly_in.nd rfl (Or.inl rfl)) (tg_name (by decide)) (by simp; omega) (fun i hi => ⟨trivial, fun s H C cl fp => ?_⟩) sc_is_strictly_in.nd (blk_by N_is_strictly_in (fnScope s_is_strictly_in) (by decide +kernel))) (fun ds h => by rw [h]; simp)
  have hi' : i < S.length := by simpa using hi
  have mem : S.getD i (0, 0, 0) ∈ S := by simp [hi']
  exact jv_lt (je_cV cV hr (S.getD i (0, 0, 0), v) (jav_cons (jv_var 2 (by rw [getD_map S d3 (0, 0, 0) hi']; rfl)) (jav_cons (jv_var 1 rfl) jav_nil)) ⟨i1 _ mem, i2⟩) jv_int
theorem c_is_left : Cal P w K mg base 1 "is_left" (spD K (α := Pt × Pt × Pt) (fun y => [d2 y.1, d2 y.2.1, d2 y.2.2]) (fun y => B2 100 y.1 ∧ B2 100 y.2.1 ∧ B2 100 y.2.2) fun y d => d = .bool (decide (0 < bend y.1 y.2.1 y.2.2))) [] := by
  refine cal_mk' T.d_is_left sc_is_left (fun _ => rfl) fun y hy f cdv A outer s H E hr => ?_
  obtain ⟨p, q, r⟩ := y
  obtain ⟨i1, i2, i3⟩ := hy
  simp only at i1 i2 i3
  refine jb_ret (JV.to (jv_gt (jv_mul (jv_sub (jv_ixT (jv_var 1 rfl) jv_int rfl) (jv_ixT (jv_var 0 rfl) jv_int rfl)) (jv_sub (jv_ixT (jv_var 2 rfl) jv_int rfl) (jv_ixT (jv_var 0 rfl) jv_int rfl))) (jv_mul (jv_sub (jv_ixT (jv_var 1 rfl) jv_int rfl) (jv_ixT (jv_var 0 rfl) jv_int rfl)) (jv_sub (jv_ixT (jv_var 2 rfl) jv_int rfl) (jv_ixT (jv_var 0 rfl) jv_int rfl)))) ?_)
  congr 1
  apply decide_eq_decide.mpr
  simp only [bend]
  omega
end
end Wf

namespace Wf
open PySem PySem.Spec PyProof.Rows L2 C8
theorem atI_nat {α : Type} {xs : List α} {i : Nat} {x : α} (h : xs[i]? = some x) : atI xs (i : Int) = some x := by
  have hl : i < xs.length := (List.getElem?_eq_some_iff.mp h).1
  unfold atI ixN
  rw [if_pos (by omega), if_pos (by omega)]
  simpa using h
theorem atI_back {α : Type} {xs : List α} {i : Nat} {x : α} (hi : 1 ≤ i) (hl : i ≤ xs.length) (h : xs[xs.length - i]? = some x) : atI xs (-(i : Int)) = some x := by
  unfold atI ixN
  rw [if_neg (by omega), if_pos (by omega)]
  have : (-(i : Int) + (xs.length : Int)).toNat = xs.length - i := by omega
  rw [this]
  exact h
theorem rev_last {α : Type} (t : α) (r : List α) : atI (t :: r).reverse (-1) = some t := by
  refine atI_back (i := 1) (by decide) (by simp) ?_
  simp
theorem rev_last2 {α : Type} (t u : α) (r : List α) : atI (t :: u :: r).reverse (-2) = some u := by
  refine atI_back (i := 2) (by decide) (by simp) ?_
  simp
theorem popS_len (c : Pt) : ∀ K : List Pt, (popS c K).length ≤ K.length
  | [] => Nat.le_refl _
  | [_] => Nat.le_refl _
  | t :: u :: r => by
    unfold popS
    split
    · have := popS_len c (u :: r); simp only [List.length_cons] at *; omega
    · exact Nat.le_refl _
theorem popS_sub (c : Pt) : ∀ K : List Pt, ∀ p ∈ popS c K, p ∈ K
  | [], p, h => h
  | [_], p, h => h
  | t :: u :: r, p, h => by
    unfold popS at h
    split at h
    · exact List.mem_cons_of_mem _ (popS_sub c (u :: r) p h)
    · exact h
theorem chainS_snoc (D : List Pt) (c : Pt) : chainS (D ++ [c]) = c :: popS c (chainS D) := by
  unfold chainS
  rw [List.foldl_append]
  rfl
theorem chainS_len : ∀ D : List Pt, (chainS D).length ≤ D.length := by
  intro D
  generalize hn : D.length = n
  induction n generalizing D with
  | zero => rw [List.length_eq_zero_iff.mp hn]; exact Nat.le_refl _
  | succ n ih =>
    have hne : D ≠ [] := by intro e; rw [e] at hn; simp at hn
    rw [← List.dropLast_concat_getLast hne, chainS_snoc]
    have h1 := ih D.dropLast (by rw [List.length_dropLast, hn]; rfl)
    have h2 := popS_len (D.getLast hne) (chainS D.dropLast)
    simp only [List.length_cons]
    omega
theorem chainS_sub : ∀ D : List Pt, ∀ p ∈ chainS D, p ∈ D := by
  intro D
  generalize hn : D.length = n
  induction n generalizing D with
  | zero => rw [List.length_eq_zero_iff.mp hn]; exact fun p h => h
  | succ n ih =>
    have hne : D ≠ [] := by intro e; rw [e] at hn; simp at hn
    intro p hp
    rw [← List.dropLast_concat_getLast hne, chainS_snoc] at hp
    rw [← List.dropLast_concat_getLast hne]
    rcases List.mem_cons.mp hp with e | hp
    · simp [e]
    · exact List.mem_append_left _ (ih D.dropLast (by rw [List.length_dropLast, hn]; rfl) p (popS_sub _ _ p hp))
theorem take_snoc {α : Type} {D : List α} {i : Nat} (h : i < D.length) (d : α) : D.take (i + 1) = D.take i ++ [D.getD i d] := by
  rw [List.take_succ, List.getD_eq_getElem?_getD, List.getElem?_eq_getElem h]
  rfl
theorem popS_stop {c t u : Pt} {r : List Pt} (h : ¬ bend u t c ≤ 0) : popS c (t :: u :: r) = t :: u :: r := by
  rw [popS, if_neg h]
theorem popS_go {c t u : Pt} {r : List Pt} (h : bend u t c ≤ 0) : popS c (t :: u :: r) = popS c (u :: r) := by
  rw [popS, if_pos h]
section
variable {P : Program} {w : World} {K : PySem.W.Frag} {mg : Str → Option Value} {base : Heap} (T : Txt K mg)
include T
theorem c_chain : Cal P w K mg base 2 "chain" (spD K (α := List Pt) (fun D => [.list (D.map d2)]) (fun D => (∀ p ∈ D, B2 100 p) ∧ D.length < 1000) fun D d => d = .list ((chain D).map d2)) [] := by
  refine cal_mk' T.d_chain sc_chain (fun _ => rfl) fun D hy f cdv A outer s H E hr => ?_
  obtain ⟨i1, hl⟩ := hy
  have cL := c_is_left (P := P) (w := w) (base := base) T
  refine jb_setN 1 (jn_lst (P := fun ds => ds = []) (ja_nil rfl) (fun ds e => by rw [e]; exact Nat.zero_le _)) (fun ds e => ?_) sc_chain.nd
  subst e
  refine jb_for (fun i ρ => ∃ y, ρ = [.val (.list (D.map d2)), .own ((chainS (D.take i)).reverse.map d2), y]) (ji_list (jv_var 0 rfl)) ⟨.no, rfl⟩ (fun i ρ hi ⟨y, e⟩ => ?_) (fun ρ ⟨y, e⟩ => ?_)
  · subst e
    have hi' : i < D.length := by simpa using hi
    refine jg_name 2 ?_ sc_chain.nd
    rw [getD_map D d2 (0, 0) hi', take_snoc hi' (0, 0), chainS_snoc]
    have hc : B2 100 (D.getD i (0, 0)) := i1 _ (by simp [hi'])
    generalize D.getD i (0, 0) = c at *
    have hsub : ∀ p ∈ chainS (D.take i), B2 100 p := fun p hp => i1 p (List.mem_of_mem_take (chainS_sub _ p hp))
    have hlen : (chainS (D.take i)).length < 1000 := by
      have := chainS_len (D.take i)
      rw [List.length_take] at this
      omega
    generalize chainS (D.take i) = K0 at *
    refine jb_while (fun m ρ => ∃ Kk : List Pt, Kk.length = m ∧ (∀ p ∈ Kk, p ∈ K0) ∧ popS c Kk = popS c K0 ∧ Kk.length ≤ K0.length ∧ ρ = [.val (.list (D.map d2)), .own (Kk.reverse.map d2), .val (d2 c)]) K0.length ⟨K0, rfl, fun p h => h, rfl, Nat.le_refl _, rfl⟩ (fun m ρ ⟨Kk, em, sub, pe, le, e⟩ => ?_)
    subst e
    refine ⟨fun b => b = true ↔ ∃ t u r, Kk = t :: u :: r ∧ bend u t c ≤ 0, jt_w (jw_and (P := (· = decide (1 < Kk.length))) (JT.imp (jt_gt (jv_lenO 1 rfl (by rfl) T.b_len) jv_int) fun b e => by rw [e]; simp <;> omega) (fun h => ?_) fun h => jw_and1 ?_), fun h => ?_, fun h => ?_⟩
    · have h1 : ¬ 1 < Kk.length := by simpa using h.symm
      refine ⟨fun z => (by cases z), fun ⟨t, u, r, e, _⟩ => ?_⟩
      rw [e] at h1
      simp at h1
    · have h1 : 1 < Kk.length := by simpa using h.symm
      match Kk, h1, sub with
      | t :: u :: r, _, sub =>
        have bt := hsub t (sub t (by simp))
        have bu := hsub u (sub u (by simp))
        refine (jt_notV (jt_valV (je_cV cL hr (u, t, c) (jav_cons (jv_ixO 1 rfl (jv_neg jv_int) (by rw [List.map_reverse]; exact rev_last2 (d2 t) (d2 u) (r.map d2))) (jav_cons (jv_ixO 1 rfl (jv_neg jv_int) (by rw [List.map_reverse]; exact rev_last (d2 t) (d2 u :: r.map d2))) (jav_cons (jv_var 2 rfl) jav_nil))) ⟨bu, bt, hc⟩))).imp fun b e => ?_
        rw [e, dec_neg]
        constructor
        · intro q
          exact ⟨t, u, r, rfl, by simpa using q⟩
        · rintro ⟨t', u', r', e', q⟩
          cases e'
          simpa using q
    · obtain ⟨t, u, r, rfl, q⟩ := h.mp rfl
      refine jb_pop 1 rfl (jb_nil [] ⟨(u :: r).length, ?_, u :: r, rfl, fun p hp => sub p (List.mem_cons_of_mem _ hp), ?_, ?_, ?_⟩) (by simp)
      · rw [← em]; simp
      · rw [← pe, popS_go q]
      · simp only [List.length_cons] at le ⊢; omega
      · have : ((t :: u :: r).reverse.map d2).dropLast = (u :: r).reverse.map d2 := by
          rw [← List.map_dropLast, List.dropLast_reverse]
          rfl
        rw [this]
        rfl
    · have stop : popS c Kk = Kk := by
        match Kk, h with
        | [], _ => rfl
        | [_], _ => rfl
        | t :: u :: r, h => exact popS_stop fun q => by have := h.mpr ⟨t, u, r, rfl, q⟩; cases this
      refine jb_append 1 rfl (jv_var 2 rfl) (fun d e => jb_nil [] ⟨.val (d2 c), ?_⟩) (by simp; omega)
      subst e
      rw [← pe, stop]
      show [_, SD.own (Kk.reverse.map d2 ++ [d2 c]), _] = _
      simp
  · subst e
    have e2 : (D.map d2).length = D.length := by simp
    refine jb_retO 1 rfl ?_
    rw [e2, List.take_length]
    rfl
end
end Wf

namespace Wf
open PySem PySem.Spec PyProof.Rows L2 C8
/-- rows of data that are told -/
theorem pick {α : Type} {f : α → PyData} : ∀ {n : Nat} {R : Nat → α → Prop} {ds : List PyData}, ds.length = n → (∀ i, i < n → ∃ d, ds[i]? = some d ∧ ∃ s, d = f s ∧ R i s) → ∃ S : List α, S.length = n ∧ ds = S.map f ∧ ∀ (i : Nat) s, S[i]? = some s → R i s
  | 0, R, ds, hl, _ => ⟨[], rfl, by rw [List.length_eq_zero_iff.mp hl]; rfl, fun i s e => by simp at e⟩
  | n + 1, R, [], hl, _ => by simp at hl
  | n + 1, R, d :: ds, hl, h => by
    obtain ⟨S, h1, h2, h3⟩ := pick (f := f) (n := n) (R := fun i => R (i + 1)) (ds := ds) (by simpa using hl) fun i hi => by
      have := h (i + 1) (by omega)
      simpa using this
    obtain ⟨d', e', s, e2, r⟩ := h 0 (by omega)
    have : d = d' := by simpa using e'
    subst this
    refine ⟨s :: S, by simp [h1], by rw [List.map_cons, ← h2, e2], fun i s' e => ?_⟩
    cases i with
    | zero =>
      have : s = s' := by simpa using e
      subst this; exact r
    | succ i => exact h3 i s' (by simpa using e)
theorem all2_of {α β : Type} {R : α → β → Prop} {S : List α} {M : List β} (h : S.length = M.length) (k : ∀ (i : Nat) s, S[i]? = some s → ∃ m, M[i]? = some m ∧ R s m) : All2 R S M := ⟨h, fun i s m e1 e2 => by
  obtain ⟨m', e, r⟩ := k i s e1
  rw [e2] at e
  cases e
  exact r⟩
theorem All2.get {α β : Type} {R : α → β → Prop} {S : List α} {M : List β} (h : All2 R S M) {i : Nat} (hi : i < S.length) (a : α) (b : β) : R (S.getD i a) (M.getD i b) := by
  have hm : i < M.length := by rw [← h.len]; exact hi
  refine h.at_ i _ _ ?_ ?_ <;> simp [hi, hm]
section
variable {P : Program} {w : World} {K : PySem.W.Frag} {mg : Str → Option Value} {base : Heap} (T : Txt K mg)
include T
theorem c_next_corner : Cal P w K mg base 1 "next_corner" (spD K (α := List V3 × Nat) (fun y => [.tuple (y.1.map d3), .int y.2]) (fun y => y.2 < y.1.length) fun y d => d = d3 (y.1.getD (nx y.1.length y.2) (0, 0, 0))) [] := by
  refine cal_mk' T.d_next_corner sc_next_corner (fun _ => rfl) fun y hy f cdv A outer s H E hr => ?_
  obtain ⟨L, i⟩ := y
  simp only at hy
  have ll : (L.map d3).length = L.length := by simp
  refine jb_ret (je_ifV (jt_lt (jv_add (jv_var 1 rfl) jv_int) (jv_lenT (jv_var 0 rfl) (by rfl) T.b_len)) (fun h => ?_) fun h => ?_)
  · have h1 : i + 1 < L.length := by
      rw [ll] at h
      have := of_decide_eq_true h
      omega
    refine jv_ixT (jv_var 0 rfl) (jv_add (jv_var 1 rfl) jv_int) ?_
    have e : ((i : Int) + 1) = ((i + 1 : Nat) : Int) := by omega
    rw [e]
    refine atI_nat ?_
    unfold nx
    rw [if_pos h1]
    simp [h1]
  · have h1 : ¬ i + 1 < L.length := by
      rw [ll] at h
      have := of_decide_eq_false h
      omega
    refine jv_ixT (jv_var 0 rfl) jv_int ?_
    refine atI_nat (i := 0) ?_
    unfold nx
    rw [if_neg h1]
    have : 0 < L.length := by omega
    simp [this]
/-- what is asked of a polygon -/
structure PolyOk (N : Int) (L : List V3) (D : List Pt) : Prop where
  pos : 0 < N
  rel : All2 (VRel N) L D
  cvx : Cvx D
  bd : ∀ v ∈ L, B3 100 v
  few : L.length < 1000
theorem c_sides : Cal P w K mg base 5 "sides" (spD K (α := Int × List V3 × List Pt) (fun y => [.tuple (y.2.1.map d3)]) (fun y => PolyOk y.1 y.2.1 y.2.2) fun y d => ∃ S, d = .tuple (S.map d3) ∧ All2 (SRel y.1) S (sidesOf y.2.2) ∧ (∀ s ∈ S, B3 600 s) ∧ S.length < 1000) [] := by
  refine cal_mk' T.d_sides sc_sides (fun _ => rfl) fun y hy f cdv A outer s H E hr => ?_
  obtain ⟨N, L, D⟩ := y
  obtain ⟨hN, rel, C, bd, few⟩ := hy
  simp only at hN rel C bd few
  have cA := c_side_at (P := P) (w := w) (base := base) T
  have cS := c_step_between (P := P) (w := w) (base := base) T
  have cL := c_side_left (P := P) (w := w) (base := base) T
  have cN := c_next_corner (P := P) (w := w) (base := base) T
  have ll : (L.map d3).length = L.length := by simp
  have wpos : ∀ v ∈ L, v.2.2 ≠ 0 := fun v hv => by
    obtain ⟨m, _, r⟩ := rel.lft hv
    have := r.pos hN
    omega
  refine jb_whenV (jt_eq (jv_lenT (jv_var 0 rfl) (by rfl) T.b_len) jv_int) (fun h => ?_) fun h => ?_
  · -- a point
    have h1 : L.length = 1 := by rw [ll] at h; have := of_decide_eq_true h; omega
    have h1' : D.length = 1 := by rw [← rel.len]; exact h1
    match L, D, h1, h1', rel, bd, wpos with
    | [p], [a], _, _, rel, bd, wpos =>
      have vr : VRel N p a := rel.at_ 0 p a rfl rfl
      have bp := bd p (by simp)
      have wp := wpos p (by simp)
      obtain ⟨ra, rm, rd⟩ := T.round
      have nrm : ∀ i, i < 4 → ∃ n : Pt, ([d2 (1, 0), d2 (0, 1), d2 (-1, 0), d2 (0, -1)] : List PyData).getD i .none = d2 n ∧ (sidesOf [a])[i]? = some (n, a) ∧ n ≠ (0, 0) ∧ B2 400 n := fun i hi => by
        match i, hi with
        | 0, _ => exact ⟨(1, 0), rfl, rfl, by decide, ⟨Bd.up 400 (⟨by decide⟩ : Bd 2 _), Bd.up 400 (⟨by decide⟩ : Bd 2 _)⟩⟩
        | 1, _ => exact ⟨(0, 1), rfl, rfl, by decide, ⟨Bd.up 400 (⟨by decide⟩ : Bd 2 _), Bd.up 400 (⟨by decide⟩ : Bd 2 _)⟩⟩
        | 2, _ => exact ⟨(-1, 0), rfl, rfl, by decide, ⟨Bd.up 400 (⟨by decide⟩ : Bd 2 _), Bd.up 400 (⟨by decide⟩ : Bd 2 _)⟩⟩
        | 3, _ => exact ⟨(0, -1), rfl, rfl, by decide, ⟨Bd.up 400 (⟨by decide⟩ : Bd 2 _), Bd.up 400 (⟨by decide⟩ : Bd 2 _)⟩⟩
      refine jb_ret ?_
      refine je_callTy (P := fun ds => ∃ S : List V3, ds = [.list (S.map d3)] ∧ S.length = 4 ∧ ∀ (i : Nat) s, S[i]? = some s → ∃ m, (sidesOf [a])[i]? = some m ∧ SRel N s m ∧ B3 600 s) call_tuple_of (by rfl) T.b_tuple (by decide +kernel) (ja_cons (P := fun d => ∃ S : List V3, d = .list (S.map d3) ∧ S.length = 4 ∧ ∀ (i : Nat) s, S[i]? = some s → ∃ m, (sidesOf [a])[i]? = some m ∧ SRel N s m ∧ B3 600 s) ?_ (fun d hd => ja_nil (by obtain ⟨S, e, r⟩ := hd; exact ⟨S, by rw [e], r⟩))) (fun ds pd => ?_)
      · refine JN.je (jn_mapR [("normal", 5)] (fun i d => ∃ s : V3, d = d3 s ∧ ∃ m, (sidesOf [a])[i]? = some m ∧ SRel N s m ∧ B3 600 s) (ji_tup (jv_glob (by rfl) rm rd)) (fun _ _ _ _ _ => pg_name (i := 5) sc_sides.nd rfl (Or.inl rfl)) (tg_name (by decide)) (by decide) (fun i hi => ⟨trivial, fun s H C' cl fp => ?_⟩) sc_sides.nd (blk_by N_sides (fnScope s_sides) (by decide +kernel))) (fun ds h => ?_)
        · obtain ⟨n, e1, e2, n0, bn⟩ := nrm i hi
          refine (je_cV cA hr (n, p) (jav_cons (jv_var 5 (show _ = some (SD.val (d2 n)) by rw [← e1]; rfl)) (jav_cons (jv_ixT (jv_var 0 rfl) jv_int rfl) jav_nil)) ⟨⟨n0, wp⟩, bn, bp⟩).imp fun d hd => ?_
          obtain ⟨s, e, l, b⟩ := hd
          exact ⟨s, e, (n, a), e2, srel_at vr l, b⟩
        · obtain ⟨S, k1, k2, k3⟩ := pick h.1 h.2
          exact ⟨S, by rw [k2], k1, k3⟩
      · obtain ⟨S, rfl, k1, k3⟩ := pd
        intro F H vs k f d q
        obtain ⟨v, rfl, dv⟩ := rc_one d
        obtain ⟨o, ws, rfl, h1, h2⟩ := dv.lst_
        refine ⟨o, ws, rfl, .inl ⟨sqL_same f h1, rc_newT f h2 ⟨S, rfl, all2_of (by rw [k1]; rfl) fun i s e => ?_, fun s hs => ?_, by rw [k1]; decide⟩ q⟩⟩
        · obtain ⟨m, e1, r, _⟩ := k3 i s e
          exact ⟨m, e1, r⟩
        · obtain ⟨i, hi⟩ := List.mem_iff_getElem?.mp hs
          obtain ⟨_, _, _, b⟩ := k3 i s hi
          exact b
  refine jb_whenV (jt_eq (jv_lenT (jv_var 0 rfl) (by rfl) T.b_len) jv_int) (fun h => ?_) fun h' => ?_
  · -- a stretch
    have h2 : L.length = 2 := by rw [ll] at h; have := of_decide_eq_true h; omega
    have h2' : D.length = 2 := by rw [← rel.len]; exact h2
    match L, D, h2, h2', rel, bd, wpos, C with
    | [p, q], [a, b], _, _, rel, bd, wpos, C =>
      have va : VRel N p a := rel.at_ 0 p a rfl rfl
      have vb : VRel N q b := rel.at_ 1 q b rfl rfl
      have bp := bd p (by simp)
      have bq := bd q (by simp)
      have wp := wpos p (by simp)
      have wq := wpos q (by simp)
      have hab : a ≠ b := C.two rfl
      have par := stp_par hN va vb
      have sne : sb b a ≠ (0, 0) := fun z => by
        have z1 := congrArg Prod.fst z
        have z2 := congrArg Prod.snd z
        simp only [sb] at z1 z2
        exact hab (Prod.ext (by omega) (by omega))
      have stn := par.nz sne
      refine jb_asg (jv_var 0 rfl) fun d e => ?_
      subst e
      refine jg_tup (jgs_cons (jg_name 1 (jgs_cons (jg_name 2 (jgs_nil ?_) sc_sides.nd)) sc_sides.nd))
      refine jb_asg (je_cV cS hr (p, q) (jav_cons (jv_var 1 rfl) (jav_cons (jv_var 2 rfl) jav_nil)) ⟨bp, bq⟩) fun d e => ?_
      have e : d = d2 (stp p q) := e
      subst e
      refine jg_tup (jgs_cons (jg_name 3 (jgs_cons (jg_name 4 (jgs_nil ?_) sc_sides.nd)) sc_sides.nd))
      have bu : Bd 201 (stp p q).1 := inferInstance
      have bv : Bd 201 (stp p q).2 := inferInstance
      have bnu : Bd 400 (- (stp p q).1) := (Bd.neg (hx := bu)).up 400
      have bnv : Bd 400 (- (stp p q).2) := (Bd.neg (hx := bv)).up 400
      have bu4 := bu.up 400
      have bv4 := bv.up 400
      generalize stp p q = st at *
      obtain ⟨u, v⟩ := st
      have pr : Par (v, -u) ((sb b a).2, - (sb b a).1) := par.rot
      have pn : Par (-v, u) (- (sb b a).2, - - (sb b a).1) := by
        have := pr.neg
        simpa using this
      have pm : Par (-u, -v) (- (sb b a).1, - (sb b a).2) := par.neg
      have nz : ∀ x y : Int, (x = 0 ∧ y = 0 → u = 0 ∧ v = 0) → (x, y) ≠ ((0, 0) : Pt) := fun x y k z => by
        have z1 := congrArg Prod.fst z
        have z2 := congrArg Prod.snd z
        obtain ⟨k1, k2⟩ := k ⟨z1, z2⟩
        exact stn (by rw [k1, k2])
      have sds : sidesOf [a, b] = [(((sb b a).2, - (sb b a).1), a), (((sb b a).1, (sb b a).2), b), ((- (sb b a).2, (sb b a).1), b), ((- (sb b a).1, - (sb b a).2), a)] := by
        simp only [sidesOf, gt, sb]
        simp
        refine ⟨?_, ?_, ?_⟩ <;> omega
      refine jb_ret (je_tup (P := fun ds => ∃ s1 s2 s3 s4 : V3, ds = [d3 s1, d3 s2, d3 s3, d3 s4] ∧ (SRel N s1 (((sb b a).2, - (sb b a).1), a) ∧ B3 600 s1) ∧ (SRel N s2 (((sb b a).1, (sb b a).2), b) ∧ B3 600 s2) ∧ (SRel N s3 ((- (sb b a).2, (sb b a).1), b) ∧ B3 600 s3) ∧ (SRel N s4 ((- (sb b a).1, - (sb b a).2), a) ∧ B3 600 s4)) ?_ fun ds h => ?_)
      · refine ja_cons (je_cV cA hr ((v, -u), p) (jav_cons (jv_tup (jav_cons (jv_var 4 rfl) (jav_cons (jv_neg (jv_var 3 rfl)) jav_nil))) (jav_cons (jv_var 1 rfl) jav_nil)) ⟨⟨nz v (-u) (by omega), wp⟩, ⟨bv4, bnu⟩, bp⟩) fun d1 ⟨s1, e1, l1, b1⟩ => ?_
        refine ja_cons (je_cV cA hr ((u, v), q) (jav_cons (jv_tup (jav_cons (jv_var 3 rfl) (jav_cons (jv_var 4 rfl) jav_nil))) (jav_cons (jv_var 2 rfl) jav_nil)) ⟨⟨nz u v (by omega), wq⟩, ⟨bu4, bv4⟩, bq⟩) fun d2 ⟨s2, e2, l2, b2⟩ => ?_
        refine ja_cons (je_cV cA hr ((-v, u), q) (jav_cons (jv_tup (jav_cons (jv_neg (jv_var 4 rfl)) (jav_cons (jv_var 3 rfl) jav_nil))) (jav_cons (jv_var 2 rfl) jav_nil)) ⟨⟨nz (-v) u (by omega), wq⟩, ⟨bnv, bu4⟩, bq⟩) fun d3 ⟨s3, e3, l3, b3⟩ => ?_
        refine ja_cons (je_cV cA hr ((-u, -v), p) (jav_cons (jv_tup (jav_cons (jv_neg (jv_var 3 rfl)) (jav_cons (jv_neg (jv_var 4 rfl)) jav_nil))) (jav_cons (jv_var 1 rfl) jav_nil)) ⟨⟨nz (-u) (-v) (by omega), wp⟩, ⟨bnu, bnv⟩, bp⟩) fun d4 ⟨s4, e4, l4, b4⟩ => ja_nil ?_
        refine ⟨s1, s2, s3, s4, by rw [e1, e2, e3, e4], ⟨(srel_at va l1).par pr, b1⟩, ⟨(srel_at vb l2).par par, b2⟩, ⟨(srel_at vb l3).par ?_, b3⟩, ⟨(srel_at va l4).par pm, b4⟩⟩
        have e : ((- (sb b a).2, - - (sb b a).1) : Pt) = (- (sb b a).2, (sb b a).1) := by rw [Int.neg_neg]
        rw [← e]
        exact pn
      · obtain ⟨s1, s2, s3, s4, rfl, h1, h2, h3, h4⟩ := h
        refine ⟨by show 4 ≤ sizeLine; decide, [s1, s2, s3, s4], rfl, ?_, fun s hs => ?_, by show 4 < 1000; decide⟩
        · rw [sds]
          refine all2_of rfl fun i s e => ?_
          match i, e with
          | 0, e => cases e; exact ⟨_, rfl, h1.1⟩
          | 1, e => cases e; exact ⟨_, rfl, h2.1⟩
          | 2, e => cases e; exact ⟨_, rfl, h3.1⟩
          | 3, e => cases e; exact ⟨_, rfl, h4.1⟩
        · simp only [List.mem_cons, List.not_mem_nil, or_false] at hs
          rcases hs with rfl | rfl | rfl | rfl
          · exact h1.2
          · exact h2.2
          · exact h3.2
          · exact h4.2
  · -- more corners
    have h3 : 3 ≤ L.length := by
      rw [ll] at h h'
      have a1 := of_decide_eq_false h
      have a2 := of_decide_eq_false h'
      have a3 := C.ne
      rw [← rel.len] at a3
      omega
    have hD : D.length = L.length := rel.len.symm
    have sds : sidesOf D = (List.range L.length).map fun i => left (gt D i) (gt D (nx L.length i)) := by
      unfold sidesOf
      rw [if_neg (by omega), if_neg (by omega), hD]
    refine jb_ret ?_
    refine je_callTy (P := fun ds => ∃ S : List V3, ds = [.list (S.map d3)] ∧ S.length = L.length ∧ ∀ (i : Nat) s, S[i]? = some s → i < L.length ∧ SRel N s (left (gt D i) (gt D (nx L.length i))) ∧ B3 600 s) call_tuple_of (by rfl) T.b_tuple (by decide +kernel) (ja_cons (P := fun d => ∃ S : List V3, d = .list (S.map d3) ∧ S.length = L.length ∧ ∀ (i : Nat) s, S[i]? = some s → i < L.length ∧ SRel N s (left (gt D i) (gt D (nx L.length i))) ∧ B3 600 s) ?_ (fun d hd => ja_nil (by obtain ⟨S, e, r⟩ := hd; exact ⟨S, by rw [e], r⟩))) (fun ds pd => ?_)
    · refine JN.je (jn_mapR [("at", 6), ("corner", 7)] (fun i d => ∃ s : V3, d = d3 s ∧ i < L.length ∧ SRel N s (left (gt D i) (gt D (nx L.length i))) ∧ B3 600 s) (ji_enumT (jv_var 0 rfl) (by rfl) T.b_enumerate) (fun _ _ _ _ _ => pg_tup rfl (pgs_cons (pg_name (i := 6) sc_sides.nd rfl (Or.inl rfl)) (pgs_cons (pg_name (i := 7) sc_sides.nd rfl (Or.inl rfl)) pgs_nil))) (tg_tup (js := [6, 7]) (n := 2) (by decide) rfl) (by rw [ll]; omega) (fun i hi => ⟨rfl, fun s H C' cl fp => ?_⟩) sc_sides.nd (blk_by N_sides (fnScope s_sides) (by decide +kernel))) (fun ds h => ?_)
      · have hi' : i < L.length := by rw [← ll]; exact hi
        have hn := nx_lt hi'
        have mem1 : L.getD i (0, 0, 0) ∈ L := by simp [hi']
        have mem2 : L.getD (nx L.length i) (0, 0, 0) ∈ L := by simp [hn]
        have va := rel.get hi' (0, 0, 0) (0, 0)
        have vb := rel.get hn (0, 0, 0) (0, 0)
        have par := stp_par hN va vb
        have turn := C.turn (by omega) i (by omega)
        rw [hD] at turn
        have sne : sb (gt D (nx L.length i)) (gt D i) ≠ (0, 0) := fun z => by
          have z1 := congrArg Prod.fst z
          have z2 := congrArg Prod.snd z
          simp only [sb] at z1 z2
          have e : gt D (nx L.length i) = gt D i := Prod.ext (by omega) (by omega)
          rw [e] at turn
          simp only [bend] at turn
          have y1 : (gt D i).1 - (gt D i).1 = 0 := by omega
          have y2 : (gt D i).2 - (gt D i).2 = 0 := by omega
          rw [y1, y2] at turn
          simp at turn
        refine (je_cV cL hr (L.getD i (0, 0, 0), L.getD (nx L.length i) (0, 0, 0)) (jav_cons (jv_var 7 (by rw [getD_map L d3 (0, 0, 0) hi']; rfl)) (jav_cons (je_cV cN hr (L, i) (jav_cons (jv_var 0 rfl) (jav_cons (jv_var 6 rfl) jav_nil)) hi') jav_nil)) ⟨⟨par.nz sne, wpos _ mem1⟩, bd _ mem1, bd _ mem2⟩).imp fun d hd => ?_
        obtain ⟨s, e, l, b⟩ := hd
        refine ⟨s, e, hi', ?_, b⟩
        have r := (srel_at (n := ((stp (L.getD i (0, 0, 0)) (L.getD (nx L.length i) (0, 0, 0))).2, - (stp (L.getD i (0, 0, 0)) (L.getD (nx L.length i) (0, 0, 0))).1)) va l).par par.rot
        have e : left (gt D i) (gt D (nx L.length i)) = (((sb (gt D (nx L.length i)) (gt D i)).2, - (sb (gt D (nx L.length i)) (gt D i)).1), gt D i) := by
          simp only [left, sb]
          refine Prod.ext (Prod.ext rfl ?_) rfl
          simp only
          omega
        rw [e]
        exact r
      · rw [ll] at h
        obtain ⟨S, k1, k2, k3⟩ := pick h.1 h.2
        exact ⟨S, by rw [k2], k1, k3⟩
    · obtain ⟨S, rfl, k1, k3⟩ := pd
      intro F H vs k f d q
      obtain ⟨v, rfl, dv⟩ := rc_one d
      obtain ⟨o, ws, rfl, h1, h2⟩ := dv.lst_
      refine ⟨o, ws, rfl, .inl ⟨sqL_same f h1, rc_newT f h2 ⟨S, rfl, ?_, fun s hs => ?_, by rw [k1]; exact few⟩ q⟩⟩
      · rw [sds]
        refine all2_of (by rw [k1]; simp) fun i s e => ?_
        obtain ⟨hi, r, _⟩ := k3 i s e
        exact ⟨_, by simp [hi], r⟩
      · obtain ⟨i, hi⟩ := List.mem_iff_getElem?.mp hs
        exact (k3 i s hi).2.2
theorem c_has : Cal P w K mg base 6 "has" (spD K (α := (Int × List V3 × List Pt) × V3 × Pt) (fun y => [.tuple (y.1.2.1.map d3), d3 y.2.1]) (fun y => PolyOk y.1.1 y.1.2.1 y.1.2.2 ∧ VRel y.1.1 y.2.1 y.2.2 ∧ B3 100 y.2.1) fun y d => ∃ b : Bool, d = .bool b ∧ (b = true ↔ ∀ s ∈ sidesOf y.1.2.2, out s y.2.2 ≤ 0)) [] := by
  refine cal_mk' T.d_has sc_has (fun _ => rfl) fun y hy f cdv A outer s H E hr => ?_
  obtain ⟨⟨N, L, D⟩, v, B⟩ := y
  obtain ⟨ok, vr, bv⟩ := hy
  simp only at ok vr bv
  have cS := c_sides (P := P) (w := w) (base := base) T
  have cH := c_are_held (P := P) (w := w) (base := base) T
  refine jb_ret (je_cR cH hr (R := fun ds => ∃ S : List V3, ds = [.tuple (S.map d3), d3 v] ∧ All2 (SRel N) S (sidesOf D) ∧ (∀ s ∈ S, B3 600 s) ∧ S.length < 1000) (ja_cons (je_cV cS hr (N, L, D) (jav_cons (jv_var 0 rfl) jav_nil) ok) fun d ⟨S, e, r⟩ => (jav_cons (jv_var 1 rfl) jav_nil).imp fun ds' e' => ⟨S, by rw [e, e'], r⟩) fun ds ⟨S, e, r, b, l⟩ => ⟨(S, v), e, ⟨b, l, bv⟩, fun d e2 => ⟨_, e2, ?_⟩⟩)
  rw [List.all_eq_true]
  constructor
  · intro h sd hsd
    obtain ⟨s, hs, rs⟩ := r.rgt hsd
    have := h s hs
    exact (val_neg ok.pos rs vr).2.1.mp (by simpa using this)
  · intro h s hs
    obtain ⟨sd, hsd, rs⟩ := r.lft hs
    have := (val_neg ok.pos rs vr).2.1.mpr (h sd hsd)
    simpa using this
end
end Wf

namespace Wf
open PySem PySem.Spec PyProof.Rows L2 C8
/-! ### == of rows of triples -/
theorem int_beq (a b : Int) : (a == b) = decide (a = b) := by
  by_cases h : a = b
  · rw [h]; simp
  · rw [decide_eq_false h]; exact beq_eq_false_iff_ne.mpr h
theorem eqv_d3 (p q : V3) : PyData.eqv (d3 p) (d3 q) = decide (p = q) := by
  have e : PyData.eqv (d3 p) (d3 q) = ((p.1 == q.1) && ((p.2.1 == q.2.1) && ((p.2.2 == q.2.2) && true))) := by simp only [d3, PyData.eqv, PyData.eqvAll]
  rw [e, int_beq, int_beq, int_beq, Bool.and_true, ← Bool.decide_and, ← Bool.decide_and]
  apply decide_eq_decide.mpr
  exact ⟨fun ⟨a, b, c⟩ => Prod.ext a (Prod.ext b c), fun h => by rw [h]; exact ⟨rfl, rfl, rfl⟩⟩
theorem eqv_d2 (p q : Pt) : PyData.eqv (d2 p) (d2 q) = decide (p = q) := by
  have e : PyData.eqv (d2 p) (d2 q) = ((p.1 == q.1) && ((p.2 == q.2) && true)) := by simp only [d2, PyData.eqv, PyData.eqvAll]
  rw [e, int_beq, int_beq, Bool.and_true, ← Bool.decide_and]
  apply decide_eq_decide.mpr
  exact ⟨fun ⟨a, b⟩ => Prod.ext a b, fun h => by rw [h]; exact ⟨rfl, rfl⟩⟩
theorem eqvAll_d3 : ∀ L M : List V3, PyData.eqvAll (L.map d3) (M.map d3) = decide (L = M)
  | [], [] => by simp [PyData.eqvAll]
  | [], b :: M => by simp [PyData.eqvAll]
  | a :: L, [] => by simp [PyData.eqvAll]
  | a :: L, b :: M => by
    rw [List.map_cons, List.map_cons]
    have e : PyData.eqvAll (d3 a :: L.map d3) (d3 b :: M.map d3) = (PyData.eqv (d3 a) (d3 b) && PyData.eqvAll (L.map d3) (M.map d3)) := by simp only [PyData.eqvAll]
    rw [e, eqv_d3, eqvAll_d3 L M, ← Bool.decide_and]
    apply decide_eq_decide.mpr
    exact ⟨fun ⟨a, b⟩ => by rw [a, b], fun h => List.cons.inj h⟩
theorem eqv_t3 (L M : List V3) : PyData.eqv (.tuple (L.map d3)) (.tuple (M.map d3)) = decide (L = M) := by
  rw [← eqvAll_d3]
  simp only [PyData.eqv]
theorem d3_lay (p : V3) : (d3 p).canLay0 = true := by simp [d3, PyData.canLay0, PyData.canLayAll0]
theorem d3_dep (p : V3) : (d3 p).depth = 1 := by simp [d3, PyData.depth, PyData.depthAll]
theorem d2_lay (p : Pt) : (d2 p).canLay0 = true := by simp [d2, PyData.canLay0, PyData.canLayAll0]
theorem d2_dep (p : Pt) : (d2 p).depth = 1 := by simp [d2, PyData.depth, PyData.depthAll]
theorem lays {α : Type} {f : α → PyData} (h : ∀ a, (f a).canLay0 = true) : ∀ L : List α, PyData.canLayAll0 (L.map f) = true
  | [] => by simp [PyData.canLayAll0]
  | a :: L => by simp [PyData.canLayAll0, h a, lays h L]
theorem deps {α : Type} {f : α → PyData} (h : ∀ a, (f a).depth = 1) : ∀ L : List α, PyData.depthAll (L.map f) ≤ 1
  | [] => by simp [PyData.depthAll]
  | a :: L => by
    have h1 := deps h L
    have h2 := h a
    simp only [List.map_cons, PyData.depthAll]
    omega
theorem shaped_by {d : PyData} (h1 : d.canLay0 = true) (h2 : d.depth ≤ 64) : SeqAt.shaped d = true := by
  show (d.canLay0 && decide (d.depth ≤ 64)) = true
  rw [h1, decide_eq_true h2]
  rfl
theorem shaped_tup {α : Type} {f : α → PyData} (h : ∀ a, (f a).canLay0 = true) (k : ∀ a, (f a).depth = 1) (L : List α) : SeqAt.shaped (.tuple (L.map f)) = true := by
  have := deps k L
  exact shaped_by (by simp only [PyData.canLay0]; exact lays h L) (by simp only [PyData.depth]; omega)
theorem shaped_lst {α : Type} {f : α → PyData} (h : ∀ a, (f a).canLay0 = true) (k : ∀ a, (f a).depth = 1) (L : List α) : SeqAt.shaped (.list (L.map f)) = true := by
  have := deps k L
  exact shaped_by (by simp only [PyData.canLay0]; exact lays h L) (by simp only [PyData.depth]; omega)
theorem shaped_d3 (p : V3) : SeqAt.shaped (d3 p) = true := shaped_by (d3_lay p) (by rw [d3_dep]; decide)
theorem shaped_d2 (p : Pt) : SeqAt.shaped (d2 p) = true := shaped_by (d2_lay p) (by rw [d2_dep]; decide)

/-! ### what a said polygon is -/
/-- L: the rim of S over the scale c, said in points -/
structure Said (c : Int) (L : List V3) (S : List Pt) : Prop where
  pos : 0 < c
  sm : c < 2 ^ 20
  asc : Asc S
  ne : S ≠ []
  rel : All2 (fun (v : V3) (p : Pt) => L3 (p.1, p.2, c) v) L (rimOf S)
  bd : ∀ v ∈ L, B3 50 v
  few : L.length < 60
theorem Said.wpos {c : Int} {L : List V3} {S : List Pt} (h : Said c L S) {v : V3} (hv : v ∈ L) : 0 < v.2.2 ∧ v.2.2 ∣ c := by
  obtain ⟨p, _, l⟩ := h.rel.lft hv
  obtain ⟨g, hg, _, _, e⟩ := l.ex
  exact ⟨pos_of_mul hg (by rw [e]; exact h.pos), ⟨g, by have e' : g * v.2.2 = c := e; grind⟩⟩
theorem Said.poly {c : Int} {L : List V3} {S : List Pt} (h : Said c L S) : PolyOk c L (rimOf S) :=
  ⟨h.pos, ⟨h.rel.len, fun i v p e1 e2 => by
    obtain ⟨g, hg, q1, q2, q3⟩ := (h.rel.at_ i v p e1 e2).ex
    exact ⟨g, 1, hg, by decide, by rw [q1]; simp, by rw [q2]; simp, by rw [q3]; simp⟩⟩, (rim_cvx h.asc h.ne).1, fun v hv => by
    have := h.bd v hv
    exact ⟨this.x.up 100, this.y.up 100, this.z.up 100⟩, by have := h.few; omega⟩
theorem asc_nodup {M : List Pt} (h : Asc M) : ∀ k : Int, 0 < k → Asc (M.map (ml k)) := fun k hk => by
  refine List.pairwise_map.mpr (h.imp fun {a b} q => ?_)
  unfold lx at q ⊢
  simp only [ml]
  rcases q with q | ⟨q1, q2⟩
  · exact .inl (Int.mul_lt_mul_of_pos_left q hk)
  · exact .inr ⟨by rw [q1], Int.mul_lt_mul_of_pos_left q2 hk⟩
/-- the hull of the corners: the corners -/
theorem Said.hull {c : Int} {L : List V3} {S M : List Pt} (h : Said c L S) (hM : Asc M) (mem : ∀ p : Pt, p ∈ M ↔ ∃ j, j < L.length ∧ ((L.getD j (0, 0, 0)).1 * (lcml (L.map (·.2.2)) / (L.getD j (0, 0, 0)).2.2), (L.getD j (0, 0, 0)).2.1 * (lcml (L.map (·.2.2)) / (L.getD j (0, 0, 0)).2.2)) = p) :
    0 < lcml (L.map (·.2.2)) ∧ ∃ t : Int, 0 < t ∧ t * lcml (L.map (·.2.2)) = c ∧ (rimOf M).map (ml t) = rimOf S ∧ M ≠ [] := by
  have all : ∀ n ∈ L.map (·.2.2), n ∣ c := fun n hn => by
    obtain ⟨v, hv, e⟩ := List.mem_map.mp hn
    rw [← e]
    exact (h.wpos hv).2
  obtain ⟨u0, u1⟩ := lcml_pos h.pos all
  obtain ⟨t, ht⟩ := lcml_dvd all
  generalize hu : lcml (L.map (·.2.2)) = u at *
  have t0 : 0 < t := pos_of_mul u0 (by rw [← ht]; exact h.pos)
  have len := h.rel.len
  -- one corner
  have one : ∀ j, j < L.length → ml t ((L.getD j (0, 0, 0)).1 * (u / (L.getD j (0, 0, 0)).2.2), (L.getD j (0, 0, 0)).2.1 * (u / (L.getD j (0, 0, 0)).2.2)) = (rimOf S).getD j (0, 0) := fun j hj => by
    have l := h.rel.get hj (0, 0, 0) (0, 0)
    have hv : L.getD j (0, 0, 0) ∈ L := by simp [hj]
    obtain ⟨w0, _⟩ := h.wpos hv
    have dv : (L.getD j (0, 0, 0)).2.2 ∣ u := by
      rw [← hu]
      exact dvd_lcml (List.mem_map.mpr ⟨_, hv, rfl⟩)
    generalize L.getD j (0, 0, 0) = v at *
    generalize (rimOf S).getD j (0, 0) = p at *
    obtain ⟨g, hg, q1, q2, q3⟩ := l.ex
    obtain ⟨x, y, w⟩ := v
    simp only at q1 q2 q3 w0 dv ⊢
    obtain ⟨k, hk⟩ := dv
    have e1 : u / w = k := by rw [hk]; exact Int.mul_ediv_cancel_left k (by omega)
    have e2 : g = t * k := by
      have : w * g = w * (t * k) := by
        have a1 : w * g = c := by rw [← q3]; grind
        have a2 : w * (t * k) = c := by rw [ht, hk]; grind
        rw [a1, a2]
      exact Int.eq_of_mul_eq_mul_left (by omega) this
    rw [e1]
    refine Prod.ext ?_ ?_
    · simp only [ml]; rw [← q1, e2]; grind
    · simp only [ml]; rw [← q2, e2]; grind
  have mem2 : ∀ p : Pt, p ∈ M.map (ml t) ↔ p ∈ rimOf S := fun p => by
    constructor
    · intro hp
      obtain ⟨q, hq, rfl⟩ := List.mem_map.mp hp
      obtain ⟨j, hj, rfl⟩ := (mem q).mp hq
      rw [one j hj]
      have : j < (rimOf S).length := by omega
      simp [this]
    · intro hp
      obtain ⟨j, hj, e⟩ := List.mem_iff_getElem.mp hp
      have hj' : j < L.length := by omega
      refine List.mem_map.mpr ⟨_, (mem _).mpr ⟨j, hj', rfl⟩, ?_⟩
      rw [one j hj', ← e]
      simp [hj]
  have again := rim_again h.asc h.ne (asc_nodup hM t t0) mem2
  rw [rim_map t0] at again
  refine ⟨u0, t, t0, by rw [ht]; grind, again, fun e => ?_⟩
  have : rimOf S ≠ [] := by
    have := (rim_cvx h.asc h.ne).1.ne
    intro z
    rw [z] at this
    simp at this
  rw [e] at mem2
  obtain ⟨p, hp⟩ := List.exists_mem_of_ne_nil _ this
  have := (mem2 p).mpr hp
  simp at this
section
variable {P : Program} {w : World} {K : PySem.W.Frag} {mg : Str → Option Value} {base : Heap} (T : Txt K mg)
include T
theorem c_hull : Cal P w K mg base 3 "hull" (spD K (α := Int × List V3 × List Pt) (fun y => [.list (y.2.1.map d3)]) (fun y => Said y.1 y.2.1 y.2.2) fun y d => d = .tuple (y.2.1.map d3)) [] := by
  refine cal_mk' T.d_hull sc_hull (fun _ => rfl) fun y hy f cdv A outer s H E hr => ?_
  obtain ⟨c, L, S⟩ := y
  simp only at hy
  have cL := c_lowest (P := P) (w := w) (base := base) T
  have cC := c_chain (P := P) (w := w) (base := base) T
  have ll : (L.map d3).length = L.length := by simp
  have few := hy.few
  have all : ∀ n ∈ L.map (·.2.2), n ∣ c := fun n hn => by
    obtain ⟨v, hv, e⟩ := List.mem_map.mp hn
    rw [← e]
    exact (hy.wpos hv).2
  refine jb_setV 1 jv_int ?_ sc_hull.nd
  refine jb_for (fun i ρ => ∃ y, ρ = [.val (.list (L.map d3)), .val (.int (lcml ((L.take i).map (·.2.2)))), y, .no, .no, .no, .no, .no]) (ji_list (jv_var 0 rfl)) ⟨.no, rfl⟩ (fun i ρ hi ⟨y, e⟩ => ?_) (fun ρ ⟨y, e⟩ => ?_)
  · subst e
    have hi' : i < L.length := by simpa using hi
    refine jg_name 2 ?_ sc_hull.nd
    rw [getD_map L d3 (0, 0, 0) hi', take_snoc hi' (0, 0, 0)]
    have hv : L.getD i (0, 0, 0) ∈ L := by simp [hi']
    have hw := hy.wpos hv
    have sub : ∀ n ∈ (L.take i).map (·.2.2), n ∣ c := fun n hn => by
      obtain ⟨v, hv, e⟩ := List.mem_map.mp hn
      exact all n (List.mem_map.mpr ⟨v, List.mem_of_mem_take hv, e⟩)
    obtain ⟨p1, p2⟩ := lcml_pos hy.pos sub
    have q1 := Int.le_of_dvd hy.pos hw.2
    have sm := hy.sm
    generalize L.getD i (0, 0, 0) = v at *
    have e : lcml ((L.take i ++ [v]).map (·.2.2)) = ((Nat.lcm (lcml ((L.take i).map (·.2.2))).natAbs v.2.2.natAbs : Nat) : Int) := by
      unfold lcml
      rw [List.map_append, List.foldl_append]
      rfl
    rw [e]
    exact jb_setV 1 (jv_lcm (jv_var 1 rfl) (jv_ixT (jv_var 2 rfl) jv_int rfl) (by omega) (by omega) (by rfl) T.b_lcm) (jb_nil [] ⟨_, rfl⟩) sc_hull.nd
  · subst e
    rw [ll, List.take_length]
    obtain ⟨p1, p2⟩ := lcml_pos hy.pos all
    have sm := hy.sm
    have bu : Bd 21 (lcml (L.map (·.2.2))) := ⟨by omega⟩
    refine jb_set 3 (je_sortSetC (own := [("x", 5), ("y", 6), ("w", 7)]) (st := stT [5, 6, 7]) (tok := okT 3) (fun j => ((L.getD j (0, 0, 0)).1 * (lcml (L.map (·.2.2)) / (L.getD j (0, 0, 0)).2.2), (L.getD j (0, 0, 0)).2.1 * (lcml (L.map (·.2.2)) / (L.getD j (0, 0, 0)).2.2))) (ji_list (jv_var 0 rfl)) (fun _ _ _ _ _ => pg_tup rfl (pgs_cons (pg_name (i := 5) sc_hull.nd rfl (Or.inl rfl)) (pgs_cons (pg_name (i := 6) sc_hull.nd rfl (Or.inl rfl)) (pgs_cons (pg_name (i := 7) sc_hull.nd rfl (Or.inl rfl)) pgs_nil)))) (tg_tup (js := [5, 6, 7]) (n := 3) (by decide) rfl) (by rw [ll]; exact few) (fun i hi => ?_) sc_hull.nd rfl (blk_by N_hull (fnScope s_hull) (by decide +kernel)) (by have := hr.un; show A.units + 3 + 2 < cLine; have := this; show _ < _; exact Nat.lt_of_le_of_lt (by show A.units + 3 + 2 ≤ A.units + 3 + 16 * 2 + 200; omega) this) (by rfl) T.b_sorted) (fun d hd => ?_) sc_hull.nd
    · have hi' : i < L.length := by rw [← ll]; exact hi
      rw [getD_map L d3 (0, 0, 0) hi']
      have hv : L.getD i (0, 0, 0) ∈ L := by simp [hi']
      have hw := hy.wpos hv
      have bv := hy.bd _ hv
      generalize L.getD i (0, 0, 0) = v at *
      refine ⟨rfl, jeb fun s H C' cl fp => ?_⟩
      have bq : Bd 21 (lcml (L.map (·.2.2)) / v.2.2) := ⟨Nat.lt_of_le_of_lt (by
        have a := Int.ediv_nonneg (Int.le_of_lt p1) (Int.le_of_lt hw.1)
        have b := Int.ediv_le_self v.2.2 (Int.le_of_lt p1)
        omega) bu.lt⟩
      exact jv_tup (jav_cons (jv_mul (jv_var 5 rfl) (jv_fdiv (jv_var 1 rfl) (jv_var 7 rfl) hw.1)) (jav_cons (jv_mul (jv_var 6 rfl) (jv_fdiv (jv_var 1 rfl) (jv_var 7 rfl) hw.1)) jav_nil))
    · obtain ⟨M, rfl, am, mem⟩ := hd
      rw [ll] at mem
      obtain ⟨u0, t, t0, ht, rim, mne⟩ := hy.hull am mem
      have len := hy.rel.len
      have rlen : (rimOf M).length = L.length := by
        have := congrArg List.length rim
        rw [List.length_map] at this
        omega
      have mlen : M.length < 1000 := by
        have : M.Nodup := am.imp fun {a b} q e => by rw [e] at q; exact lx_irr b q
        have sub : M ⊆ (List.range L.length).map fun j => ((L.getD j (0, 0, 0)).1 * (lcml (L.map (·.2.2)) / (L.getD j (0, 0, 0)).2.2), (L.getD j (0, 0, 0)).2.1 * (lcml (L.map (·.2.2)) / (L.getD j (0, 0, 0)).2.2)) := fun p hp => by
          obtain ⟨j, hj, e⟩ := (mem p).mp hp
          exact List.mem_map.mpr ⟨j, List.mem_range.mpr hj, e⟩
        have := this.length_le_of_subset sub
        rw [List.length_map, List.length_range] at this
        omega
      have mbd : ∀ p ∈ M, B2 100 p := fun p hp => by
        obtain ⟨j, hj, e⟩ := (mem p).mp hp
        have hv : L.getD j (0, 0, 0) ∈ L := by simp [hj]
        have hw := hy.wpos hv
        have bv := hy.bd _ hv
        rw [← e]
        generalize L.getD j (0, 0, 0) = v at *
        have bq : Bd 21 (lcml (L.map (·.2.2)) / v.2.2) := ⟨Nat.lt_of_le_of_lt (by
          have a := Int.ediv_nonneg (Int.le_of_lt p1) (Int.le_of_lt hw.1)
          have b := Int.ediv_le_self v.2.2 (Int.le_of_lt p1)
          omega) bu.lt⟩
        exact ⟨Bd.up 100 (inferInstance : Bd (50 + 21) (v.1 * (lcml (L.map (·.2.2)) / v.2.2))), Bd.up 100 (inferInstance : Bd (50 + 21) (v.2.1 * (lcml (L.map (·.2.2)) / v.2.2)))⟩
      generalize hu : lcml (L.map (·.2.2)) = u at *
      refine jb_setV 4 (d := .list ((rimOf M).map d2)) (je_ifV (jt_eq (jv_lenL (jv_var 3 rfl) (by rfl) T.b_len) jv_int) (fun h => ?_) fun h => ?_) ?_ sc_hull.nd
      · have h1 : M.length = 1 := by
          have := of_decide_eq_true h
          rw [List.length_map] at this
          omega
        refine JV.is (jv_var 3 rfl) ?_
        unfold rimOf
        rw [if_pos (by omega)]
      · have h1 : M.length ≠ 1 := by
          intro z
          have := of_decide_eq_false h
          rw [List.length_map] at this
          omega
        have h2 : 0 < M.length := List.length_pos_iff.mpr mne
        refine JV.is (jv_cat (jv_init (je_cV cC hr M (jav_cons (jv_var 3 rfl) jav_nil) ⟨mbd, mlen⟩)) (jv_init (je_cV cC hr M.reverse (jav_cons (JV.is (jv_rev (jv_var 3 rfl)) (by rw [← List.map_reverse])) jav_nil) ⟨fun p hp => mbd p (List.mem_reverse.mp hp), by rw [List.length_reverse]; exact mlen⟩)) ?_) ?_
        · have a1 := chainS_len M
          have a2 := chainS_len M.reverse
          rw [List.length_reverse] at a2
          simp only [List.length_dropLast, List.length_map, chain, List.length_reverse]
          omega
        · unfold rimOf
          rw [if_neg (by omega), List.map_append, List.map_dropLast, List.map_dropLast]
      · refine jb_ret (JV.to (jv_tupleL ?_ (by rfl) T.b_tuple) rfl)
        refine JN.je (jn_mapV [("x", 5), ("y", 6)] (fun i => d3 (L.getD i (0, 0, 0))) (ji_list (jv_var 4 rfl)) (fun _ _ _ _ _ => pg_tup rfl (pgs_cons (pg_name (i := 5) sc_hull.nd rfl (Or.inl rfl)) (pgs_cons (pg_name (i := 6) sc_hull.nd rfl (Or.inl rfl)) pgs_nil))) (tg_tup (js := [5, 6]) (n := 2) (by decide) rfl) (by rw [List.length_map]; omega) (fun i hi => ?_) sc_hull.nd (blk_by N_hull (fnScope s_hull) (by decide +kernel))) (fun ds h => ?_)
        · have hi' : i < (rimOf M).length := by rw [List.length_map] at hi; exact hi
          rw [getD_map (rimOf M) d2 (0, 0) hi']
          have hL : i < L.length := by omega
          have l := hy.rel.get hL (0, 0, 0) (0, 0)
          have ed : (rimOf S).getD i (0, 0) = ml t ((rimOf M).getD i (0, 0)) := by
            rw [← rim]
            simp [hi']
          rw [ed] at l
          generalize (rimOf M).getD i (0, 0) = q at *
          refine ⟨rfl, fun s H C' cl fp => ?_⟩
          have g0 : 0 < gcdl [q.1, q.2, u] := gcdl_pos (n := u) (by simp) (by omega)
          have gb : Bd 4000 (gcdl [q.1, q.2, u]) := (Bd.le bu (gcdl_le (by simp) (by omega))).up 4000
          refine JE.imp (je_cV cL hr [q.1, q.2, u] (jav_cons (jv_tup (jav_cons (jv_var 5 rfl) (jav_cons (jv_var 6 rfl) (jav_cons (jv_var 1 rfl) jav_nil)))) jav_nil) ⟨by simp, g0, gb⟩) fun d e => ?_
          have same := l3_same (k := t) t0 l (l3_of g0) (by simp only [ml]) (by simp only [ml]) (by simp only; rw [ht])
          rw [same]
          exact e
        · rw [h, List.length_map, rlen, range_map L (0, 0, 0) d3]
theorem c_is_shape : Cal P w K mg base 4 "is_shape" (spD K (α := Int × List V3 × List Pt) (fun y => [.tuple (y.2.1.map d3)]) (fun y => Said y.1 y.2.1 y.2.2) fun y d => d = .bool true) [] := by
  refine cal_mk' T.d_is_shape sc_is_shape (fun _ => rfl) fun y hy f cdv A outer s H E hr => ?_
  obtain ⟨c, L, S⟩ := y
  simp only at hy
  have cV := c_is_vector (P := P) (w := w) (base := base) T
  have cH := c_hull (P := P) (w := w) (base := base) T
  have ll : (L.map d3).length = L.length := by simp
  have few := hy.few
  have lne : L ≠ [] := fun e => by
    have a := hy.rel.len
    have b := (rim_cvx hy.asc hy.ne).1.ne
    rw [e] at a
    simp only [List.length_nil] at a
    omega
  refine jb_when (P := (· = false)) (jt_w (jw_or (P := (· = false)) (JT.imp (jt_notV (jt_valV (jv_isT (r := true) "tuple" "tuple" (jv_var 0 rfl) rfl T.b_isinstance rfl T.b_tuple))) fun b e => e) (fun h => by cases h) fun _ => ?_)) (fun h => by cases h) fun _ => ?_
  · refine jw_or (P := (· = false)) (JT.imp (jt_eqD (jv_var 0 rfl) (jv_tup jav_nil) hr.units (shaped_tup d3_lay d3_dep L) (by decide +kernel)) fun b e => ?_) (fun h => by cases h) fun _ => jw_or1 ?_
    · rw [e]
      have := eqv_t3 L []
      rw [decide_eq_false lne] at this
      exact this
    · refine JT.imp (jt_notV (jt_valV (k := true) ?_)) fun b e => e
      refine je_allV (n := L.length) (f := fun _ => true) ?_ (by rfl) T.b_all (by rw [all_true])
      refine JN.imp (jn_mapV [("corner", 1)] (fun _ => .bool true) (ji_tup (jv_var 0 rfl)) (fun _ _ _ _ _ => pg_name (i := 1) sc_is_shape.nd rfl (Or.inl rfl)) (tg_name (by decide)) (by rw [ll]; omega) (fun i hi => ⟨trivial, fun s H C' cl fp => ?_⟩) sc_is_shape.nd (blk_by N_is_shape (fnScope s_is_shape) (by decide +kernel))) (fun ds h => by rw [h, ll])
      have hi' : i < L.length := by rw [← ll]; exact hi
      have hv : L.getD i (0, 0, 0) ∈ L := by simp [hi']
      obtain ⟨p, _, l⟩ := hy.rel.lft hv
      exact je_cV cV hr (L.getD i (0, 0, 0)) (jav_cons (jv_var 1 (by rw [getD_map L d3 (0, 0, 0) hi']; rfl)) jav_nil) ⟨(hy.wpos hv).1, l.one⟩
  · refine jb_ret (JV.to (jv_eqD (je_cV cH hr (c, L, S) (jav_cons (jv_listT (jv_var 0 rfl) (by rfl) T.b_list) jav_nil) hy) (jv_var 0 rfl) hr.units (shaped_tup d3_lay d3_dep L) (shaped_tup d3_lay d3_dep L)) ?_)
    rw [eqv_t3, decide_eq_true rfl]
theorem c_check_point : Cal P w K mg base 4 "check_point" (spD K (α := V3) (fun y => [d3 y]) (fun y => 0 < y.2.2 ∧ gcdl [y.1, y.2.1, y.2.2] = 1) fun y d => True) [] := by
  refine cal_mk' T.d_check_point sc_check_point (fun _ => rfl) fun y hy f cdv A outer s H E hr => ?_
  have cV := c_is_vector (P := P) (w := w) (base := base) T
  exact jb_unless (jt_notV (jt_valV (je_cV cV hr y (jav_cons (jv_var 0 rfl) jav_nil) hy))) rfl (jb_nil [] trivial)
theorem c_check_polygon : Cal P w K mg base 5 "check_polygon" (spD K (α := Int × List V3 × List Pt) (fun y => [.tuple (y.2.1.map d3)]) (fun y => Said y.1 y.2.1 y.2.2) fun y d => True) [] := by
  refine cal_mk' T.d_check_polygon sc_check_polygon (fun _ => rfl) fun y hy f cdv A outer s H E hr => ?_
  have cS := c_is_shape (P := P) (w := w) (base := base) T
  exact jb_unless (jt_notV (jt_valV (je_cV cS hr y (jav_cons (jv_var 0 rfl) jav_nil) hy))) rfl (jb_nil [] trivial)
theorem c_check_bearing : Cal P w K mg base 5 "check_bearing" (spD K (α := V3) (fun y => [d3 y]) (fun y => (0 < y.2.2 ∧ gcdl [y.1, y.2.1, y.2.2] = 1) ∧ ¬ (y.1 = 0 ∧ y.2.1 = 0)) fun y d => True) [] := by
  refine cal_mk' T.d_check_bearing sc_check_bearing (fun _ => rfl) fun y hy f cdv A outer s H E hr => ?_
  have cP := c_check_point (P := P) (w := w) (base := base) T
  obtain ⟨na, nm, nd⟩ := T.nought
  refine jb_drop (je_cV cP hr y (jav_cons (jv_var 0 rfl) jav_nil) hy.1) fun _ _ => ?_
  refine jb_unless (jt_eqD (jv_var 0 rfl) (jv_glob (by rfl) nm nd) hr.units (shaped_d3 y) (shaped_d3 (0, 0, 1))) ?_ (jb_nil [] trivial)
  have := eqv_d3 y (0, 0, 1)
  rw [decide_eq_false fun e => hy.2 ⟨by rw [e], by rw [e]⟩] at this
  exact this
end
end Wf

namespace Wf
open PySem PySem.Spec PyProof.Rows L2 C8
def oD : Option Pt → PyData
  | none => .none
  | some p => d2 p
/-- a closing, and whether it is above 0 -/
def GoodD (d : PyData) (g : Bool) : Prop := (d = .none ∧ g = false) ∨ ∃ r : Pt, d = d2 r ∧ g = decide (0 < r.1)
/-- the same without bounds -/
structure Rt' (o u : Int) (r : Pt) : Prop where
  pos : 0 < r.2
  eq : r.1 * u = o * r.2
def OkF (o : Option Pt) : Prop := ∀ f, o = some f → B2 3000 f
theorem grOf_take (S : List V3) (b v : V3) {i : Nat} (h : i < S.length) : grOf (S.take (i + 1)) b v = grOf (S.take i) b v ++ [(((S.getD i (0, 0, 0)).1 * b.1 + (S.getD i (0, 0, 0)).2.1 * b.2.1, (S.getD i (0, 0, 0)).2.2 * v.2.2 - ((S.getD i (0, 0, 0)).1 * v.1 + (S.getD i (0, 0, 0)).2.1 * v.2.1)) : GR)] := by
  rw [take_snoc h (0, 0, 0)]
  unfold grOf
  rw [List.map_append]
  rfl
theorem sgn_rt {o u : Int} {r : Pt} (h : Rt o u r) (hu : 0 < u) : (0 < r.1 ↔ 0 < o) ∧ (r.1 < 0 ↔ o < 0) ∧ (r.1 = 0 ↔ o = 0) := by
  have e : u * r.1 = r.2 * o := by have := h.eq; grind
  obtain ⟨a1, a2, a3⟩ := sgn_of hu h.pos e
  obtain ⟨b1, b2, b3⟩ := sgn_of h.pos hu e.symm
  exact ⟨⟨a1, b1⟩, ⟨a2, b2⟩, ⟨a3, b3⟩⟩
section
variable {P : Program} {w : World} {K : PySem.W.Frag} {mg : Str → Option Value} {base : Heap} (T : Txt K mg)
include T
theorem c_closing_by : Cal P w K mg base 5 "closing_by" (spD K (α := List V3 × V3 × V3) (fun y => [.tuple (y.1.map d3), d3 y.2.1, d3 y.2.2])
    (fun y => ((∀ s ∈ y.1, B3 600 s) ∧ y.1.length < 1000 ∧ B3 700 y.2.1 ∧ B3 100 y.2.2) ∧ (0 < y.2.1.2.2 ∧ 0 < y.2.2.2.2) ∧ (∃ s ∈ y.1, 0 < s.1 * y.2.1.1 + s.2.1 * y.2.1.2.1) ∧ ∃ s ∈ y.1, s.1 * y.2.1.1 + s.2.1 * y.2.1.2.1 < 0)
    fun y d => ∃ g : Bool, GoodD d g ∧ (g = true ↔ RayG (grOf y.1 y.2.1 y.2.2))) [] := by
  refine cal_mk' T.d_closing_by sc_closing_by (fun _ => rfl) fun y hy f cdv A outer s0 H E hr => ?_
  obtain ⟨S, b, v⟩ := y
  obtain ⟨⟨bS, hl, bb, bv⟩, ⟨hW, hV⟩, ⟨su, hsu, upos⟩, ⟨sd, hsd, dneg⟩⟩ := hy
  simp only at bS hl bb bv hW hV hsu upos hsd dneg
  have cA := c_along (P := P) (w := w) (base := base) T
  have cL := c_ratio_less (P := P) (w := w) (base := base) T
  have cO := c_ratio_over (P := P) (w := w) (base := base) T
  have cLo := c_lower_of (P := P) (w := w) (base := base) T
  have cHi := c_higher_of (P := P) (w := w) (base := base) T
  have cI := c_is_lower (P := P) (w := w) (base := base) T
  have ll : (S.map d3).length = S.length := by simp
  refine jb_asg (jv_tup (jav_cons jv_none (jav_cons jv_none jav_nil))) fun d e => ?_
  subst e
  refine jg_tup (jgs_cons (jg_name 3 (jgs_cons (jg_name 4 (jgs_nil ?_) sc_closing_by.nd)) sc_closing_by.nd))
  refine jb_for (fun i ρ => ∃ lo hi y5 y6 y7 y8 y9 y10, ρ = [.val (.tuple (S.map d3)), .val (d3 b), .val (d3 v), .val (oD lo), .val (oD hi), y5, y6, y7, y8, y9, y10] ∧ Lo v.2.2 b.2.2 (grOf (S.take i) b v) lo ∧ Hi v.2.2 b.2.2 (grOf (S.take i) b v) hi ∧ OkF lo ∧ OkF hi ∧ ∀ x ∈ grOf (S.take i) b v, x.1 = 0 → 0 ≤ x.2) (ji_tup (jv_var 0 rfl)) ⟨none, none, .no, .no, .no, .no, .no, .no, rfl, (fun x hx => nomatch hx), (fun x hx => nomatch hx), (fun f e => nomatch e), (fun f e => nomatch e), fun x hx => nomatch hx⟩ (fun i ρ hi' J => ?_) (fun ρ J => ?_)
  · obtain ⟨lo, hi, y5, y6, y7, y8, y9, y10, rfl, LO, HI, okl, okh, zz⟩ := J
    have hi2 : i < S.length := by simpa using hi'
    rw [getD_map S d3 (0, 0, 0) hi2]
    have hs : S.getD i (0, 0, 0) ∈ S := by simp [hi2]
    have bs := bS _ hs
    have gt := grOf_take S b v hi2
    generalize S.getD i (0, 0, 0) = s at *
    -- the next pair
    have zn : (s.1 * b.1 + s.2.1 * b.2.1 = 0 → 0 ≤ s.2.2 * v.2.2 - (s.1 * v.1 + s.2.1 * v.2.1)) → ∀ x ∈ grOf (S.take (i + 1)) b v, x.1 = 0 → 0 ≤ x.2 := fun k x hx h0 => by
      rw [gt] at hx
      rcases mem_snoc hx with q | q
      · exact zz x q h0
      · rw [q] at h0 ⊢
        exact k h0
    refine jg_tup (jgs_cons (jg_name 5 (jgs_cons (jg_name 6 (jgs_cons (jg_name 7 (jgs_nil ?_) sc_closing_by.nd)) sc_closing_by.nd)) sc_closing_by.nd))
    have b1 : Bd 1301 (s.1 * b.1 + s.2.1 * b.2.1) := inferInstance
    have b2' : Bd 701 (s.1 * v.1 + s.2.1 * v.2.1) := inferInstance
    have bn : B2 600 (s.1, s.2.1) := ⟨bs.x, bs.y⟩
    refine jb_set 8 (je_cV cA hr ((s.1, s.2.1), b) (jav_cons (jv_tup (jav_cons (jv_var 5 rfl) (jav_cons (jv_var 6 rfl) jav_nil))) (jav_cons (jv_var 1 rfl) jav_nil)) ⟨by show b.2.2 ≠ 0; omega, bn, bb⟩) (fun d1 ⟨r1, e1, R1⟩ => ?_) sc_closing_by.nd
    subst e1
    have br1 : B2 1301 r1 := ⟨Bd.le b1 R1.b1, (Bd.le bb.z R1.b2).up 1301⟩
    refine jb_set 9 (Q := fun d => ∃ r2 r3 : Pt, d = d2 r3 ∧ Rt (s.1 * v.1 + s.2.1 * v.2.1) v.2.2 r2 ∧ Rt (s.2.2 * r2.2 - r2.1 * 1) (1 * r2.2) r3) (je_cR cL hr (R := fun ds => ∃ r2 : Pt, ds = [d2 (s.2.2, 1), d2 r2] ∧ Rt (s.1 * v.1 + s.2.1 * v.2.1) v.2.2 r2) (ja_cons (jv_tup (jav_cons (jv_var 7 rfl) (jav_cons jv_int jav_nil))) fun dd ee => ja_cons (je_cV cA hr ((s.1, s.2.1), v) (jav_cons (jv_tup (jav_cons (jv_var 5 rfl) (jav_cons (jv_var 6 rfl) jav_nil))) (jav_cons (jv_var 2 rfl) jav_nil)) ⟨by show v.2.2 ≠ 0; omega, bn, ⟨bv.x.up 700, bv.y.up 700, bv.z.up 700⟩⟩) fun d2' ⟨r2, e2, R2⟩ => ja_nil ⟨r2, by rw [ee, e2], R2⟩) fun ds ⟨r2, e2, R2⟩ => ⟨((s.2.2, 1), r2), e2, ⟨⟨show (0 : Int) < 1 by decide, R2.pos⟩, ⟨bs.z.up 1000, bd_lit1.up 1000⟩, ⟨(Bd.le b2' R2.b1).up 1000, (Bd.le bv.z R2.b2).up 1000⟩⟩, fun d ⟨r3, e3, R3⟩ => ⟨r2, r3, e3, R2, R3⟩⟩) (fun d ⟨r2, r3, e3, R2, R3⟩ => ?_) sc_closing_by.nd
    subst e3
    have br2a : Bd 701 r2.1 := Bd.le b2' R2.b1
    have br2b : Bd 100 r2.2 := Bd.le bv.z R2.b2
    have br3 : B2 704 r3 := ⟨(Bd.le (inferInstance : Bd (max (600 + 100) (701 + 1) + 1) (s.2.2 * r2.2 - r2.1 * 1)) R3.b1).up 704, (Bd.le (inferInstance : Bd (1 + 100) (1 * r2.2)) R3.b2).up 704⟩
    have room := room_of (h := s.2.2) (sv := s.1 * v.1 + s.2.1 * v.2.1) (V := v.2.2) R2.pos R2.eq R3.eq
    obtain ⟨g1, g2, g3⟩ := sgn_rt R1 hW
    have rsg : (r3.1 < 0 ↔ s.2.2 * v.2.2 - (s.1 * v.1 + s.2.1 * v.2.1) < 0) := by
      have e : v.2.2 * r3.1 = r3.2 * (s.2.2 * v.2.2 - (s.1 * v.1 + s.2.1 * v.2.1)) := by rw [Int.mul_comm, room, Int.mul_comm]
      exact ⟨(sgn_of hV R3.pos e).2.1, (sgn_of R3.pos hV e.symm).2.1⟩
    have here : ((s.1 * b.1 + s.2.1 * b.2.1, s.2.2 * v.2.2 - (s.1 * v.1 + s.2.1 * v.2.1)) : GR) ∈ grOf S b v := List.mem_map.mpr ⟨s, hs, rfl⟩
    refine jb_ifV (jt_eq (jv_ixT (jv_var 8 rfl) jv_int rfl) jv_int) (fun h0 => ?_) (fun h0 => ?_)
    · have z : s.1 * b.1 + s.2.1 * b.2.1 = 0 := g3.mp (of_decide_eq_true h0)
      refine jb_whenV (jt_lt (jv_ixT (jv_var 9 rfl) jv_int rfl) jv_int) (fun hr0 => ?_) (fun hr0 => ?_)
      · have rneg := rsg.mp (of_decide_eq_true hr0)
        refine jb_ret (JV.to jv_none ⟨false, .inl ⟨rfl, rfl⟩, fun q => (nomatch q), fun q => ?_⟩)
        exact absurd q (no_zero here z rneg)
      · have rnn : ¬ _ := fun q => of_decide_eq_false hr0 (rsg.mpr q)
        refine jb_nil [] (jb_nil [] ⟨lo, hi, _, _, _, _, _, _, rfl, ?_, ?_, okl, okh, zn fun _ => Int.not_lt.mp rnn⟩)
        · rw [gt]; exact LO.skip (by simp only; omega)
        · rw [gt]; exact HI.skip (by simp only; omega)
    · have z : s.1 * b.1 + s.2.1 * b.2.1 ≠ 0 := fun q => of_decide_eq_false h0 (g3.mpr q)
      have r1nz : r1.1 ≠ 0 := fun q => z (g3.mp q)
      have r3nz : r3.2 ≠ 0 := by have := R3.pos; omega
      have bnd : ∀ r4, Rt (r3.1 * r1.2) (r3.2 * r1.1) r4 → B2 3000 r4 := fun r4 R4 => ⟨(Bd.le (inferInstance : Bd (704 + 1301) (r3.1 * r1.2)) R4.b1).up 3000, (Bd.le (inferInstance : Bd (704 + 1301) (r3.2 * r1.1)) R4.b2).up 3000⟩
      have tgt : ∀ r4, Rt (r3.1 * r1.2) (r3.2 * r1.1) r4 → Tgt v.2.2 b.2.2 r4 (s.1 * b.1 + s.2.1 * b.2.1, s.2.2 * v.2.2 - (s.1 * v.1 + s.2.1 * v.2.1)) := fun r4 R4 => tight_of hV hW R1.pos R3.pos R1.eq room R4.eq
      refine jb_ifV (jt_gt (jv_ixT (jv_var 8 rfl) jv_int rfl) jv_int) (fun h1 => ?_) (fun h1 => ?_)
      · have gp : 0 < s.1 * b.1 + s.2.1 * b.2.1 := g1.mp (of_decide_eq_true h1)
        refine jb_set 10 (je_cV cO hr (r3, r1) (jav_cons (jv_var 9 rfl) (jav_cons (jv_var 8 rfl) jav_nil)) ⟨⟨r3nz, r1nz⟩, ⟨br3.x.up 1400, br3.y.up 1400⟩, ⟨br1.x.up 1400, br1.y.up 1400⟩⟩) (fun d4 ⟨r4, e4, R4⟩ => ?_) sc_closing_by.nd
        subst e4
        have b4 := bnd r4 R4
        have t4 := tgt r4 R4
        cases hi with
        | none =>
          refine jb_setV 4 (d := d2 r4) (je_ifV (jt_isNone (jv_var 4 rfl) jv_none) (fun _ => jv_var 10 rfl) (fun h => by cases h)) ?_ sc_closing_by.nd
          refine jb_nil [] (jb_nil [] (jb_nil [] ⟨lo, some r4, _, _, _, _, _, _, rfl, ?_, ?_, okl, fun f e => by cases e; exact b4, zn fun q => absurd q z⟩))
          · rw [gt]; exact LO.skip (by simp only; omega)
          · rw [gt]; exact HI.first gp R4.pos t4
        | some f0 =>
          have bf := okh f0 rfl
          refine jb_setV 4 (d := d2 (if r4.1 * f0.2 < f0.1 * r4.2 then r4 else f0)) (je_ifV (jt_isNone (jv_var 4 rfl) jv_none) (fun h => by cases h) (fun _ => je_cV cLo hr (f0, r4) (jav_cons (jv_var 4 rfl) (jav_cons (jv_var 10 rfl) jav_nil)) ⟨bf, b4⟩)) ?_ sc_closing_by.nd
          refine jb_nil [] (jb_nil [] (jb_nil [] ⟨lo, some (if r4.1 * f0.2 < f0.1 * r4.2 then r4 else f0), _, _, _, _, _, _, rfl, ?_, ?_, okl, fun f e => ?_, zn fun q => absurd q z⟩))
          · rw [gt]; exact LO.skip (by simp only; omega)
          · rw [gt]; exact HI.next hV gp R4.pos t4
          · cases e
            split
            · exact b4
            · exact bf
      · have gp : s.1 * b.1 + s.2.1 * b.2.1 < 0 := by
          have := of_decide_eq_false h1
          have : ¬ 0 < s.1 * b.1 + s.2.1 * b.2.1 := fun q => this (g1.mpr q)
          omega
        refine jb_set 10 (je_cV cO hr (r3, r1) (jav_cons (jv_var 9 rfl) (jav_cons (jv_var 8 rfl) jav_nil)) ⟨⟨r3nz, r1nz⟩, ⟨br3.x.up 1400, br3.y.up 1400⟩, ⟨br1.x.up 1400, br1.y.up 1400⟩⟩) (fun d4 ⟨r4, e4, R4⟩ => ?_) sc_closing_by.nd
        subst e4
        have b4 := bnd r4 R4
        have t4 := tgt r4 R4
        cases lo with
        | none =>
          refine jb_setV 3 (d := d2 r4) (je_ifV (jt_isNone (jv_var 3 rfl) jv_none) (fun _ => jv_var 10 rfl) (fun h => by cases h)) ?_ sc_closing_by.nd
          refine jb_nil [] (jb_nil [] (jb_nil [] ⟨some r4, hi, _, _, _, _, _, _, rfl, ?_, ?_, fun f e => by cases e; exact b4, okh, zn fun q => absurd q z⟩))
          · rw [gt]; exact LO.first gp R4.pos t4
          · rw [gt]; exact HI.skip (by simp only; omega)
        | some f0 =>
          have bf := okl f0 rfl
          refine jb_setV 3 (d := d2 (if f0.1 * r4.2 < r4.1 * f0.2 then r4 else f0)) (je_ifV (jt_isNone (jv_var 3 rfl) jv_none) (fun h => by cases h) (fun _ => je_cV cHi hr (f0, r4) (jav_cons (jv_var 3 rfl) (jav_cons (jv_var 10 rfl) jav_nil)) ⟨bf, b4⟩)) ?_ sc_closing_by.nd
          refine jb_nil [] (jb_nil [] (jb_nil [] ⟨some (if f0.1 * r4.2 < r4.1 * f0.2 then r4 else f0), hi, _, _, _, _, _, _, rfl, ?_, ?_, fun f e => ?_, okh, zn fun q => absurd q z⟩))
          · rw [gt]; exact LO.next hV gp R4.pos t4
          · rw [gt]; exact HI.skip (by simp only; omega)
          · cases e
            split
            · exact b4
            · exact bf
  · obtain ⟨lo, hi, y5, y6, y7, y8, y9, y10, rfl, LO, HI, okl, okh, zz⟩ := J
    rw [ll, List.take_length] at LO HI zz
    cases lo with
    | none => exact absurd dneg (LO _ (List.mem_map.mpr ⟨sd, hsd, rfl⟩))
    | some l =>
      cases hi with
      | none => exact absurd upos (HI _ (List.mem_map.mpr ⟨su, hsu, rfl⟩))
      | some h =>
        have bl := okl l rfl
        have bh := okh h rfl
        refine jb_ret (je_ifV (jt_valV (je_cV cI hr (h, l) (jav_cons (jv_var 4 rfl) (jav_cons (jv_var 3 rfl) jav_nil)) ⟨bh, bl⟩)) (fun q => ?_) (fun q => ?_))
        · refine JV.to jv_none ⟨false, .inl ⟨rfl, rfl⟩, fun z => (nomatch z), fun z => ?_⟩
          exact absurd z (close_none hV hW HI LO (of_decide_eq_true q))
        · refine JV.to (jv_var 4 rfl) ⟨decide (0 < h.1), .inr ⟨h, rfl, rfl⟩, ?_⟩
          rw [decide_eq_true_eq]
          exact close_some hV hW HI LO (of_decide_eq_false q) zz
theorem c_is_good : Cal P w K mg base 1 "is_good" (spD K (α := PyData × Bool) (fun y => [y.1]) (fun y => GoodD y.1 y.2) fun y d => d = .bool y.2) [] := by
  refine cal_mk' T.d_is_good sc_is_good (fun _ => rfl) fun y hy f cdv A outer s0 H E hr => ?_
  obtain ⟨d, g⟩ := y
  rcases hy with ⟨e, eg⟩ | ⟨r, e, eg⟩
  · simp only at e eg
    subst e eg
    exact jb_ret (je_and (P := (· = false)) (JV.to (jv_notNone (jv_var 0 rfl) jv_none) ⟨_, rfl, rfl⟩) (fun _ => rfl) (fun h => by cases h))
  · simp only at e eg
    subst e eg
    exact jb_ret (je_and (P := (· = true)) (JV.to (jv_notNone (jv_var 0 rfl) jv_none) ⟨_, rfl, rfl⟩) (fun h => by cases h) (fun _ => je_one (JV.to (jv_gt (jv_ixT (jv_var 0 rfl) jv_int rfl) jv_int) rfl)))
end
end Wf

namespace Wf
open PySem PySem.Spec PyProof.Rows L2 C8
theorem get_getD {α : Type} {L : List α} {i : Nat} (h : i < L.length) (d : α) : L[i]? = some (L.getD i d) := by
  rw [List.getD_eq_getElem?_getD, List.getElem?_eq_getElem h]
  rfl
/-- a chaser's and a fleer's velocities, said over scales -/
structure Duel where
  cf : Int
  Lf : List V3
  Sf : List Pt
  cs : Int
  Ls : List V3
  Ss : List Pt
structure Duel.Ok (y : Duel) : Prop where
  f : Said y.cf y.Lf y.Sf
  s : Said y.cs y.Ls y.Ss
/-- the dots of both over one scale -/
abbrev Duel.N (y : Duel) : Int := y.cf * y.cs
abbrev Duel.D (y : Duel) : List Pt := (rimOf y.Sf).map (ml y.cs)
abbrev Duel.E (y : Duel) : List Pt := (rimOf y.Ss).map (ml y.cf)
theorem vrel_up {c k : Int} {v : V3} {p : Pt} (hc : 0 < c) (hk : 0 < k) (l : L3 (p.1, p.2, c) v) : VRel (c * k) v (ml k p) := by
  obtain ⟨g, hg, q1, q2, q3⟩ := l.ex
  simp only at q1 q2 q3
  refine ⟨g * k, 1, mul_pp hg hk, by decide, ?_, ?_, ?_⟩
  · simp only [ml]; rw [← q1]; grind
  · simp only [ml]; rw [← q2]; grind
  · rw [← q3]; grind
theorem said_rel {c k : Int} {L : List V3} {S : List Pt} (h : Said c L S) (hk : 0 < k) : All2 (VRel (c * k)) L ((rimOf S).map (ml k)) := by
  refine all2_of (by rw [List.length_map]; exact h.rel.len) fun i s e => ?_
  have hi : i < L.length := (List.getElem?_eq_some_iff.mp e).1
  have hi' : i < (rimOf S).length := by rw [← h.rel.len]; exact hi
  refine ⟨ml k ((rimOf S)[i]), by simp [hi'], ?_⟩
  exact vrel_up h.pos hk (h.rel.at_ i s _ e (List.getElem?_eq_getElem hi'))
theorem said_cvx {c k : Int} {L : List V3} {S : List Pt} (h : Said c L S) (hk : 0 < k) : Cvx ((rimOf S).map (ml k)) := by
  rw [← rim_map hk]
  refine (rim_cvx (asc_nodup h.asc k hk) fun e => ?_).1
  exact h.ne (List.map_eq_nil_iff.mp e)
theorem Duel.Ok.poly {y : Duel} (h : y.Ok) : PolyOk y.N y.Lf y.D :=
  ⟨mul_pp h.f.pos h.s.pos, said_rel h.f h.s.pos, said_cvx h.f h.s.pos, h.f.poly.bd, h.f.poly.few⟩
theorem Duel.Ok.flee {y : Duel} (h : y.Ok) : All2 (VRel y.N) y.Ls y.E := by
  have := said_rel h.s h.f.pos
  rw [Int.mul_comm] at this
  exact this
/-- what the sides of the chaser's velocities are -/
structure SidesOk (y : Duel) (S : List V3) : Prop where
  rel : All2 (SRel y.N) S (sidesOf y.D)
  bd : ∀ s ∈ S, B3 600 s
  few : S.length < 1000
theorem bnd100 {v : V3} (h : B3 50 v) : B3 100 v := ⟨h.x.up 100, h.y.up 100, h.z.up 100⟩
/-- some side's gain is above 0, some one's below -/
theorem SidesOk.both {y : Duel} {S : List V3} (h : y.Ok) (k : SidesOk y S) {d : Pt} (hd : d ≠ (0, 0)) : (∃ s ∈ S, 0 < s.1 * d.1 + s.2.1 * d.2) ∧ ∃ s ∈ S, s.1 * d.1 + s.2.1 * d.2 < 0 := by
  have up : ∀ d : Pt, d ≠ (0, 0) → ∃ s ∈ S, 0 < s.1 * d.1 + s.2.1 * d.2 := fun d hd => by
    obtain ⟨sd, hsd, hp⟩ := sides_bound (said_cvx h.f h.s.pos) hd
    obtain ⟨s, hs, r⟩ := k.rel.rgt hsd
    obtain ⟨i, j, hi, hj, e1, e2, _⟩ := r.ex
    refine ⟨s, hs, pos_of_mul hi ?_⟩
    have e : i * (s.1 * d.1 + s.2.1 * d.2) = j * y.N * dt sd.1 d := by
      have : i * (s.1 * d.1 + s.2.1 * d.2) = (i * s.1) * d.1 + (i * s.2.1) * d.2 := by grind
      rw [this, e1, e2]
      simp only [dt]
      grind
    rw [e]
    exact mul_pp (mul_pp hj (mul_pp h.f.pos h.s.pos)) hp
  refine ⟨up d hd, ?_⟩
  obtain ⟨s, hs, hp⟩ := up (-d.1, -d.2) fun e => hd (by
    have a := congrArg Prod.fst e
    have b := congrArg Prod.snd e
    simp only at a b
    exact Prod.ext (by simp only; omega) (by simp only; omega))
  refine ⟨s, hs, ?_⟩
  simp only at hp
  have e : s.1 * -d.1 + s.2.1 * -d.2 = -(s.1 * d.1 + s.2.1 * d.2) := by grind
  omega
section
variable {P : Program} {w : World} {K : PySem.W.Frag} {mg : Str → Option Value} {base : Heap} (T : Txt K mg)
include T
theorem c_closings_of : Cal P w K mg base 6 "closings_of" (spD K (α := Duel × V3) (fun y => [.tuple (y.1.Lf.map d3), d3 y.2, .tuple (y.1.Ls.map d3)]) (fun y => y.1.Ok ∧ 0 < y.2.2.2 ∧ B3 700 y.2 ∧ ((y.2.1, y.2.2.1) : Pt) ≠ (0, 0))
    fun y d => ∃ gs : List (PyData × Bool), d = .list (gs.map (·.1)) ∧ All2 (fun g B => GoodD g.1 g.2 ∧ (g.2 = true ↔ Hit y.1.D B (y.2.1, y.2.2.1))) gs y.1.E) [] := by
  refine cal_mk' T.d_closings_of sc_closings_of (fun _ => rfl) fun y hy f cdv A outer s0 H E hr => ?_
  obtain ⟨y, b⟩ := y
  obtain ⟨ok, hb, bb, hd⟩ := hy
  simp only at ok hb bb hd
  have cS := c_sides (P := P) (w := w) (base := base) T
  have cB := c_closing_by (P := P) (w := w) (base := base) T
  have ll : (y.Ls.map d3).length = y.Ls.length := by simp
  refine jb_set 3 (je_cV cS hr (y.N, y.Lf, y.D) (jav_cons (jv_var 0 rfl) jav_nil) ok.poly) (fun d ⟨S, e, r1, r2, r3⟩ => ?_) sc_closings_of.nd
  subst e
  have so : SidesOk y S := ⟨r1, r2, r3⟩
  refine jb_ret (JN.je (jn_mapR [("corner", 4)] (fun i d => ∃ g : PyData × Bool, d = g.1 ∧ GoodD g.1 g.2 ∧ ∃ B, y.E[i]? = some B ∧ (g.2 = true ↔ Hit y.D B (b.1, b.2.1))) (ji_tup (jv_var 2 rfl)) (fun _ _ _ _ _ => pg_name (i := 4) sc_closings_of.nd rfl (Or.inl rfl)) (tg_name (by decide)) (by rw [ll]; have := ok.s.few; omega) (fun i hi => ⟨trivial, fun s H C' cl fp => ?_⟩) sc_closings_of.nd (blk_by N_closings_of (fnScope s_closings_of) (by decide +kernel))) (fun ds h => ?_))
  · have hi' : i < y.Ls.length := by rw [← ll]; exact hi
    have hv : y.Ls.getD i (0, 0, 0) ∈ y.Ls := by simp [hi']
    have vr := ok.flee.get hi' (0, 0, 0) (0, 0)
    have bv := bnd100 (ok.s.bd _ hv)
    have vp := (ok.s.wpos hv).1
    have hE : i < y.E.length := by rw [← ok.flee.len]; exact hi'
    refine JE.imp (je_cV cB hr (S, b, y.Ls.getD i (0, 0, 0)) (jav_cons (jv_var 3 rfl) (jav_cons (jv_var 1 rfl) (jav_cons (jv_var 4 (by rw [getD_map y.Ls d3 (0, 0, 0) hi']; rfl)) jav_nil))) ⟨⟨r2, r3, bb, bv⟩, ⟨hb, vp⟩, so.both ok hd⟩) fun d ⟨g, gd, gi⟩ => ⟨(d, g), rfl, gd, y.E.getD i (0, 0), get_getD hE _, ?_⟩
    rw [gi]
    have := rayG_iff (b := b) (d := (b.1, b.2.1)) (mul_pp ok.f.pos ok.s.pos) r1 vr (Par.refl _)
    rw [this]
    exact ray_iff (said_cvx ok.f ok.s.pos) hd
  · rw [ll] at h
    obtain ⟨G, k1, k2, k3⟩ := pick (α := PyData × Bool) (f := (·.1)) (R := fun i g => GoodD g.1 g.2 ∧ ∃ B, y.E[i]? = some B ∧ (g.2 = true ↔ Hit y.D B (b.1, b.2.1))) h.1 h.2
    refine ⟨G, by rw [k2], all2_of (by rw [k1]; exact ok.flee.len) fun i g e => ?_⟩
    obtain ⟨gd, B, eB, hB⟩ := k3 i g e
    exact ⟨B, eB, gd, hB⟩
end
end Wf

namespace Wf
open PySem PySem.Spec PyProof.Rows L2 C8
section
variable {P : Program} {w : World} {K : PySem.W.Frag} {mg : Str → Option Value} {base : Heap} (T : Txt K mg)
include T
theorem c_is_caught_from : Cal P w K mg base 7 "is_caught_from" (spD K (α := Duel × V3) (fun y => [.tuple (y.1.Lf.map d3), .tuple (y.1.Ls.map d3), d3 y.2]) (fun y => y.1.Ok ∧ (0 < y.2.2.2 ∧ gcdl [y.2.1, y.2.2.1, y.2.2.2] = 1) ∧ B3 700 y.2 ∧ ((y.2.1, y.2.2.1) : Pt) ≠ (0, 0)) fun y d => ∃ g : Bool, d = .bool g ∧ (g = true ↔ ∀ B ∈ y.1.E, Hit y.1.D B (y.2.1, y.2.2.1))) [] ∧
    CalK P w K mg base 7 "is_caught_from" ["bearing", "velocities", "fleeing"] gA3 gA3 (spD K (α := Duel × V3) (fun y => [.tuple (y.1.Lf.map d3), .tuple (y.1.Ls.map d3), d3 y.2]) (fun y => y.1.Ok ∧ (0 < y.2.2.2 ∧ gcdl [y.2.1, y.2.2.1, y.2.2.2] = 1) ∧ B3 700 y.2 ∧ ((y.2.1, y.2.2.1) : Pt) ≠ (0, 0)) fun y d => ∃ g : Bool, d = .bool g ∧ (g = true ↔ ∀ B ∈ y.1.E, Hit y.1.D B (y.2.1, y.2.2.1))) := by
  refine cal_mkK T.d_is_caught_from sc_is_caught_from (fun _ => rfl) fun y hy f cdv A outer s0 H E hr => ?_
  obtain ⟨y, b⟩ := y
  obtain ⟨ok, hb, bb, hd⟩ := hy
  simp only at ok hb bb hd
  have cP := c_check_polygon (P := P) (w := w) (base := base) T
  have cB := c_check_bearing (P := P) (w := w) (base := base) T
  have cC := c_closings_of (P := P) (w := w) (base := base) T
  have cG := c_is_good (P := P) (w := w) (base := base) T
  refine jb_drop (je_cV cP hr (y.cf, y.Lf, y.Sf) (jav_cons (jv_var 0 rfl) jav_nil) ok.f) fun _ _ => ?_
  refine jb_drop (je_cV cP hr (y.cs, y.Ls, y.Ss) (jav_cons (jv_var 1 rfl) jav_nil) ok.s) fun _ _ => ?_
  refine jb_drop (je_cV cB hr b (jav_cons (jv_var 2 rfl) jav_nil) ⟨hb, fun e => hd (Prod.ext e.1 e.2)⟩) fun _ _ => ?_
  refine jb_ret (je_all (JN.je (P := fun ds => ∃ gs : List (PyData × Bool), All2 (fun g B => GoodD g.1 g.2 ∧ (g.2 = true ↔ Hit y.D B (b.1, b.2.1))) gs y.E ∧ ds = gs.map fun g => PyData.bool g.2) ?_ fun ds h => ?_) (by rfl) T.b_all)
  · refine jn_lcX (β := List (PyData × Bool)) (px := fun gs => All2 (fun g B => GoodD g.1 g.2 ∧ (g.2 = true ↔ Hit y.D B (b.1, b.2.1))) gs y.E) [("number", 3)] (fun gs i ds => ds = (gs.take i).map fun g => PyData.bool g.2)
      (jix_list (fun gs => gs.map (·.1)) (JE.imp (je_cV cC hr (y, b) (jav_cons (jv_var 0 rfl) (jav_cons (jv_var 2 rfl) (jav_cons (jv_var 1 rfl) jav_nil))) ⟨ok, hb.1, bb, hd⟩) fun d ⟨gs, e, r⟩ => ⟨gs, r, e⟩))
      (fun _ _ _ _ _ => pg_name (i := 3) sc_is_caught_from.nd rfl (Or.inl rfl)) (tg_name (by decide)) (fun gs r => rfl) (fun gs i ds r e => ?_) (fun gs i ds r hi e => ⟨trivial, (· = true), jtb fun _ _ _ _ _ => jts_nil, (fun h => by cases h), fun _ => jeb fun s H C' cl fp => ?_⟩) (fun gs ds r e => ⟨gs, r, ?_⟩) sc_is_caught_from.nd (blk_by N_is_caught_from (fnScope s_is_caught_from) (by decide +kernel))
    · have := r.len
      have l2 := ok.flee.len
      have l3 := ok.s.few
      rw [e, List.length_map, List.length_take]
      omega
    · have hi' : i < gs.length := by simpa using hi
      have g0 := r.at_ i (gs.getD i (.none, false)) (y.E.getD i (0, 0)) (get_getD hi' _) (get_getD (by rw [← r.len]; exact hi') _)
      refine JE.imp (je_cV cG hr (gs.getD i (.none, false)) (jav_cons (jv_var 3 (show _ = some (SD.val (gs.getD i (.none, false)).1) from ?_)) jav_nil) g0.1) fun d e2 => ?_
      · show some (SD.val ((gs.map (·.1)).getD i .none)) = _
        rw [getD_map gs (·.1) (.none, false) hi']
      · rw [e2, e, take_snoc hi' (.none, false), List.map_append]
        rfl
    · have : (gs.map (·.1)).length = gs.length := by simp
      rw [this, List.take_length] at e
      exact e
  · obtain ⟨gs, r, rfl⟩ := h
    refine ⟨gs.map (·.2), by rw [List.map_map]; rfl, _, rfl, ?_⟩
    rw [List.all_eq_true]
    constructor
    · intro h B hB
      obtain ⟨g, hg, _, q⟩ := r.rgt hB
      exact q.mp (h g.2 (List.mem_map.mpr ⟨g, hg, rfl⟩))
    · intro h x hx
      obtain ⟨g, hg, rfl⟩ := List.mem_map.mp hx
      obtain ⟨B, hB, _, q⟩ := r.lft hg
      exact q.mpr (h B hB)
theorem c_catches_always : Cal P w K mg base 6 "catches_always" (spD K (α := Duel) (fun y => [.tuple (y.Lf.map d3), .tuple (y.Ls.map d3)]) (fun y => y.Ok) fun y d => ∃ g : Bool, d = .bool g ∧ (g = true ↔ ∀ B ∈ y.E, ∀ s ∈ sidesOf y.D, out s B < 0)) [] ∧
    CalK P w K mg base 6 "catches_always" ["fleeing", "velocities"] gA2 gA2 (spD K (α := Duel) (fun y => [.tuple (y.Lf.map d3), .tuple (y.Ls.map d3)]) (fun y => y.Ok) fun y d => ∃ g : Bool, d = .bool g ∧ (g = true ↔ ∀ B ∈ y.E, ∀ s ∈ sidesOf y.D, out s B < 0)) := by
  refine cal_mkK T.d_catches_always sc_catches_always (fun _ => rfl) fun y ok f cdv A outer s0 H E hr => ?_
  have cP := c_check_polygon (P := P) (w := w) (base := base) T
  have cS := c_sides (P := P) (w := w) (base := base) T
  have cI := c_is_strictly_in (P := P) (w := w) (base := base) T
  have ll : (y.Ls.map d3).length = y.Ls.length := by simp
  refine jb_drop (je_cV cP hr (y.cf, y.Lf, y.Sf) (jav_cons (jv_var 0 rfl) jav_nil) ok.f) fun _ _ => ?_
  refine jb_drop (je_cV cP hr (y.cs, y.Ls, y.Ss) (jav_cons (jv_var 1 rfl) jav_nil) ok.s) fun _ _ => ?_
  refine jb_set 2 (je_cV cS hr (y.N, y.Lf, y.D) (jav_cons (jv_var 0 rfl) jav_nil) ok.poly) (fun d ⟨S, e, r1, r2, r3⟩ => ?_) sc_catches_always.nd
  subst e
  refine jb_ret (JE.imp (Q := fun d => d = .bool ((List.range y.Ls.length).all fun i => S.all fun s => decide (val s (y.Ls.getD i (0, 0, 0)) < 0))) (je_allV (n := y.Ls.length) (f := fun i => S.all fun s => decide (val s (y.Ls.getD i (0, 0, 0)) < 0)) ?_ (by rfl) T.b_all rfl) fun d e => ⟨_, e, ?_⟩)
  · refine JN.imp (jn_mapV [("corner", 3)] (fun i => .bool (S.all fun s => decide (val s (y.Ls.getD i (0, 0, 0)) < 0))) (ji_tup (jv_var 1 rfl)) (fun _ _ _ _ _ => pg_name (i := 3) sc_catches_always.nd rfl (Or.inl rfl)) (tg_name (by decide)) (by rw [ll]; have := ok.s.few; omega) (fun i hi => ⟨trivial, fun s H C' cl fp => ?_⟩) sc_catches_always.nd (blk_by N_catches_always (fnScope s_catches_always) (by decide +kernel))) (fun ds h => by rw [h, ll])
    have hi' : i < y.Ls.length := by rw [← ll]; exact hi
    have hv : y.Ls.getD i (0, 0, 0) ∈ y.Ls := by simp [hi']
    exact je_cV cI hr (S, y.Ls.getD i (0, 0, 0)) (jav_cons (jv_var 2 rfl) (jav_cons (jv_var 3 (by rw [getD_map y.Ls d3 (0, 0, 0) hi']; rfl)) jav_nil)) ⟨r2, r3, bnd100 (ok.s.bd _ hv)⟩
  · have e1 := range_all y.Ls (0, 0, 0) fun v => S.all fun s => decide (val s v < 0)
    rw [e1, List.all_eq_true]
    have np := mul_pp ok.f.pos ok.s.pos
    constructor
    · intro h B hB sd hsd
      obtain ⟨v, hv, rv⟩ := ok.flee.rgt hB
      obtain ⟨s, hs, rs⟩ := r1.rgt hsd
      have := List.all_eq_true.mp (h v hv) s hs
      exact (val_neg np rs rv).1.mp (of_decide_eq_true this)
    · intro h v hv
      obtain ⟨B, hB, rv⟩ := ok.flee.lft hv
      refine List.all_eq_true.mpr fun s hs => ?_
      obtain ⟨sd, hsd, rs⟩ := r1.lft hs
      exact decide_eq_true ((val_neg np rs rv).1.mpr (h B hB sd hsd))
theorem c_seen_from : Cal P w K mg base 3 "seen_from" (spD K (α := V3 × List V3) (fun y => [d3 y.1, .tuple (y.2.map d3)]) (fun y => B3 100 y.1 ∧ (∀ v ∈ y.2, B3 100 v) ∧ y.2 ≠ [] ∧ y.2.length < 1000)
    fun y d => d = .tuple [d2 (fstOf ((y.2.map (stp y.1)).getD 0 (0, 0)) (y.2.map (stp y.1))), d2 (lstOf ((y.2.map (stp y.1)).getD 0 (0, 0)) (y.2.map (stp y.1)))]) [] := by
  refine cal_mk' T.d_seen_from sc_seen_from (fun _ => rfl) fun y hy f cdv A outer s0 H E hr => ?_
  obtain ⟨p, L⟩ := y
  obtain ⟨bp, bL, ne, hl⟩ := hy
  simp only at bp bL ne hl
  have cS := c_step_between (P := P) (w := w) (base := base) T
  have cB := c_bend (P := P) (w := w) (base := base) T
  have ll : (L.map d3).length = L.length := by simp
  have lp : 0 < L.length := List.length_pos_iff.mpr ne
  generalize hM : L.map (stp p) = M
  have hMl : M.length = L.length := by rw [← hM, List.length_map]
  have bM : ∀ t ∈ M, B2 400 t := fun t ht => by
    rw [← hM] at ht
    obtain ⟨v, hv, rfl⟩ := List.mem_map.mp ht
    have bv := bL v hv
    exact ⟨Bd.up 400 (inferInstance : Bd 201 (v.1 * p.2.2 - p.1 * v.2.2)), Bd.up 400 (inferInstance : Bd 201 (v.2.1 * p.2.2 - p.2.1 * v.2.2))⟩
  refine jb_setMapV 2 [("corner", 6)] (fun i => d2 (stp p (L.getD i (0, 0, 0)))) (ji_tup (jv_var 1 rfl)) (fun _ _ _ _ _ => pg_name (i := 6) sc_seen_from.nd rfl (Or.inl rfl)) (tg_name (by decide)) (by rw [ll]; omega) (fun i hi => ⟨trivial, fun s H C' cl fp => ?_⟩) ?_ sc_seen_from.nd (blk_by N_seen_from (fnScope s_seen_from) (by decide +kernel))
  · have hi' : i < L.length := by rw [← ll]; exact hi
    have hv : L.getD i (0, 0, 0) ∈ L := by simp [hi']
    exact je_cV cS hr (p, L.getD i (0, 0, 0)) (jav_cons (jv_var 0 rfl) (jav_cons (jv_var 6 (by rw [getD_map L d3 (0, 0, 0) hi']; rfl)) jav_nil)) ⟨bp, bL _ hv⟩
  · have eM : (List.range (L.map d3).length).map (fun i => d2 (stp p (L.getD i (0, 0, 0)))) = M.map d2 := by
      rw [ll, range_map L (0, 0, 0) fun v => d2 (stp p v), ← hM, List.map_map]
      rfl
    rw [eM]
    refine jb_seal 2 rfl ?_
    have m0 : M.getD 0 (0, 0) ∈ M := by simp [show 0 < M.length by omega]
    have bm0 := bM _ m0
    have at0 : atI (M.map d2) 0 = some (d2 (M.getD 0 (0, 0))) := by
      refine atI_nat (i := 0) ?_
      rw [List.getElem?_map, get_getD (show 0 < M.length by omega) (0, 0)]
      rfl
    refine jb_parV 3 4 (jv_ixL (jv_var 2 rfl) jv_int at0) (jv_ixL (jv_var 2 rfl) jv_int at0) ?_ sc_seen_from.nd
    refine jb_for (fun i ρ => ∃ y, ρ = [.val (d3 p), .val (.tuple (L.map d3)), .val (.list (M.map d2)), .val (d2 (fstOf (M.getD 0 (0, 0)) (M.take i))), .val (d2 (lstOf (M.getD 0 (0, 0)) (M.take i))), y, .no] ∧ B2 400 (fstOf (M.getD 0 (0, 0)) (M.take i)) ∧ B2 400 (lstOf (M.getD 0 (0, 0)) (M.take i))) (ji_list (jv_var 2 rfl)) ⟨.no, rfl, bm0, bm0⟩ (fun i ρ hi ⟨y, e, b1, b2⟩ => ?_) (fun ρ ⟨y, e, _⟩ => ?_)
    · subst e
      have hi' : i < M.length := by simpa using hi
      rw [getD_map M d2 (0, 0) hi']
      have bt := bM (M.getD i (0, 0)) (by simp [hi'])
      have e1 : fstOf (M.getD 0 (0, 0)) (M.take (i + 1)) = if cr (fstOf (M.getD 0 (0, 0)) (M.take i)) (M.getD i (0, 0)) < 0 then M.getD i (0, 0) else fstOf (M.getD 0 (0, 0)) (M.take i) := by
        rw [take_snoc hi' (0, 0)]; unfold fstOf; rw [List.foldl_append]; rfl
      have e2 : lstOf (M.getD 0 (0, 0)) (M.take (i + 1)) = if 0 < cr (lstOf (M.getD 0 (0, 0)) (M.take i)) (M.getD i (0, 0)) then M.getD i (0, 0) else lstOf (M.getD 0 (0, 0)) (M.take i) := by
        rw [take_snoc hi' (0, 0)]; unfold lstOf; rw [List.foldl_append]; rfl
      rw [e1, e2]
      generalize M.getD i (0, 0) = t at *
      generalize fstOf (M.getD 0 (0, 0)) (M.take i) = x at *
      generalize lstOf (M.getD 0 (0, 0)) (M.take i) = z at *
      have sg1 : decide (sgn (cr x t) < 0) = decide (cr x t < 0) := by
        apply decide_eq_decide.mpr
        unfold sgn
        rcases Int.lt_trichotomy (cr x t) 0 with q | q | q
        · rw [decide_eq_false (by omega), decide_eq_true q]; exact ⟨fun _ => q, fun _ => by decide⟩
        · rw [q]; exact ⟨fun h => absurd h (by decide), fun h => absurd h (by decide)⟩
        · rw [decide_eq_true q, decide_eq_false (by omega)]; exact ⟨fun h => absurd h (by decide), fun h => by omega⟩
      have sg2 : decide (0 < sgn (cr z t)) = decide (0 < cr z t) := by
        apply decide_eq_decide.mpr
        unfold sgn
        rcases Int.lt_trichotomy (cr z t) 0 with q | q | q
        · rw [decide_eq_false (by omega), decide_eq_true q]; exact ⟨fun h => absurd h (by decide), fun h => by omega⟩
        · rw [q]; exact ⟨fun h => absurd h (by decide), fun h => absurd h (by decide)⟩
        · rw [decide_eq_true q, decide_eq_false (by omega)]; exact ⟨fun _ => q, fun _ => by decide⟩
      refine jg_name 5 ?_ sc_seen_from.nd
      refine jb_whenV (jt_lt (je_cV cB hr (x, t) (jav_cons (jv_var 3 rfl) (jav_cons (jv_var 5 rfl) jav_nil)) ⟨b1, bt⟩) jv_int) (fun h1 => ?_) (fun h1 => ?_)
      · have c1 : cr x t < 0 := of_decide_eq_true (sg1 ▸ h1)
        rw [if_pos c1]
        refine jb_setV 3 (jv_var 5 rfl) (jb_nil [] ?_) sc_seen_from.nd
        refine jb_whenV (jt_gt (je_cV cB hr (z, t) (jav_cons (jv_var 4 rfl) (jav_cons (jv_var 5 rfl) jav_nil)) ⟨b2, bt⟩) jv_int) (fun h2 => ?_) (fun h2 => ?_)
        · have c2 : 0 < cr z t := of_decide_eq_true (sg2 ▸ h2)
          rw [if_pos c2]
          exact jb_setV 4 (jv_var 5 rfl) (jb_nil [] (jb_nil [] ⟨_, rfl, bt, bt⟩)) sc_seen_from.nd
        · have c2 : ¬ 0 < cr z t := of_decide_eq_false (sg2 ▸ h2)
          rw [if_neg c2]
          exact jb_nil [] ⟨_, rfl, bt, b2⟩
      · have c1 : ¬ cr x t < 0 := of_decide_eq_false (sg1 ▸ h1)
        rw [if_neg c1]
        refine jb_whenV (jt_gt (je_cV cB hr (z, t) (jav_cons (jv_var 4 rfl) (jav_cons (jv_var 5 rfl) jav_nil)) ⟨b2, bt⟩) jv_int) (fun h2 => ?_) (fun h2 => ?_)
        · have c2 : 0 < cr z t := of_decide_eq_true (sg2 ▸ h2)
          rw [if_pos c2]
          exact jb_setV 4 (jv_var 5 rfl) (jb_nil [] (jb_nil [] ⟨_, rfl, b1, bt⟩)) sc_seen_from.nd
        · have c2 : ¬ 0 < cr z t := of_decide_eq_false (sg2 ▸ h2)
          rw [if_neg c2]
          exact jb_nil [] ⟨_, rfl, b1, b2⟩
    · subst e
      have : (M.map d2).length = M.length := by simp
      refine jb_ret (JV.to (jv_tup (jav_cons (jv_var 3 rfl) (jav_cons (jv_var 4 rfl) jav_nil))) ?_)
      rw [this, List.take_length]
end
end Wf

namespace Wf
open PySem PySem.Spec PyProof.Rows L2 C8
/-- a side (a, b, 0), reduced -/
structure G3 (r : V3) : Prop where
  z : r.2.2 = 0
  one : gcdl [r.1, r.2.1, r.2.2] = 1
  bd : B3 600 r
theorem filt_snoc {S : List V3} {p : V3 → Bool} {i : Nat} (h : i < S.length) : (S.take (i + 1)).filter p = (S.take i).filter p ++ (if p (S.getD i (0, 0, 0)) then [S.getD i (0, 0, 0)] else []) := by
  rw [take_snoc h (0, 0, 0), List.filter_append]
  congr 1
  simp only [List.filter_cons, List.filter_nil]
theorem je_cat {X : Cx} {ρ : Rho} {a b : Expr} {pos : Pos} {Q : PyData → Prop} {cs : List PyData} (ha : JV X a ρ (.list cs)) (hb : JE X b ρ fun d => ∃ ds, d = .list ds ∧ cs.length + ds.length ≤ 100000 ∧ Q (.list (cs ++ ds))) : JE X (.BinOp a .Add b pos) ρ Q :=
  je_op op_catD ha fun x e => by
    subst e
    refine hb.imp fun y hy => ?_
    obtain ⟨ds, rfl, hl, qd⟩ := hy
    intro F H v w k f d1 d2 q
    obtain ⟨l, us, rfl, h1, k1⟩ := d1.lst_
    obtain ⟨m, ws, rfl, h2, k2⟩ := d2.lst_
    exact ⟨l, m, us, ws, rfl, rfl, sqL_same f h1, sqL_same f h2, by rw [k1.length, k2.length]; exact Nat.le_trans hl (by decide), rd_newL f (k1.append k2) qd q⟩
theorem sides_len (D : List Pt) : (sidesOf D).length ≤ D.length + 4 := by
  unfold sidesOf
  split
  · simp
  · split
    · simp
    · rw [List.length_map, List.length_range]; omega
section
variable {P : Program} {w : World} {K : PySem.W.Frag} {mg : Str → Option Value} {base : Heap} (T : Txt K mg)
include T
/-- lowest((a, b, 0)) -/
theorem je_side0 {X : Cx} {ρ : Rho} {e1 e2 e3 : Expr} {p pos tp : Pos} {k1 : Nat} {a b : Int} {j : Nat} (hr : Room j X.A) (hj : 2 ≤ j) (h1 : JV X e1 ρ (.int a)) (h2 : JV X e2 ρ (.int b)) (h3 : JV X e3 ρ (.int 0)) (nz : ¬ (a = 0 ∧ b = 0)) (ba : Bd 600 a) (bb : Bd 600 b)
    (hg : Gl X "lowest" := by rfl) (s0 : starEach [.Tuple [e1, e2, e3] k1 tp] X.env = (false, eval (.Tuple [e1, e2, e3] k1 tp) X.env) :: starEach [] X.env := by rfl) (s1 : starEach [e1, e2, e3] X.env = (false, eval e1 X.env) :: starEach [e2, e3] X.env := by rfl) (s2 : starEach [e2, e3] X.env = (false, eval e2 X.env) :: starEach [e3] X.env := by rfl) (s3 : starEach [e3] X.env = (false, eval e3 X.env) :: starEach [] X.env := by rfl) (hpl : (backTo pos (starEach [] X.env)).any (·.1) = false := by rfl)
    (q1 : X.prog = P := by rfl) (q2 : X.w = w := by rfl) (q3 : X.K = K := by rfl) (q4 : X.mg = mg := by rfl) (q5 : X.base = base := by rfl) :
    JE X (.Call (.Name "lowest" p) [.Tuple [e1, e2, e3] k1 tp] [] pos) ρ (fun d => ∃ r : V3, d = d3 r ∧ G3 r ∧ Dir r (a, b)) := by
  have cL := c_lowest (P := P) (w := w) (base := base) T
  have g0 : 0 < gcdl [a, b, 0] ∧ Bd 4000 (gcdl [a, b, 0]) := by
    by_cases c : a = 0
    · have c2 : b ≠ 0 := fun z => nz ⟨c, z⟩
      exact ⟨gcdl_pos (n := b) (by simp) c2, (Bd.le bb (gcdl_le (by simp) c2)).up 4000⟩
    · exact ⟨gcdl_pos (n := a) (by simp) c, (Bd.le ba (gcdl_le (by simp) c)).up 4000⟩
  have L := l3_of g0.1
  obtain ⟨dr, z⟩ := l3_dir L
  refine JE.imp (je_cV cL hr [a, b, 0] (jav_cons (jv_tup (jav_cons h1 (jav_cons h2 (jav_cons h3 jav_nil s3) s2) s1)) jav_nil s0) ⟨by simp, g0.1, g0.2⟩ rfl hj hg (by decide) s0 hpl q1 q2 q3 q4 q5) fun d e => ?_
  refine ⟨_, ?_, ⟨z, L.one, l3_bd L ba bb (bd_lit0.up 600)⟩, dr⟩
  exact e
theorem c_cone_sides : Cal P w K mg base 7 "cone_sides" (spD K (α := Duel × V3 × Pt) (fun y => [.tuple (y.1.Lf.map d3), d3 y.2.1]) (fun y => y.1.Ok ∧ VRel y.1.N y.2.1 y.2.2 ∧ B3 100 y.2.1)
    fun y d => ∃ R : List V3, d = .list (R.map d3) ∧ (∀ r ∈ R, G3 r) ∧ R.length ≤ 100 ∧ ∀ d : Pt, d ≠ (0, 0) → ((∀ r ∈ R, r.1 * d.1 + r.2.1 * d.2 ≤ 0) ↔ Hit y.1.D y.2.2 d)) [] := by
  refine cal_mk' T.d_cone_sides sc_cone_sides (fun _ => rfl) fun y hy f cdv A outer s0 H E hr => ?_
  obtain ⟨y, v, B⟩ := y
  obtain ⟨ok, vr, bv⟩ := hy
  simp only at ok vr bv
  have np : 0 < y.N := mul_pp ok.f.pos ok.s.pos
  have C := said_cvx ok.f ok.s.pos
  have cS := c_sides (P := P) (w := w) (base := base) T
  have cH := c_has (P := P) (w := w) (base := base) T
  have cV := c_value_at (P := P) (w := w) (base := base) T
  have cF := c_seen_from (P := P) (w := w) (base := base) T
  have cB := c_bend (P := P) (w := w) (base := base) T
  refine jb_set 2 (je_cV cS hr (y.N, y.Lf, y.D) (jav_cons (jv_var 0 rfl) jav_nil) ok.poly) (fun d ⟨S, e, r1, r2, r3⟩ => ?_) sc_cone_sides.nd
  subst e
  have r3 : S.length ≤ 100 := by
    have a : S.length = (sidesOf y.D).length := r1.len
    have b := sides_len y.D
    have c : y.Lf.length = y.D.length := ok.poly.rel.len
    have e := ok.f.few
    omega
  have ll : (S.map d3).length = S.length := by simp
  refine jb_when (P := fun b => b = true ↔ ∀ s ∈ sidesOf y.D, out s B ≤ 0) (jt_val (je_cV cH hr ((y.N, y.Lf, y.D), v, B) (jav_cons (jv_var 0 rfl) (jav_cons (jv_var 1 rfl) jav_nil)) ⟨ok.poly, vr, bv⟩)) (fun hb => ?_) (fun hb => ?_)
  · have held := hb.mp rfl
    refine jb_ret (JN.je (P := fun ds => ∃ R : List V3, ds = R.map d3 ∧ (∀ r ∈ R, G3 r) ∧ R.length ≤ S.length ∧ (∀ r ∈ R, ∃ s ∈ S, val s v = 0 ∧ Dir r (s.1, s.2.1)) ∧ ∀ s ∈ S, val s v = 0 → ∃ r ∈ R, Dir r (s.1, s.2.1)) ?_ fun ds ⟨R, e, g, l, to, back⟩ => ⟨R, by rw [e], g, by omega, fun d hd => tight_iff np C hd r1 vr held to back⟩)
    refine jn_lcX [("a", 6), ("b", 7), ("h", 8)] (fun (_ : Unit) i ds => ∃ R : List V3, ds = R.map d3 ∧ (∀ r ∈ R, G3 r) ∧ (R.length ≤ i ∧ i ≤ S.length) ∧ (∀ r ∈ R, ∃ s ∈ S.take i, val s v = 0 ∧ Dir r (s.1, s.2.1)) ∧ ∀ s ∈ S.take i, val s v = 0 → ∃ r ∈ R, Dir r (s.1, s.2.1)) (jix_of (ji_tup (jv_var 2 rfl)))
      (fun _ _ _ _ _ => pg_tup rfl (pgs_cons (pg_name (i := 6) sc_cone_sides.nd rfl (Or.inl rfl)) (pgs_cons (pg_name (i := 7) sc_cone_sides.nd rfl (Or.inl rfl)) (pgs_cons (pg_name (i := 8) sc_cone_sides.nd rfl (Or.inl rfl)) pgs_nil)))) (tg_tup (js := [6, 7, 8]) (n := 3) (by decide) rfl)
      (fun _ _ => ⟨[], rfl, (fun r hr => nomatch hr), ⟨Nat.le_refl _, Nat.zero_le _⟩, (fun r hr => nomatch hr), fun s hs => nomatch hs⟩) (fun _ i ds _ ⟨R, e, _, l, _⟩ => by rw [e, List.length_map]; omega) (fun _ i ds _ hi ⟨R, e, g, l, to, back⟩ => ?_) (fun _ ds _ ⟨R, e, g, l, to, back⟩ => ⟨R, e, g, Nat.le_trans l.1 (Nat.le_of_eq ll), ?_, ?_⟩) sc_cone_sides.nd (blk_by N_cone_sides (fnScope s_cone_sides) (by decide +kernel))
    · have hi' : i < S.length := by simpa using hi
      have hs : S.getD i (0, 0, 0) ∈ S := by simp [hi']
      have bs := r2 _ hs
      obtain ⟨sd, hsd, rs⟩ := r1.lft hs
      have nz := rs.nz np (sides_nz C sd hsd)
      have ts := take_snoc hi' ((0, 0, 0) : V3)
      rw [getD_map S d3 (0, 0, 0) hi']
      generalize S.getD i (0, 0, 0) = s at *
      refine ⟨rfl, fun b => b = decide (val s v = 0), jtb fun _ _ _ _ _ => jts_one (jt_eq (je_cV cV hr (s, v) (jav_cons (jv_tup (jav_cons (jv_var 6 rfl) (jav_cons (jv_var 7 rfl) (jav_cons (jv_var 8 rfl) jav_nil)))) (jav_cons (jv_var 1 rfl) jav_nil)) ⟨bs, bv⟩) jv_int), fun hf => ?_, fun ht => jeb fun _ _ _ _ _ => ?_⟩
      · have hne : val s v ≠ 0 := of_decide_eq_false hf.symm
        refine ⟨R, e, g, by omega, fun r hr => ?_, fun s' hs' h0 => ?_⟩
        · obtain ⟨s', hs', q⟩ := to r hr
          exact ⟨s', by rw [ts]; exact List.mem_append_left _ hs', q⟩
        · rw [ts] at hs'
          rcases mem_snoc hs' with q | q
          · exact back s' q h0
          · rw [q] at h0; exact absurd h0 hne
      · have h0 : val s v = 0 := of_decide_eq_true ht.symm
        refine JE.imp (je_side0 T hr (by decide) (jv_var 6 rfl) (jv_var 7 rfl) jv_int nz bs.x bs.y) fun d ⟨r, er, gr, dr⟩ => ?_
        refine ⟨R ++ [r], by rw [e, er, List.map_append]; rfl, fun r' hr' => (mem_snoc hr').elim (g r') fun q => q ▸ gr, by rw [List.length_append]; simp; omega, fun r' hr' => ?_, fun s' hs' h0' => ?_⟩
        · rcases mem_snoc hr' with q | q
          · obtain ⟨s', hs', q'⟩ := to r' q
            exact ⟨s', by rw [ts]; exact List.mem_append_left _ hs', q'⟩
          · rw [q]
            exact ⟨s, by rw [ts]; simp, h0, dr⟩
        · rw [ts] at hs'
          rcases mem_snoc hs' with q | q
          · obtain ⟨r', hr', q'⟩ := back s' q h0'
            exact ⟨r', List.mem_append_left _ hr', q'⟩
          · rw [q]
            exact ⟨r, by simp, dr⟩
    · rw [ll, List.take_length] at to
      exact to
    · rw [ll, List.take_length] at back
      exact back
  · have no : ¬ ∀ s ∈ sidesOf y.D, out s B ≤ 0 := fun q => by have := hb.mpr q; cases this
    obtain ⟨xnz, ynz, hx, hy', cone⟩ := out_cone np C ok.poly.rel vr no
    have bL : ∀ u ∈ y.Lf, B3 100 u := fun u hu => bnd100 (ok.f.bd u hu)
    have lne : y.Lf ≠ [] := fun e => by
      have a := ok.poly.rel.len
      have b := C.ne
      rw [e] at a
      have a' : 0 = y.D.length := a
      have b' : 1 ≤ y.D.length := b
      rw [← a'] at b'
      exact absurd b' (by decide)
    have bT : ∀ t ∈ y.Lf.map (stp v), B2 400 t := fun t ht => by
      obtain ⟨u, hu, rfl⟩ := List.mem_map.mp ht
      have bu := bL u hu
      exact ⟨Bd.up 400 (inferInstance : Bd 201 (u.1 * v.2.2 - v.1 * u.2.2)), Bd.up 400 (inferInstance : Bd 201 (u.2.1 * v.2.2 - v.2.1 * u.2.2))⟩
    have bx := bT _ hx
    have by' := bT _ hy'
    refine jb_asg (je_cV cF hr (v, y.Lf) (jav_cons (jv_var 1 rfl) (jav_cons (jv_var 0 rfl) jav_nil)) ⟨bv, bL, lne, by have := ok.f.few; show y.Lf.length < 1000; omega⟩) fun d e => ?_
    have e : d = .tuple [d2 (fstOf ((y.Lf.map (stp v)).getD 0 (0, 0)) (y.Lf.map (stp v))), d2 (lstOf ((y.Lf.map (stp v)).getD 0 (0, 0)) (y.Lf.map (stp v)))] := e
    subst e
    refine jg_tup (jgs_cons (jg_name 3 (jgs_cons (jg_name 4 (jgs_nil ?_) sc_cone_sides.nd)) sc_cone_sides.nd))
    generalize fstOf ((y.Lf.map (stp v)).getD 0 (0, 0)) (y.Lf.map (stp v)) = x at *
    generalize lstOf ((y.Lf.map (stp v)).getD 0 (0, 0)) (y.Lf.map (stp v)) = z at *
    have nx' : ¬ (x.1 = 0 ∧ x.2 = 0) := fun q => xnz (Prod.ext q.1 q.2)
    have nz' : ¬ (z.1 = 0 ∧ z.2 = 0) := fun q => ynz (Prod.ext q.1 q.2)
    have bxx := bx.x.up 600
    have bxy := bx.y.up 600
    have bnx : Bd 600 (- x.1) := (Bd.neg (hx := bx.x)).up 600
    have bny : Bd 600 (- x.2) := (Bd.neg (hx := bx.y)).up 600
    have bzx := by'.x.up 600
    have bnz : Bd 600 (- z.2) := (Bd.neg (hx := by'.y)).up 600
    refine jb_set 5 (JN.je (P := fun ds => ∃ r1 r2 : V3, ds = [d3 r1, d3 r2] ∧ (G3 r1 ∧ Dir r1 (x.2, - x.1)) ∧ G3 r2 ∧ Dir r2 (- z.2, z.1)) (jn_lst ?_ fun ds ⟨r1, r2, e, _⟩ => by rw [e]; show 2 ≤ sizeLine; decide) (Q := fun d => ∃ r1 r2 : V3, d = .list [d3 r1, d3 r2] ∧ (G3 r1 ∧ Dir r1 (x.2, - x.1)) ∧ G3 r2 ∧ Dir r2 (- z.2, z.1)) fun ds ⟨r1, r2, e, h⟩ => ⟨r1, r2, by rw [e], h⟩) (fun d ⟨r1, r2, e, ⟨g1, dr1⟩, g2, dr2⟩ => ?_) sc_cone_sides.nd
    · refine ja_cons (je_side0 (a := x.2) (b := - x.1) T hr (by decide) (jv_ixT (jv_var 3 rfl) jv_int rfl) (jv_neg (jv_ixT (jv_var 3 rfl) jv_int rfl)) jv_int (by omega) bxy bnx) fun d1 ⟨r1, e1, g1, dr1⟩ => ?_
      exact ja_cons (je_side0 (a := - z.2) (b := z.1) T hr (by decide) (jv_neg (jv_ixT (jv_var 4 rfl) jv_int rfl)) (jv_ixT (jv_var 4 rfl) jv_int rfl) jv_int (by omega) bnz bzx) fun d2' ⟨r2, e2, g2, dr2⟩ => ja_nil ⟨r1, r2, by rw [e1, e2], ⟨g1, dr1⟩, g2, dr2⟩
    · subst e
      have sg : (sgn (cr x z) = 0) ↔ cr x z = 0 := by
        unfold sgn
        rcases Int.lt_trichotomy (cr x z) 0 with q | q | q
        · rw [decide_eq_false (by omega), decide_eq_true q]; exact ⟨fun h => absurd h (by decide), fun h => by omega⟩
        · rw [q]; exact ⟨fun _ => rfl, fun _ => by decide⟩
        · rw [decide_eq_true q, decide_eq_false (by omega)]; exact ⟨fun h => absurd h (by decide), fun h => by omega⟩
      have s1 : ∀ d : Pt, (r1.1 * d.1 + r1.2.1 * d.2 ≤ 0 ↔ 0 ≤ cr x d) := fun d => by
        rw [dr1.le]
        simp only [cr]
        have : x.2 * d.1 + - x.1 * d.2 = - (x.1 * d.2 - x.2 * d.1) := by grind
        omega
      have s2 : ∀ d : Pt, (r2.1 * d.1 + r2.2.1 * d.2 ≤ 0 ↔ 0 ≤ cr d z) := fun d => by
        rw [dr2.le]
        simp only [cr]
        have : - z.2 * d.1 + z.1 * d.2 = - (d.1 * z.2 - d.2 * z.1) := by grind
        omega
      refine jb_ret (je_ifV (jt_eq (je_cV cB hr (x, z) (jav_cons (jv_var 3 rfl) (jav_cons (jv_var 4 rfl) jav_nil)) ⟨bx, by'⟩) jv_int) (fun h => ?_) (fun h => ?_))
      · have h0 : cr x z = 0 := sg.mp (of_decide_eq_true h)
        refine je_cat (jv_var 5 rfl) (JN.je (P := fun ds => ∃ r3 : V3, ds = [d3 r3] ∧ G3 r3 ∧ Dir r3 (- x.1, - x.2)) (jn_lst ?_ fun ds ⟨r3, e, _⟩ => by rw [e]; show 1 ≤ sizeLine; decide) fun ds ⟨r3, e, g3, dr3⟩ => ⟨ds, rfl, by rw [e]; show 2 + 1 ≤ 100000; decide, [r1, r2, r3], by rw [e]; rfl, fun r hr' => ?_, by show 3 ≤ 100; decide, fun d hd => ?_⟩)
        · exact ja_cons (je_side0 (a := - x.1) (b := - x.2) T hr (by decide) (jv_neg (jv_ixT (jv_var 3 rfl) jv_int rfl)) (jv_neg (jv_ixT (jv_var 3 rfl) jv_int rfl)) jv_int (by omega) bnx bny) fun d1 ⟨r3, e1, g3, dr3⟩ => ja_nil ⟨r3, by rw [e1], g3, dr3⟩
        · simp only [List.mem_cons, List.not_mem_nil, or_false] at hr'
          rcases hr' with rfl | rfl | rfl
          · exact g1
          · exact g2
          · exact g3
        · have s3 : r3.1 * d.1 + r3.2.1 * d.2 ≤ 0 ↔ 0 ≤ dt x d := by
            rw [dr3.le]
            simp only [dt]
            have : - x.1 * d.1 + - x.2 * d.2 = - (x.1 * d.1 + x.2 * d.2) := by grind
            omega
          rw [← cone d hd]
          constructor
          · intro q
            exact ⟨(s1 d).mp (q r1 (by simp)), (s2 d).mp (q r2 (by simp)), fun _ => s3.mp (q r3 (by simp))⟩
          · rintro ⟨q1, q2, q3⟩ r hr'
            simp only [List.mem_cons, List.not_mem_nil, or_false] at hr'
            rcases hr' with rfl | rfl | rfl
            · exact (s1 d).mpr q1
            · exact (s2 d).mpr q2
            · exact s3.mpr (q3 h0)
      · have h0 : cr x z ≠ 0 := fun q => of_decide_eq_false h (sg.mpr q)
        refine JV.to (jv_var 5 rfl) ⟨[r1, r2], rfl, fun r hr' => ?_, by show 2 ≤ 100; decide, fun d hd => ?_⟩
        · simp only [List.mem_cons, List.not_mem_nil, or_false] at hr'
          rcases hr' with rfl | rfl
          · exact g1
          · exact g2
        · rw [← cone d hd]
          constructor
          · intro q
            exact ⟨(s1 d).mp (q r1 (by simp)), (s2 d).mp (q r2 (by simp)), fun z => absurd z h0⟩
          · rintro ⟨q1, q2, q3⟩ r hr'
            simp only [List.mem_cons, List.not_mem_nil, or_false] at hr'
            rcases hr' with rfl | rfl
            · exact (s1 d).mpr q1
            · exact (s2 d).mpr q2
end
end Wf

namespace Wf
open PySem PySem.Spec PyProof.Rows L2 C8
theorem any_d3 (R : List V3) (r : V3) : ((R.map d3).any fun z => PyData.eqv z (d3 r)) = decide (r ∈ R) := by
  induction R with
  | nil => rfl
  | cons a R ih =>
    rw [List.map_cons, List.any_cons, ih, eqv_d3, ← Bool.decide_or]
    apply decide_eq_decide.mpr
    rw [List.mem_cons]
    exact ⟨fun h => h.imp Eq.symm id, fun h => h.imp Eq.symm id⟩
theorem room65 {k : Nat} {A : Around} (h : Room k A) : A.units + 65 < cLine := by have := h.un; omega
section
variable {P : Program} {w : World} {K : PySem.W.Frag} {mg : Str → Option Value} {base : Heap} (T : Txt K mg)
include T
theorem c_bearing_sides : Cal P w K mg base 8 "bearing_sides" (spD K (α := Duel) (fun y => [.tuple (y.Lf.map d3), .tuple (y.Ls.map d3)]) (fun y => y.Ok)
    fun y d => ∃ R : List V3, d = .tuple (R.map d3) ∧ (∀ r ∈ R, G3 r) ∧ R.length ≤ 6000 ∧ (∀ d : Pt, d ≠ (0, 0) → ((∀ r ∈ R, r.1 * d.1 + r.2.1 * d.2 ≤ 0) ↔ ∀ B ∈ y.E, Hit y.D B d)) ∧ ((∀ B ∈ y.E, ∀ s ∈ sidesOf y.D, out s B < 0) → R = [])) [] := by
  refine cal_mk' T.d_bearing_sides sc_bearing_sides (fun _ => rfl) fun y ok f cdv A outer s0 H E hr => ?_
  have np : 0 < y.N := mul_pp ok.f.pos ok.s.pos
  have C := said_cvx ok.f ok.s.pos
  have cP := c_check_polygon (P := P) (w := w) (base := base) T
  have cS := c_sides (P := P) (w := w) (base := base) T
  have cI := c_is_strictly_in (P := P) (w := w) (base := base) T
  have cC := c_cone_sides (P := P) (w := w) (base := base) T
  have ll : (y.Ls.map d3).length = y.Ls.length := by simp
  have few := ok.s.few
  refine jb_drop (je_cV cP hr (y.cf, y.Lf, y.Sf) (jav_cons (jv_var 0 rfl) jav_nil) ok.f) fun _ _ => ?_
  refine jb_drop (je_cV cP hr (y.cs, y.Ls, y.Ss) (jav_cons (jv_var 1 rfl) jav_nil) ok.s) fun _ _ => ?_
  refine jb_asg (je_tup (P := fun ds => ∃ S : List V3, ds = [.tuple (S.map d3), .list []] ∧ All2 (SRel y.N) S (sidesOf y.D) ∧ (∀ s ∈ S, B3 600 s) ∧ S.length < 1000) (ja_cons (je_cV cS hr (y.N, y.Lf, y.D) (jav_cons (jv_var 0 rfl) jav_nil) ok.poly) fun d ⟨S, e, r⟩ => ja_cons (jv_lst jav_nil) fun d' e' => ja_nil ⟨S, by rw [e, e'], r⟩) (Q := fun d => ∃ S : List V3, d = .tuple [.tuple (S.map d3), .list []] ∧ All2 (SRel y.N) S (sidesOf y.D) ∧ (∀ s ∈ S, B3 600 s) ∧ S.length < 1000) fun ds ⟨S, e, r⟩ => ⟨by rw [e]; show 2 ≤ sizeLine; decide, S, by rw [e], r⟩) fun d ⟨S, e, r1, r2, r3⟩ => ?_
  subst e
  refine jg_tup (jgs_cons (jg_name 2 (jgs_cons (jg_name 3 (jgs_nil ?_) sc_bearing_sides.nd)) sc_bearing_sides.nd))
  refine jb_for (fun i ρ => ∃ (R : List V3) (y4 : SD), ρ = [.val (.tuple (y.Lf.map d3)), .val (.tuple (y.Ls.map d3)), .val (.tuple (S.map d3)), .val (.list (R.map d3)), y4, .no] ∧ (∀ r ∈ R, G3 r) ∧ R.length ≤ i * 100 ∧ (∀ d : Pt, d ≠ (0, 0) → ((∀ r ∈ R, r.1 * d.1 + r.2.1 * d.2 ≤ 0) ↔ ∀ B ∈ y.E.take i, Hit y.D B d)) ∧ ((∀ B ∈ y.E.take i, ∀ s ∈ sidesOf y.D, out s B < 0) → R = []))
    (ji_tup (jv_var 1 rfl)) ⟨[], .no, rfl, (fun r hr => nomatch hr), Nat.zero_le _, fun d hd => ⟨fun _ B hB => (nomatch hB), fun _ r hr => (nomatch hr)⟩, fun _ => rfl⟩ (fun i ρ hi J => ?_) (fun ρ J => ?_)
  · obtain ⟨R, y4, rfl, g, l, iff, str⟩ := J
    have hi' : i < y.Ls.length := by rw [← ll]; exact hi
    have hE : i < y.E.length := by rw [← ok.flee.len]; exact hi'
    refine jg_name 4 ?_ sc_bearing_sides.nd
    rw [getD_map y.Ls d3 (0, 0, 0) hi']
    have hv : y.Ls.getD i (0, 0, 0) ∈ y.Ls := by simp [hi']
    have vr := ok.flee.get hi' (0, 0, 0) (0, 0)
    have bv := bnd100 (ok.s.bd _ hv)
    have te := take_snoc hE ((0, 0) : Pt)
    generalize y.Ls.getD i (0, 0, 0) = v at *
    generalize y.E.getD i (0, 0) = B at *
    have dec : (S.all fun s => decide (val s v < 0)) = true ↔ ∀ s ∈ sidesOf y.D, out s B < 0 := by
      rw [List.all_eq_true]
      constructor
      · intro h sd hsd
        obtain ⟨s, hs, rs⟩ := r1.rgt hsd
        exact (val_neg np rs vr).1.mp (of_decide_eq_true (h s hs))
      · intro h s hs
        obtain ⟨sd, hsd, rs⟩ := r1.lft hs
        exact decide_eq_true ((val_neg np rs vr).1.mpr (h sd hsd))
    refine jb_whenV (jt_notV (jt_valV (je_cV cI hr (S, v) (jav_cons (jv_var 2 rfl) (jav_cons (jv_var 4 rfl) jav_nil)) ⟨r2, r3, bv⟩))) (fun h => ?_) (fun h => ?_)
    · have ns : ¬ ∀ s ∈ sidesOf y.D, out s B < 0 := fun q => by
        have := dec.mpr q
        rw [this] at h
        cases h
      refine jb_set 3 (Q := fun d => ∃ R2 : List V3, d = .list ((R ++ R2).map d3) ∧ (∀ r ∈ R2, G3 r) ∧ R2.length ≤ 100 ∧ ∀ d : Pt, d ≠ (0, 0) → ((∀ r ∈ R ++ R2, r.1 * d.1 + r.2.1 * d.2 ≤ 0) ↔ (∀ r ∈ R, r.1 * d.1 + r.2.1 * d.2 ≤ 0) ∧ Hit y.D B d)) (je_cat (jv_var 3 rfl) (JN.je (P := fun ds => ∃ (Cn R2 : List V3), ds = R2.map d3 ∧ ((∀ r ∈ Cn, G3 r) ∧ Cn.length ≤ 100 ∧ ∀ d : Pt, d ≠ (0, 0) → ((∀ r ∈ Cn, r.1 * d.1 + r.2.1 * d.2 ≤ 0) ↔ Hit y.D B d)) ∧ R2.length ≤ Cn.length ∧ (∀ r ∈ R2, r ∈ Cn) ∧ ∀ r ∈ Cn, r ∈ R ∨ r ∈ R2) ?_ fun ds ⟨Cn, R2, e, ⟨gc, lc, ic⟩, l2, sub, cov⟩ => ⟨ds, rfl, ?_, R2, by rw [e, List.map_append], fun r hr' => gc r (sub r hr'), by omega, fun d hd => ?_⟩)) (fun d ⟨R2, e, g2, l2, i2⟩ => ?_) sc_bearing_sides.nd
      · refine jn_lcX (β := List V3) (px := fun Cn => (∀ r ∈ Cn, G3 r) ∧ Cn.length ≤ 100 ∧ ∀ d : Pt, d ≠ (0, 0) → ((∀ r ∈ Cn, r.1 * d.1 + r.2.1 * d.2 ≤ 0) ↔ Hit y.D B d)) [("side", 5)] (fun Cn i ds => ∃ R2 : List V3, ds = R2.map d3 ∧ (R2.length ≤ i ∧ i ≤ Cn.length) ∧ (∀ r ∈ R2, r ∈ Cn) ∧ ∀ r ∈ Cn.take i, r ∈ R ∨ r ∈ R2)
          (jix_list (fun Cn => Cn.map d3) (JE.imp (je_cV cC hr (y, v, B) (jav_cons (jv_var 0 rfl) (jav_cons (jv_var 4 rfl) jav_nil)) ⟨ok, vr, bv⟩) fun d ⟨Cn, e, q⟩ => ⟨Cn, q, e⟩))
          (fun _ _ _ _ _ => pg_name (i := 5) sc_bearing_sides.nd rfl (Or.inl rfl)) (tg_name (by decide)) (fun Cn _ => ⟨[], rfl, ⟨Nat.le_refl _, Nat.zero_le _⟩, (fun r hr => nomatch hr), fun r hr => nomatch hr⟩) (fun Cn i ds q ⟨R2, e, l2, _⟩ => by rw [e, List.length_map]; omega) (fun Cn i ds q hi ⟨R2, e, l2, sub, cov⟩ => ?_) (fun Cn ds q ⟨R2, e, l2, sub, cov⟩ => ⟨Cn, R2, e, q, ?_, sub, ?_⟩) sc_bearing_sides.nd (blk_by N_bearing_sides (fnScope s_bearing_sides) (by decide +kernel))
        · have hi2 : i < Cn.length := by simpa using hi
          rw [getD_map Cn d3 (0, 0, 0) hi2]
          have mem : Cn.getD i (0, 0, 0) ∈ Cn := by simp [hi2]
          have tc := take_snoc hi2 ((0, 0, 0) : V3)
          generalize Cn.getD i (0, 0, 0) = r at *
          refine ⟨trivial, fun b => b = !decide (r ∈ R), jtb fun _ _ _ _ _ => jts_one (JT.imp (jt_notInD (jv_var 5 rfl) (jv_var 3 rfl) (room65 hr) (shaped_d3 r) (shaped_lst d3_lay d3_dep R)) fun b e => by rw [e, any_d3]), fun hf => ?_, fun ht => jeb fun _ _ _ _ _ => ?_⟩
          · have inR : r ∈ R := by
              have : (!decide (r ∈ R)) = false := hf.symm
              simpa using this
            refine ⟨R2, e, by omega, sub, fun r' hr' => ?_⟩
            rw [tc] at hr'
            rcases mem_snoc hr' with q' | q'
            · exact cov r' q'
            · rw [q']; exact .inl inR
          · refine JV.to (jv_var 5 rfl) ⟨R2 ++ [r], by rw [e, List.map_append]; rfl, by rw [List.length_append]; simp; omega, fun r' hr' => (mem_snoc hr').elim (sub r') fun q' => by rw [q']; exact mem, fun r' hr' => ?_⟩
            rw [tc] at hr'
            rcases mem_snoc hr' with q' | q'
            · exact (cov r' q').imp id fun z => List.mem_append_left _ z
            · rw [q']; exact .inr (by simp)
        · have : (Cn.map d3).length = Cn.length := by simp
          exact Nat.le_trans l2.1 (Nat.le_of_eq this)
        · have : (Cn.map d3).length = Cn.length := by simp
          rw [this, List.take_length] at cov
          exact cov
      · rw [e, List.length_map, List.length_map]
        have : i * 100 ≤ 60 * 100 := Nat.mul_le_mul_right _ (by omega)
        omega
      · rw [← ic d hd]
        constructor
        · intro h
          refine ⟨fun r hr' => h r (List.mem_append_left _ hr'), fun r hr' => ?_⟩
          exact (cov r hr').elim (fun q => h r (List.mem_append_left _ q)) fun q => h r (List.mem_append_right _ q)
        · rintro ⟨h1, h2⟩ r hr'
          exact (List.mem_append.mp hr').elim (h1 r) fun q => h2 r (sub r q)
      · subst e
        refine jb_nil [] (jb_nil [] ⟨R ++ R2, _, rfl, fun r hr' => (List.mem_append.mp hr').elim (g r) (g2 r), by rw [List.length_append]; omega, fun d hd => ?_, fun st => ?_⟩)
        · rw [i2 d hd, iff d hd, te]
          constructor
          · rintro ⟨h1, h2⟩ B' hB'
            rcases mem_snoc hB' with q | q
            · exact h1 B' q
            · rw [q]; exact h2
          · intro h
            exact ⟨fun B' hB' => h B' (List.mem_append_left _ hB'), h B (by simp)⟩
        · exact absurd (st B (by rw [te]; simp)) ns
    · have ys : ∀ s ∈ sidesOf y.D, out s B < 0 := dec.mp (by simpa using h)
      refine jb_nil [] ⟨R, _, rfl, g, by omega, fun d hd => ?_, fun st => str fun B' hB' => st B' (by rw [te]; exact List.mem_append_left _ hB')⟩
      rw [iff d hd, te]
      constructor
      · intro h1 B' hB'
        rcases mem_snoc hB' with q | q
        · exact h1 B' q
        · rw [q]; exact strict_hit C hd ys
      · intro h1 B' hB'
        exact h1 B' (List.mem_append_left _ hB')
  · obtain ⟨R, y4, rfl, g, l, iff, str⟩ := J
    have le : y.Ls.length = y.E.length := ok.flee.len
    rw [ll, le, List.take_length] at iff str
    refine jb_ret (JV.to (jv_tupleL (jv_var 3 rfl) (by rfl) T.b_tuple) ⟨R, rfl, g, ?_, iff, str⟩)
    rw [ll] at l
    have : y.Ls.length * 100 ≤ 60 * 100 := Nat.mul_le_mul_right _ (by omega)
    omega
end
end Wf

namespace Wf
open PySem PySem.Spec PyProof.Rows L2 C8
theorem gcdl3 (x y z : Int) : gcdl [x, y, z] = ((Nat.gcd (Nat.gcd x.natAbs y.natAbs) z.natAbs : Nat) : Int) := by simp [gcdl]
theorem gcdl2 (x y : Int) : gcdl [x, y] = ((Nat.gcd x.natAbs y.natAbs : Nat) : Int) := by simp [gcdl]
theorem rim_two_ {a b : Pt} : rimOf [a, b] = [a, b] := by
  simp [rimOf, chain, chainS, pushS, popS]
theorem rim_short {S : List Pt} (h : S.length < 3) : rimOf S = S := by
  match S, h with
  | [], _ => rfl
  | [_], _ => rfl
  | [_, _], _ => exact rim_two_
section
variable {P : Program} {w : World} {K : PySem.W.Frag} {mg : Str → Option Value} {base : Heap} (T : Txt K mg)
include T
theorem c_gcd : Cal P w K mg base 1 "_law_gcd" (spD K (α := Int × Int) (fun y => [.int y.1, .int y.2]) (fun _ => True) fun y d => d = .int ((Nat.gcd y.1.natAbs y.2.natAbs : Nat) : Int)) [] := by
  refine cal_mk' T.d__law_gcd sc__law_gcd (fun _ => rfl) fun y hy f cdv A outer s0 H E hr => ?_
  obtain ⟨a, b⟩ := y
  refine jb_parV 0 1 (d1 := .int (a.natAbs : Int)) (d2 := .int (b.natAbs : Int)) (JV.is (jv_abs (jv_var 0 rfl) (by rfl) T.b_abs) (by congr 1; simp only; split <;> omega)) (JV.is (jv_abs (jv_var 1 rfl) (by rfl) T.b_abs) (by congr 1; simp only; split <;> omega)) ?_ sc__law_gcd.nd
  refine jb_while (fun m ρ => ∃ x y : Nat, y = m ∧ Nat.gcd x y = Nat.gcd a.natAbs b.natAbs ∧ ρ = [.val (.int (x : Int)), .val (.int (y : Int))]) b.natAbs ⟨a.natAbs, b.natAbs, rfl, rfl, rfl⟩ (fun m ρ ⟨x, y, em, eg, e⟩ => ?_)
  subst e em
  refine ⟨fun q => q = !decide ((y : Int) = 0), jt_ne (jv_var 1 rfl) jv_int, fun h => ?_, fun h => ?_⟩
  · have y0 : 0 < y := by
      have : ¬ (y : Int) = 0 := by simpa using h.symm
      omega
    refine jb_parV 0 1 (d1 := .int (y : Int)) (d2 := .int ((x % y : Nat) : Int)) (jv_var 1 rfl) (JV.is (jv_mod (jv_intI (jv_var 0 rfl) (by rfl) T.b_int) (jv_var 1 rfl) (by omega)) (by rw [Int.natCast_emod])) (jb_nil [] ⟨x % y, Nat.mod_lt _ y0, y, x % y, rfl, ?_, rfl⟩) sc__law_gcd.nd
    rw [← eg, Nat.gcd_comm x y, Nat.gcd_rec y x, Nat.gcd_comm]
  · have y0 : y = 0 := by
      have : (y : Int) = 0 := by simpa using h.symm
      omega
    subst y0
    rw [Nat.gcd_zero_right] at eg
    exact jb_ret (JV.to (jv_var 0 rfl) (by rw [eg]))
theorem c_lratio : Cal P w K mg base 2 "_law_ratio" (spD K (α := Int × Int) (fun y => [.int y.1, .int y.2]) (fun y => y.2 ≠ 0 ∧ Bd 3000 y.1 ∧ Bd 3000 y.2) fun y d => ∃ r, d = d2 r ∧ Rt y.1 y.2 r) [] := by
  refine cal_mk' T.d__law_ratio sc__law_ratio (fun _ => rfl) fun y hy f cdv A outer s0 H E hr => ?_
  obtain ⟨o, u⟩ := y
  obtain ⟨h0, i1, i2⟩ := hy
  simp only at h0 i1 i2
  have cG := c_gcd (P := P) (w := w) (base := base) T
  refine jb_set 2 (je_cV cG hr (o, u) (jav_cons (jv_var 0 rfl) (jav_cons (jv_var 1 rfl) jav_nil)) trivial) (fun d e => ?_) sc__law_ratio.nd
  have e : d = .int (gcdl [o, u]) := by rw [gcdl2]; exact e
  subst e
  have g0 : 0 < gcdl [o, u] := gcdl_pos (n := u) (by simp) h0
  have gb : Bd 4000 (gcdl [o, u]) := (Bd.le i2 (gcdl_le (by simp) h0)).up 4000
  obtain ⟨a1, a2⟩ := low_at g0 (n := o) (by simp)
  obtain ⟨b1, b2⟩ := low_at g0 (n := u) (by simp)
  generalize gcdl [o, u] = g at *
  refine jb_ret (je_ifV (jt_gt (jv_var 1 rfl) jv_int) (fun h => ?_) fun h => ?_)
  · have hu : 0 < u := of_decide_eq_true h
    refine JV.to (jv_tup (jav_cons (jv_fdiv (jv_var 0 rfl) (jv_var 2 rfl) g0) (jav_cons (jv_fdiv (jv_var 1 rfl) (jv_var 2 rfl) g0) jav_nil))) ⟨(o / g, u / g), rfl, pos_of_mul g0 (by rw [b1]; exact hu), ?_, a2, b2⟩
    simp only
    generalize o / g = x at *
    generalize u / g = z at *
    rw [← a1, ← b1]; grind
  · have hu : u < 0 := by
      have : ¬ 0 < u := of_decide_eq_false h
      omega
    refine JV.to (jv_tup (jav_cons (jv_sub jv_int (jv_fdiv (jv_var 0 rfl) (jv_var 2 rfl) g0)) (jav_cons (jv_sub jv_int (jv_fdiv (jv_var 1 rfl) (jv_var 2 rfl) g0)) jav_nil))) ⟨(0 - o / g, 0 - u / g), rfl, ?_, ?_, ?_, ?_⟩
    · have : u / g < 0 := by
        have := (sgn_of (l := 1) (m := g) (x := u) (y := u / g) (by decide) g0 (by rw [b1]; simp)).2.1 hu
        exact this
      show 0 < 0 - u / g
      omega
    · simp only
      generalize o / g = x at *
      generalize u / g = z at *
      rw [← a1, ← b1]; grind
    · show (0 - o / g).natAbs ≤ o.natAbs
      omega
    · show (0 - u / g).natAbs ≤ u.natAbs
      omega
theorem c_lless : Cal P w K mg base 1 "_law_less" (spD K (α := Pt × Pt) (fun y => [d2 y.1, d2 y.2]) (fun y => B2 3000 y.1 ∧ B2 3000 y.2) fun y d => d = .bool (decide (y.1.1 * y.2.2 < y.2.1 * y.1.2))) [] := by
  refine cal_mk' T.d__law_less sc__law_less (fun _ => rfl) fun y hy f cdv A outer s0 H E hr => ?_
  obtain ⟨p, q⟩ := y
  obtain ⟨i1, i2⟩ := hy
  simp only at i1 i2
  refine jb_when (P := (· = false)) (jt_w ?_) (fun h => by cases h) fun _ => ?_
  · refine jw_or (P := (· = false)) (JT.imp (jt_isNone (jv_var 0 rfl) jv_none) fun b e => e) (fun h => by cases h) fun _ => jw_or1 ?_
    exact JT.imp (jt_isNone (jv_var 1 rfl) jv_none) fun b e => e
  exact jb_ret (JV.to (jv_lt (jv_mul (jv_ixT (jv_var 0 rfl) jv_int rfl) (jv_ixT (jv_var 1 rfl) jv_int rfl)) (jv_mul (jv_ixT (jv_var 1 rfl) jv_int rfl) (jv_ixT (jv_var 0 rfl) jv_int rfl))) rfl)
theorem c_spot : Cal P w K mg base 2 "_law_spot" (spD K (α := V3) (fun y => [.int y.1, .int y.2.1, .int y.2.2]) (fun y => 0 < y.2.2 ∧ B3 1000 y) fun y d => ∃ s, d = d3 s ∧ L3 y s) [] := by
  refine cal_mk' T.d__law_spot sc__law_spot (fun _ => rfl) fun y hy f cdv A outer s0 H E hr => ?_
  obtain ⟨x, y, c⟩ := y
  obtain ⟨h0, i1⟩ := hy
  simp only at h0 i1
  have cG := c_gcd (P := P) (w := w) (base := base) T
  refine jb_set 3 (je_cV cG hr (((Nat.gcd x.natAbs y.natAbs : Nat) : Int), c) (jav_cons (je_cV cG hr (x, y) (jav_cons (jv_var 0 rfl) (jav_cons (jv_var 1 rfl) jav_nil)) trivial) (jav_cons (jv_var 2 rfl) jav_nil)) trivial) (fun d e => ?_) sc__law_spot.nd
  have e : d = .int (gcdl [x, y, c]) := by rw [gcdl3]; exact e
  subst e
  have g0 : 0 < gcdl [x, y, c] := gcdl_pos (n := c) (by simp) (by omega)
  have gb : Bd 4000 (gcdl [x, y, c]) := (Bd.le i1.z (gcdl_le (by simp) (by show c ≠ 0; omega))).up 4000
  have L := l3_of g0
  exact jb_ret (JV.to (jv_tup (jav_cons (jv_fdiv (jv_var 0 rfl) (jv_var 3 rfl) g0) (jav_cons (jv_fdiv (jv_var 1 rfl) (jv_var 3 rfl) g0) (jav_cons (jv_fdiv (jv_var 2 rfl) (jv_var 3 rfl) g0) jav_nil)))) ⟨_, rfl, L⟩)
theorem c_said : Cal P w K mg base 3 "_law_said" (spD K (α := List Pt × Int) (fun y => [.list (y.1.map d2), .int y.2]) (fun y => 0 < y.2 ∧ Bd 50 y.2 ∧ (∀ p ∈ y.1, B2 50 p) ∧ y.1.length < 1000) fun y d => ∃ L : List V3, d = .tuple (L.map d3) ∧ All2 (fun (v : V3) (p : Pt) => L3 (p.1, p.2, y.2) v) L y.1 ∧ ∀ v ∈ L, B3 50 v) [] := by
  refine cal_mk' T.d__law_said sc__law_said (fun _ => rfl) fun y hy f cdv A outer s0 H E hr => ?_
  obtain ⟨D, c⟩ := y
  obtain ⟨h0, bc, bd, hl⟩ := hy
  simp only at h0 bc bd hl
  have cS := c_spot (P := P) (w := w) (base := base) T
  have ll : (D.map d2).length = D.length := by simp
  refine jb_ret (je_callTy (P := fun ds => ∃ L : List V3, ds = [.list (L.map d3)] ∧ All2 (fun (v : V3) (p : Pt) => L3 (p.1, p.2, c) v) L D ∧ ∀ v ∈ L, B3 50 v) call_tuple_of (by rfl) T.b_tuple (by decide +kernel) (ja_cons (P := fun d => ∃ L : List V3, d = .list (L.map d3) ∧ All2 (fun (v : V3) (p : Pt) => L3 (p.1, p.2, c) v) L D ∧ ∀ v ∈ L, B3 50 v) ?_ (fun d hd => ja_nil (by obtain ⟨L, e, r⟩ := hd; exact ⟨L, by rw [e], r⟩))) (fun ds pd => ?_))
  · refine JN.je (jn_mapR [("_law_x", 2), ("_law_y", 3)] (fun i d => ∃ s : V3, d = d3 s ∧ ∃ p, D[i]? = some p ∧ L3 (p.1, p.2, c) s ∧ B3 50 s) (ji_list (jv_var 0 rfl)) (fun _ _ _ _ _ => pg_tup rfl (pgs_cons (pg_name (i := 2) sc__law_said.nd rfl (Or.inl rfl)) (pgs_cons (pg_name (i := 3) sc__law_said.nd rfl (Or.inl rfl)) pgs_nil))) (tg_tup (js := [2, 3]) (n := 2) (by decide) rfl) (by rw [ll]; omega) (fun i hi => ?_) sc__law_said.nd (blk_by N__law_said (fnScope s__law_said) (by decide +kernel))) (fun ds h => ?_)
    · have hi' : i < D.length := by rw [← ll]; exact hi
      rw [getD_map D d2 (0, 0) hi']
      have hp : D.getD i (0, 0) ∈ D := by simp [hi']
      have bp := bd _ hp
      have gg := get_getD hi' ((0, 0) : Pt)
      generalize D.getD i (0, 0) = p at *
      refine ⟨rfl, fun s H C' cl fp => ?_⟩
      refine JE.imp (je_cV cS hr (p.1, p.2, c) (jav_cons (jv_var 2 rfl) (jav_cons (jv_var 3 rfl) (jav_cons (jv_var 1 rfl) jav_nil))) ⟨h0, ⟨bp.x.up 1000, bp.y.up 1000, bc.up 1000⟩⟩) fun d ⟨s, e, l⟩ => ⟨s, e, p, gg, l, l3_bd l bp.x bp.y bc⟩
    · rw [ll] at h
      obtain ⟨L, k1, k2, k3⟩ := pick h.1 h.2
      refine ⟨L, by rw [k2], all2_of k1 fun i s e => ?_, fun v hv => ?_⟩
      · obtain ⟨p, e1, l, _⟩ := k3 i s e
        exact ⟨p, e1, l⟩
      · obtain ⟨i, hi⟩ := List.mem_iff_getElem?.mp hv
        obtain ⟨_, _, _, b⟩ := k3 i v hi
        exact b
  · obtain ⟨L, rfl, r⟩ := pd
    intro F H vs k f d q
    obtain ⟨v, rfl, dv⟩ := rc_one d
    obtain ⟨o, ws, rfl, h1, h2⟩ := dv.lst_
    exact ⟨o, ws, rfl, .inl ⟨sqL_same f h1, rc_newT f h2 ⟨L, rfl, r⟩ q⟩⟩
theorem c_lbend : Cal P w K mg base 1 "_law_bend" (spD K (α := Pt × Pt × Pt) (fun y => [d2 y.1, d2 y.2.1, d2 y.2.2]) (fun y => B2 100 y.1 ∧ B2 100 y.2.1 ∧ B2 100 y.2.2) fun y d => d = .int (bend y.1 y.2.1 y.2.2)) [] := by
  refine cal_mk' T.d__law_bend sc__law_bend (fun _ => rfl) fun y hy f cdv A outer s H E hr => ?_
  obtain ⟨p, q, r⟩ := y
  obtain ⟨i1, i2, i3⟩ := hy
  simp only at i1 i2 i3
  exact jb_ret (JV.to (jv_sub (jv_mul (jv_sub (jv_ixT (jv_var 1 rfl) jv_int rfl) (jv_ixT (jv_var 0 rfl) jv_int rfl)) (jv_sub (jv_ixT (jv_var 2 rfl) jv_int rfl) (jv_ixT (jv_var 0 rfl) jv_int rfl))) (jv_mul (jv_sub (jv_ixT (jv_var 1 rfl) jv_int rfl) (jv_ixT (jv_var 0 rfl) jv_int rfl)) (jv_sub (jv_ixT (jv_var 2 rfl) jv_int rfl) (jv_ixT (jv_var 0 rfl) jv_int rfl)))) rfl)
end
end Wf

namespace Wf
open PySem PySem.Spec PyProof.Rows L2 C8
theorem nodup_asc {M : List Pt} (h : Asc M) : M.Nodup := h.imp fun {a b} q e => by rw [e] at q; exact lx_irr b q
section
variable {P : Program} {w : World} {K : PySem.W.Frag} {mg : Str → Option Value} {base : Heap} (T : Txt K mg)
include T
theorem c_lchain : Cal P w K mg base 2 "_law_chain" (spD K (α := List Pt) (fun D => [.list (D.map d2)]) (fun D => (∀ p ∈ D, B2 100 p) ∧ D.length < 1000) fun D d => d = .list ((chain D).map d2)) [] := by
  refine cal_mk' T.d__law_chain sc__law_chain (fun _ => rfl) fun D hy f cdv A outer s H E hr => ?_
  obtain ⟨i1, hl⟩ := hy
  have cL := c_lbend (P := P) (w := w) (base := base) T
  refine jb_setN 1 (jn_lst (P := fun ds => ds = []) (ja_nil rfl) (fun ds e => by rw [e]; exact Nat.zero_le _)) (fun ds e => ?_) sc__law_chain.nd
  subst e
  refine jb_for (fun i ρ => ∃ y, ρ = [.val (.list (D.map d2)), .own ((chainS (D.take i)).reverse.map d2), y]) (ji_list (jv_var 0 rfl)) ⟨.no, rfl⟩ (fun i ρ hi ⟨y, e⟩ => ?_) (fun ρ ⟨y, e⟩ => ?_)
  · subst e
    have hi' : i < D.length := by simpa using hi
    refine jg_name 2 ?_ sc__law_chain.nd
    rw [getD_map D d2 (0, 0) hi', take_snoc hi' (0, 0), chainS_snoc]
    have hc : B2 100 (D.getD i (0, 0)) := i1 _ (by simp [hi'])
    generalize D.getD i (0, 0) = c at *
    have hsub : ∀ p ∈ chainS (D.take i), B2 100 p := fun p hp => i1 p (List.mem_of_mem_take (chainS_sub _ p hp))
    have hlen : (chainS (D.take i)).length < 1000 := by
      have := chainS_len (D.take i)
      rw [List.length_take] at this
      omega
    generalize chainS (D.take i) = K0 at *
    refine jb_while (fun m ρ => ∃ Kk : List Pt, Kk.length = m ∧ (∀ p ∈ Kk, p ∈ K0) ∧ popS c Kk = popS c K0 ∧ Kk.length ≤ K0.length ∧ ρ = [.val (.list (D.map d2)), .own (Kk.reverse.map d2), .val (d2 c)]) K0.length ⟨K0, rfl, fun p h => h, rfl, Nat.le_refl _, rfl⟩ (fun m ρ ⟨Kk, em, sub, pe, le, e⟩ => ?_)
    subst e
    refine ⟨fun b => b = true ↔ ∃ t u r, Kk = t :: u :: r ∧ bend u t c ≤ 0, jt_w (jw_and (P := (· = decide (1 < Kk.length))) (JT.imp (jt_gt (jv_lenO 1 rfl (by rfl) T.b_len) jv_int) fun b e => by rw [e]; simp <;> omega) (fun h => ?_) fun h => jw_and1 ?_), fun h => ?_, fun h => ?_⟩
    · have h1 : ¬ 1 < Kk.length := by simpa using h.symm
      refine ⟨fun z => (by cases z), fun ⟨t, u, r, e, _⟩ => ?_⟩
      rw [e] at h1
      simp at h1
    · have h1 : 1 < Kk.length := by simpa using h.symm
      match Kk, h1, sub with
      | t :: u :: r, _, sub =>
        have bt := hsub t (sub t (by simp))
        have bu := hsub u (sub u (by simp))
        refine JT.imp (jt_le (je_cV cL hr (u, t, c) (jav_cons (jv_ixO 1 rfl (jv_neg jv_int) (by rw [List.map_reverse]; exact rev_last2 (d2 t) (d2 u) (r.map d2))) (jav_cons (jv_ixO 1 rfl (jv_neg jv_int) (by rw [List.map_reverse]; exact rev_last (d2 t) (d2 u :: r.map d2))) (jav_cons (jv_var 2 rfl) jav_nil))) ⟨bu, bt, hc⟩) jv_int) fun b e => ?_
        rw [e]
        constructor
        · intro q
          exact ⟨t, u, r, rfl, of_decide_eq_true q⟩
        · rintro ⟨t', u', r', e', q⟩
          cases e'
          exact decide_eq_true q
    · obtain ⟨t, u, r, rfl, q⟩ := h.mp rfl
      refine jb_pop 1 rfl (jb_nil [] ⟨(u :: r).length, ?_, u :: r, rfl, fun p hp => sub p (List.mem_cons_of_mem _ hp), ?_, ?_, ?_⟩) (by simp)
      · rw [← em]; simp
      · rw [← pe, popS_go q]
      · simp only [List.length_cons] at le ⊢; omega
      · have : ((t :: u :: r).reverse.map d2).dropLast = (u :: r).reverse.map d2 := by
          rw [← List.map_dropLast, List.dropLast_reverse]
          rfl
        rw [this]
        rfl
    · have stop : popS c Kk = Kk := by
        match Kk, h with
        | [], _ => rfl
        | [_], _ => rfl
        | t :: u :: r, h => exact popS_stop fun q => by have := h.mpr ⟨t, u, r, rfl, q⟩; cases this
      refine jb_append 1 rfl (jv_var 2 rfl) (fun d e => jb_nil [] ⟨.val (d2 c), ?_⟩) (by simp; omega)
      subst e
      rw [← pe, stop]
      show [_, SD.own (Kk.reverse.map d2 ++ [d2 c]), _] = _
      simp
  · subst e
    have e2 : (D.map d2).length = D.length := by simp
    refine jb_retO 1 rfl ?_
    rw [e2, List.take_length]
    rfl
/-- what a rim of drawn dots is -/
structure RimOk (R : List Pt) (S : List Pt) : Prop where
  eq : R = rimOf S
  asc : Asc S
  ne : S ≠ []
theorem c_lrim : Cal P w K mg base 3 "_law_rim" (spD K (α := List Pt) (fun D => [.list (D.map d2)]) (fun D => (∀ p ∈ D, B2 100 p) ∧ D.length < 30 ∧ D ≠ []) fun D d => ∃ S, d = .list ((rimOf S).map d2) ∧ Asc S ∧ S ≠ [] ∧ ∀ p, p ∈ S ↔ p ∈ D) [] := by
  refine cal_mk' T.d__law_rim sc__law_rim (fun _ => rfl) fun D hy f cdv A outer s H E hr => ?_
  obtain ⟨i1, hl, hne⟩ := hy
  have cC := c_lchain (P := P) (w := w) (base := base) T
  refine jb_set 1 (je_sortSet (ds := D) (jv_var 0 rfl) (by omega) (Nat.lt_of_le_of_lt (Nat.add_le_add_left (by decide) _) (room65 hr)) (by rfl) T.b_sorted (by rfl) T.b_set) (fun d ⟨M, e, am, mem⟩ => ?_) sc__law_rim.nd
  subst e
  have mne : M ≠ [] := fun e => by
    obtain ⟨p, hp⟩ := List.exists_mem_of_ne_nil _ hne
    have := (mem p).mpr hp
    rw [e] at this
    simp at this
  have mlen : M.length < 1000 := by
    have := (nodup_asc am).length_le_of_subset (fun p hp => (mem p).mp hp)
    omega
  have mbd : ∀ p ∈ M, B2 100 p := fun p hp => i1 p ((mem p).mp hp)
  refine jb_whenV (jt_lt (jv_lenL (jv_var 1 rfl) (by rfl) T.b_len) jv_int) (fun h => ?_) fun h => ?_
  · have h1 : M.length < 3 := by
      have := of_decide_eq_true h
      rw [List.length_map] at this
      omega
    exact jb_ret (JV.to (jv_var 1 rfl) ⟨M, by rw [rim_short h1], am, mne, mem⟩)
  · have h1 : ¬ M.length < 3 := by
      intro z
      have := of_decide_eq_false h
      rw [List.length_map] at this
      omega
    refine jb_ret (JV.to (jv_cat (jv_init (je_cV cC hr M (jav_cons (jv_var 1 rfl) jav_nil) ⟨mbd, mlen⟩)) (jv_init (je_cV cC hr M.reverse (jav_cons (JV.is (jv_rev (jv_var 1 rfl)) (by rw [← List.map_reverse])) jav_nil) ⟨fun p hp => mbd p (List.mem_reverse.mp hp), by rw [List.length_reverse]; exact mlen⟩)) ?_) ⟨M, ?_, am, mne, mem⟩)
    · have a1 := chainS_len M
      have a2 := chainS_len M.reverse
      rw [List.length_reverse] at a2
      simp only [List.length_dropLast, List.length_map, chain, List.length_reverse]
      omega
    · unfold rimOf
      rw [if_neg (by omega), List.map_append, List.map_dropLast, List.map_dropLast]
theorem c_draw : Cal P w K mg base 1 "_law_draw" (spS K (α := Int) (fun n => [.int n]) (fun n => 0 < n ∧ n < 1073741824) fun n d => ∃ m : Int, d = .int m ∧ 0 ≤ m ∧ m < n) [] := by
  refine calS_mk' T.d__law_draw sc__law_draw (by decide) (fun _ => rfl) fun n o hy f cdv A outer s H E hr => ?_
  obtain ⟨n0, n1⟩ := hy
  refine jb_when (P := fun _ => True) (jt_gtE (P := fun d => ∃ i, d = .int i) (je_sack 0 rfl (.inl rfl) (fun z _ => ⟨z, rfl⟩)) jv_int (fun d ⟨i, e⟩ => ⟨i, e, trivial⟩)) (fun _ => ?_) (fun _ => ?_)
  · refine jb_asg (je_divmod (Q := fun d => ∃ i : Int, 0 ≤ i ∧ d = .tuple [.int (i / n), .int (i % n)]) (P := fun d => ∃ i : Int, 0 ≤ i ∧ d = .int i) (je_sack 0 rfl (.inl rfl) (fun z hz => ⟨z, hz rfl, rfl⟩)) (jv_var 1 rfl) (fun d ⟨i, h, e⟩ => ⟨i, e, i, h, rfl⟩) n0 n1 (by rfl) T.b_divmod) fun d ⟨i, hi, e⟩ => ?_
    subst e
    refine jg_tup (jgs_cons (jg_sack 0 rfl (.inl rfl) (fun _ => Int.ediv_nonneg hi (Int.le_of_lt n0)) (jgs_cons (jg_name 2 (jgs_nil ?_) sc__law_draw.nd))))
    exact jb_ret (JV.to (jv_var 2 rfl) ⟨rfl, i % n, rfl, Int.emod_nonneg i (by omega), Int.emod_lt_of_pos i n0⟩)
  · refine jb_asg (je_addE (Q := fun d => ∃ i, d = .int i) (P := fun d => ∃ i, d = .int i) (R := fun d => d = .int 1) (je_sack 0 rfl (.inr (.inr rfl)) (fun z _ => ⟨z, rfl⟩)) (fun d _ => jv_int) (fun d d' ⟨i, e⟩ e' => ⟨i, 1, e, e', i + 1, rfl⟩)) fun d ⟨i, e⟩ => ?_
    subst e
    refine jg_sack 0 rfl (.inr (.inr rfl)) (fun z => by omega) ?_
    refine jb_set 3 (Q := fun d => ∃ i : Int, d = .int i ∧ 0 ≤ i ∧ i < 2147483543) (je_modE (P := fun d => ∃ i, d = .int i) (je_intI (P := fun d => ∃ i, d = .int i) (je_addE (P := fun d => ∃ i, d = .int i) (R := fun d => ∃ i, d = .int i) (je_mulE (P := fun d => ∃ i, d = .int i) (R := fun d => d = .int 16807) (je_sack 0 rfl (.inr (.inl rfl)) (fun z _ => ⟨z, rfl⟩)) (fun _ _ => jv_int) (fun d d' ⟨i, e⟩ e' => ⟨i, 16807, e, e', .inr (by decide), _, rfl⟩)) (fun _ _ => je_mulE (P := fun d => ∃ i, d = .int i) (R := fun d => d = .int 48611) (je_sack 0 rfl (.inr (.inr rfl)) (fun z _ => ⟨z, rfl⟩)) (fun _ _ => jv_int) (fun d d' ⟨i, e⟩ e' => ⟨i, 48611, e, e', .inr (by decide), _, rfl⟩)) (fun d d' ⟨i, e⟩ ⟨j, e'⟩ => ⟨i, j, e, e', _, rfl⟩)) (fun d ⟨i, e⟩ => ⟨i, e, _, rfl⟩) (by rfl) T.b_int) jv_int (by decide) (fun d ⟨i, e⟩ => ⟨i, e, _, rfl, Int.emod_nonneg i (by decide), Int.emod_lt_of_pos i (by decide)⟩)) (fun d ⟨i, e, b1, b2⟩ => ?_) sc__law_draw.nd
    subst e
    have bi : Bd 40 i := ⟨by omega⟩
    refine jb_asg (Q := fun d => ∃ i, d = .int i) (JV.to (jv_mod (jv_intI (jv_add (jv_mulS (jv_var 3 rfl) (jv_add (jv_mod (jv_intI (jv_fdivS (jv_var 3 rfl) jv_int ⟨by decide, by decide⟩) (by rfl) T.b_int) jv_int (by decide)) jv_int) (.inl ⟨by omega, by omega⟩)) jv_int) (by rfl) T.b_int) jv_int (by decide)) ⟨_, rfl⟩) fun d ⟨j, e⟩ => ?_
    subst e
    refine jg_sack 0 rfl (.inr (.inl rfl)) (fun z => by omega) ?_
    refine jb_ret (je_modE (P := fun d => ∃ i, d = .int i) (je_intI (P := fun d => ∃ i, d = .int i) (je_fdivE (P := fun d => ∃ i, d = .int i) (je_sack 0 rfl (.inr (.inl rfl)) (fun z _ => ⟨z, rfl⟩)) jv_int ⟨by decide, by decide⟩ (fun d ⟨i, e⟩ => ⟨i, e, _, rfl⟩)) (fun d ⟨i, e⟩ => ⟨i, e, _, rfl⟩) (by rfl) T.b_int) (jv_var 1 rfl) n0 (fun d ⟨i, e⟩ => ⟨i, e, rfl, i % n, rfl, Int.emod_nonneg i (by omega), Int.emod_lt_of_pos i n0⟩))
end
end Wf

namespace Wf
open PySem PySem.Spec PyProof.Rows L2 C8
/-- small -/
structure Sm (p : Pt) : Prop where
  a : -100 ≤ p.1
  b : p.1 ≤ 100
  c : -100 ≤ p.2
  d : p.2 ≤ 100
theorem Sm.bd {p : Pt} (h : Sm p) (k : Nat) (hk : 7 ≤ k := by decide) : B2 k p := by
  have h1 : Bd 7 p.1 := ⟨by have := h.a; have := h.b; omega⟩
  have h2 : Bd 7 p.2 := ⟨by have := h.c; have := h.d; omega⟩
  exact ⟨h1.mono hk, h2.mono hk⟩
/-- what is drawn: dots whose rim is told, and a scale -/
structure Drawn (S : List Pt) (c : Int) : Prop where
  asc : Asc S
  ne : S ≠ []
  sm : ∀ p ∈ S, Sm p
  len : S.length < 30
  sc : c = 1 ∨ c = 2
def seqD (t : Bool) (ds : List PyData) : PyData := if t then .tuple ds else .list ds
/-- the outer one of the two comprehensions of the drawn velocities -/
def scOf : Expr → Scope
  | .ListComp _ _ s _ => s
  | _ => ⟨.function, [], false, false, []⟩
def retE : Stmt → Expr
  | .Return (some e) _ => e
  | _ => .Constant .none 0 ⟨0, 0, 0, 0⟩
def ifBody : Stmt → List Stmt
  | .If _ b _ _ => b
  | _ => []
def huntScope : Scope := relS (scOf (retE ((ifBody ((fnBody s__law_hunt).getD 1 (.Pass ⟨0, 0, 0, 0⟩))).getD 0 (.Pass ⟨0, 0, 0, 0⟩)))) (fnScope s__law_hunt)
section
variable {P : Program} {w : World} {K : PySem.W.Frag} {mg : Str → Option Value} {base : Heap} (T : Txt K mg)
include T
theorem c_one : Cal P w K mg base 2 "_law_one" (spS K (α := Bool × List PyData) (fun y => [seqD y.1 y.2]) (fun y => y.2 ≠ [] ∧ y.2.length < 100000) fun y d => d ∈ y.2) [] := by
  refine calS_mk' T.d__law_one sc__law_one (by decide) (fun _ => rfl) fun y o hy f cdv A outer s H E hr => ?_
  obtain ⟨t, ds⟩ := y
  obtain ⟨hne, hl⟩ := hy
  simp only at hne hl
  have cD := c_draw (P := P) (w := w) (base := base) T
  have lp : 0 < ds.length := List.length_pos_iff.mpr hne
  have pickd : ∀ m : Int, 0 ≤ m → m < ds.length → ∃ d, atI ds m = some d ∧ d ∈ ds := fun m h0 h1 => by
    have hm : m.toNat < ds.length := by omega
    refine ⟨ds[m.toNat], ?_, List.getElem_mem hm⟩
    have := atI_nat (i := m.toNat) (List.getElem?_eq_getElem hm)
    rw [show ((m.toNat : Nat) : Int) = m by omega] at this
    exact this
  cases t with
  | true =>
    refine jb_ret (je_ixT (P := (· = .tuple ds)) (jv_var 1 rfl) fun x e => JE.imp (je_cS cD hr 0 rfl (ds.length : Int) (jav_cons (jv_lenT (ds := ds) (jv_var 1 rfl) (by rfl) T.b_len) jav_nil) ⟨by omega, by omega⟩) fun z ⟨m, em, h0, h1⟩ => ?_)
    obtain ⟨d, e1, e2⟩ := pickd m h0 h1
    exact ⟨ds, m, d, e, em, e1, rfl, e2⟩
  | false =>
    refine jb_ret (je_ixL (P := (· = .list ds)) (jv_var 1 rfl) fun x e => JE.imp (je_cS cD hr 0 rfl (ds.length : Int) (jav_cons (jv_lenL (ds := ds) (jv_var 1 rfl) (by rfl) T.b_len) jav_nil) ⟨by omega, by omega⟩) fun z ⟨m, em, h0, h1⟩ => ?_)
    obtain ⟨d, e1, e2⟩ := pickd m h0 h1
    exact ⟨ds, m, d, e, em, e1, rfl, e2⟩
/-- a drawn number less another one -/
theorem je_drawSub {X : Cx} {ρ : Rho} {o : Addr} {p p2 pos pos0 pc pn : Pos} {k1 k2 : Nat} {j : Nat} {n c : Int} (hr : Room j X.A) (hj : 1 ≤ j) (hs : ρ[0]? = some (.sack o)) (h0 : 0 < n ∧ n < 1073741824) (hN : X.N[0]? = some ("_law_sack_here" : Str) := by rfl) (hv : Vis X.env.scope "_law_sack_here" := by first | exact Or.inl rfl | exact Or.inr (Or.inl rfl) | exact Or.inr (Or.inr rfl)) (hg : Gl X "_law_draw" := by rfl)
    (he : starEach [.Name "_law_sack_here" p2, .Constant (.int n) k1 pn] X.env = (false, eval (.Name "_law_sack_here" p2) X.env) :: starEach [.Constant (.int n) k1 pn] X.env := by rfl) (h1 : starEach [.Constant (.int n) k1 pn] X.env = (false, eval (.Constant (.int n) k1 pn) X.env) :: starEach [] X.env := by rfl) (hpl : (backTo pos (starEach [.Constant (.int n) k1 pn] X.env)).any (·.1) = false := by rfl)
    (q1 : X.prog = P := by rfl) (q2 : X.w = w := by rfl) (q3 : X.K = K := by rfl) (q4 : X.mg = mg := by rfl) (q5 : X.base = base := by rfl) : JE X (.BinOp (.Call (.Name "_law_draw" p) [.Name "_law_sack_here" p2, .Constant (.int n) k1 pn] [] pos) .Sub (.Constant (.int c) k2 pc) pos0) ρ (fun d => ∃ m : Int, d = .int (m - c) ∧ 0 ≤ m ∧ m < n) := by
  have cD := c_draw (P := P) (w := w) (base := base) T
  exact je_subE (P := fun d => ∃ m : Int, d = .int m ∧ 0 ≤ m ∧ m < n) (R := (· = .int c)) (je_cS cD hr 0 hs n (jav_cons jv_int jav_nil h1) h0 rfl hj hg hN hv (by decide) (by decide) (by decide) he hpl q1 q2 q3 q4 q5) (fun _ _ => jv_int) fun d d' ⟨m, e, b⟩ e' => ⟨m, c, e, e', m, rfl, b⟩
theorem c_dot : Cal P w K mg base 2 "_law_dot" (spS K (α := Unit) (fun _ => []) (fun _ => True) fun _ d => ∃ p : Pt, d = d2 p ∧ Sm p) [] := by
  refine calS_mk' T.d__law_dot sc__law_dot (by decide) (fun _ => rfl) fun y o hy f cdv A outer s H E hr => ?_
  refine jb_ret (je_tup (P := fun ds => ∃ p : Pt, ds = [.int p.1, .int p.2] ∧ Sm p) ?_ fun ds ⟨p, e, sm⟩ => ⟨by rw [e]; show 2 ≤ sizeLine; decide, rfl, p, by rw [e], sm⟩)
  refine ja_cons (je_drawSub T hr (by decide) rfl ⟨by decide, by decide⟩) fun d ⟨m, e, h0, h1⟩ => ja_cons (je_drawSub T hr (by decide) rfl ⟨by decide, by decide⟩) fun d' ⟨m', e', h0', h1'⟩ => ja_nil ⟨(m - 7, m' - 7), by rw [e, e'], ?_⟩
  exact ⟨by simp only; omega, by simp only; omega, by simp only; omega, by simp only; omega⟩
/-- a rim of drawn dots and its scale -/
def RimD (d : PyData) : Prop := ∃ (S : List Pt) (c : Int), d = .list [.list ((rimOf S).map d2), .int c] ∧ Drawn S c
abbrev menuL : List (List Pt) := [[(1, 0), (0, 1), (-1, -1)], [(2, 1), (-1, 1), (-1, -2)], [(1, 1), (-1, 1), (-1, -1), (1, -1)], [(-1, 0), (1, -1), (1, 2)]]
end
end Wf

namespace Wf
open PySem PySem.Spec PyProof.Rows L2 C8
section
variable {P : Program} {w : World} {K : PySem.W.Frag} {mg : Str → Option Value} {base : Heap} (T : Txt K mg)
include T
theorem c_hunt : Cal P w K mg base 4 "_law_hunt" (spS K (α := Unit) (fun _ => []) (fun _ => True) fun _ d => ∃ d1 d2, d = .list [d1, d2] ∧ RimD d1 ∧ RimD d2) [] := by
  refine calS_mk' T.d__law_hunt sc__law_hunt (by decide) (fun _ => rfl) fun y o hy f cdv A outer s H E hr => ?_
  have cD := c_draw (P := P) (w := w) (base := base) T
  have cR := c_lrim (P := P) (w := w) (base := base) T
  have cO := c_one (P := P) (w := w) (base := base) T
  refine jb_asg (je_tup (P := fun ds => ∃ b m : Int, ds = [.int b, .int (1 + m)] ∧ 0 ≤ m ∧ m < 2) (ja_cons (je_cS cD hr 0 rfl 5 (jav_cons jv_int jav_nil) ⟨by decide, by decide⟩) fun d ⟨b, e, _, _⟩ => ja_cons (je_addE (P := (· = .int 1)) (R := fun d => ∃ m : Int, d = .int m ∧ 0 ≤ m ∧ m < 2) jv_int (fun _ _ => je_cS cD hr 0 rfl 2 (jav_cons jv_int jav_nil) ⟨by decide, by decide⟩) (Q := fun d => ∃ m : Int, d = .int (1 + m) ∧ 0 ≤ m ∧ m < 2) (fun d d' e ⟨m, e', q⟩ => ⟨1, m, e, e', m, rfl, q⟩)) fun d' ⟨m, e', q⟩ => ja_nil ⟨b, m, by rw [e, e'], q⟩) (Q := fun d => ∃ b m : Int, d = .tuple [.int b, .int (1 + m)] ∧ 0 ≤ m ∧ m < 2) fun ds ⟨b, m, e, q⟩ => ⟨by rw [e]; show 2 ≤ sizeLine; decide, b, m, by rw [e], q⟩) fun d ⟨b, m, e, m0, m1⟩ => ?_
  subst e
  have sc : (1 + m = 1 ∨ 1 + m = 2) := by omega
  generalize hc : 1 + m = c at *
  refine jg_tup (jgs_cons (jg_name 1 (jgs_cons (jg_name 2 (jgs_nil ?_) sc__law_hunt.nd)) sc__law_hunt.nd))
  refine jb_whenV (jt_eq (jv_var 1 rfl) jv_int) (fun h => ?_) (fun h => ?_)
  · -- any
    refine jb_ret (JN.je (jn_mapR [("_law_many", 9)] (fun i d => RimD d) (ji_tup (jv_tup (jav_cons jv_int (jav_cons jv_int jav_nil)))) (fun _ _ _ _ _ => pg_name (i := 9) sc__law_hunt.nd rfl (Or.inl rfl)) (tg_name (by decide)) (by decide) (fun i hi => ⟨trivial, fun s H C' cl fp => ?_⟩) sc__law_hunt.nd (blk_by N__law_hunt (fnScope s__law_hunt) (by decide +kernel))) (fun ds h => ?_))
    · have hm : ∃ n : Int, ([PyData.int 4, PyData.int 3] : List PyData).getD i .none = .int n ∧ 0 < n ∧ n < 10 := by
        match i, hi with
        | 0, _ => exact ⟨4, rfl, by decide, by decide⟩
        | 1, _ => exact ⟨3, rfl, by decide, by decide⟩
      obtain ⟨n, en, n0, n1⟩ := hm
      refine JN.je (P := fun ds => ∃ S : List Pt, ds = [.list ((rimOf S).map d2), .int c] ∧ Drawn S c) (jn_lst ?_ fun ds ⟨S, e, _⟩ => by rw [e]; show 2 ≤ sizeLine; decide) fun ds ⟨S, e, q⟩ => ⟨S, c, by rw [e], q⟩
      have key : ∀ (D S : List Pt), D ≠ [] → D.length < 30 → (∀ p ∈ D, Sm p) → Asc S → S ≠ [] → (∀ p, p ∈ S ↔ p ∈ D) → Drawn S c := fun D S _ dl ds as ns mem =>
        ⟨as, ns, fun p hp => ds p ((mem p).mp hp), Nat.lt_of_le_of_lt ((nodup_asc as).length_le_of_subset fun p hp => (mem p).mp hp) dl, sc⟩
      refine ja_cons (P := fun d => ∃ S : List Pt, d = .list ((rimOf S).map d2) ∧ Drawn S c) (je_cR cR hr (R := fun ds => ∃ D : List Pt, ds = [.list (D.map d2)] ∧ D ≠ [] ∧ D.length < 30 ∧ ∀ p ∈ D, Sm p) (ja_cons (P := fun d => ∃ D : List Pt, d = .list (D.map d2) ∧ D ≠ [] ∧ D.length < 30 ∧ ∀ p ∈ D, Sm p) ?_ fun d ⟨D, e, q⟩ => ja_nil ⟨D, by rw [e], q⟩) fun ds ⟨D, e, q1, q2, q3⟩ => ⟨D, e, ⟨fun p hp => (q3 p hp).bd 100, q2, q1⟩, fun d ⟨S, e2, a1, a2, a3⟩ => ⟨S, e2, key D S q1 q2 q3 a1 a2 a3⟩⟩) fun d ⟨S, e, q⟩ => (jav_cons (jv_var 2 rfl) jav_nil).imp fun ds e' => ⟨S, by rw [e, e'], q⟩
      refine JN.je (P := fun ds => ∃ D : List Pt, ds = D.map d2 ∧ D ≠ [] ∧ D.length < 30 ∧ ∀ p ∈ D, Sm p) ?_ fun ds ⟨D, e, q⟩ => ⟨D, by rw [e], q⟩
      refine jn_lcX (β := Nat) (px := fun k => 1 ≤ k ∧ k ≤ 20) [("_law_turn", 12)] (fun k i ds => ∃ D : List Pt, ds = D.map d2 ∧ (D.length = i ∧ i ≤ k) ∧ ∀ p ∈ D, Sm p) (jix_range (je_addE (P := (· = .int 1)) (R := fun d => ∃ m : Int, d = .int m ∧ 0 ≤ m ∧ m < n) jv_int (fun _ _ => je_cS cD hr 0 rfl n (jav_cons (jv_var 9 (show _ = some (SD.val (.int n)) by rw [← en]; rfl)) jav_nil) ⟨n0, by omega⟩) fun d d' e ⟨m, e', q0, q1⟩ => ⟨1, m, e, e', (1 + m).toNat, by omega, by congr 1; omega⟩) (fun k hk => by omega) T.b_range)
        (fun _ _ _ _ _ => pg_name (i := 12) sc__law_hunt.nd rfl (Or.inl rfl)) (tg_name (by decide)) (fun k _ => ⟨[], rfl, ⟨rfl, Nat.zero_le _⟩, fun p hp => nomatch hp⟩) (fun k i ds hk ⟨D, e, l, _⟩ => by rw [e, List.length_map]; omega) (fun k i ds hk hi ⟨D, e, l, sm⟩ => ⟨trivial, (· = true), jtb fun _ _ _ _ _ => jts_nil, (fun h => by cases h), fun _ => jeb fun _ _ _ _ _ => ?_⟩) (fun k ds hk ⟨D, e, l, sm⟩ => ⟨D, e, fun z => by rw [z] at l; have := l.1; simp at this; omega, by omega, sm⟩) sc__law_hunt.nd ?_
      · refine je_tup (P := fun ds => ∃ p : Pt, ds = [.int p.1, .int p.2] ∧ Sm p) ?_ fun ds' ⟨p, e', sp⟩ => ⟨by rw [e']; show 2 ≤ sizeLine; decide, D ++ [p], by rw [e, e', List.map_append]; rfl, by rw [List.length_append]; simp; omega, fun q hq => (mem_snoc hq).elim (sm q) fun z => by rw [z]; exact sp⟩
        refine ja_cons (je_drawSub T hr (by decide) rfl ⟨by decide, by decide⟩) fun d ⟨m, e, h0, h1⟩ => ja_cons (je_drawSub T hr (by decide) rfl ⟨by decide, by decide⟩) fun d' ⟨m', e', h0', h1'⟩ => ja_nil ⟨(m - 4, m' - 4), by rw [e, e'], ?_⟩
        exact ⟨by simp only; omega, by simp only; omega, by simp only; omega, by simp only; omega⟩
      · exact blk_by N__law_hunt huntScope (by decide +kernel)
    · obtain ⟨h1, h2⟩ := h
      obtain ⟨da, ea, ra⟩ := h2 0 (by decide)
      obtain ⟨db, eb, rb⟩ := h2 1 (by decide)
      refine ⟨rfl, da, db, ?_, ra, rb⟩
      congr 1
      match ds, h1, ea, eb with
      | [x, z], _, ea, eb =>
        have a : x = da := by simpa using ea
        have b : z = db := by simpa using eb
        rw [a, b]
  · -- fast and slow
    refine jb_asg (Q := fun d => ∃ x z : Int, d = .tuple [.int x, .int z] ∧ (-2 ≤ x ∧ x ≤ 2) ∧ -2 ≤ z ∧ z ≤ 2) (je_ifV (jt_gt (jv_var 1 rfl) jv_int) (fun _ => je_tup (P := fun ds => ∃ x z : Int, ds = [.int x, .int z] ∧ (-2 ≤ x ∧ x ≤ 2) ∧ -2 ≤ z ∧ z ≤ 2) (ja_cons (je_drawSub T hr (by decide) rfl ⟨by decide, by decide⟩) fun d ⟨m, e, h0, h1⟩ => ja_cons (je_drawSub T hr (by decide) rfl ⟨by decide, by decide⟩) fun d' ⟨m', e', h0', h1'⟩ => ja_nil ⟨m - 2, m' - 2, by rw [e, e'], by omega, by omega, by omega⟩) fun ds ⟨x, z, e, q⟩ => ⟨by rw [e]; show 2 ≤ sizeLine; decide, x, z, by rw [e], q⟩) (fun _ => JV.to (jv_tup (jav_cons jv_int (jav_cons jv_int jav_nil))) ⟨0, 0, rfl, by omega, by omega, by omega⟩)) fun d ⟨x, z, e, bx, bz⟩ => ?_
    subst e
    refine jg_tup (jgs_cons (jg_name 3 (jgs_cons (jg_name 4 (jgs_nil ?_) sc__law_hunt.nd)) sc__law_hunt.nd))
    refine jb_set 5 (Q := (· = .tuple (menuL.map fun L => PyData.list (L.map d2)))) (lit_ok 5 (by rfl)) (fun d e => ?_) sc__law_hunt.nd
    subst e
    refine jb_set 6 (Q := fun d => ∃ k : Int, d = .int k ∧ 2 ≤ k ∧ k ≤ 4) (JE.imp (je_cS cO hr 0 rfl (true, [.int 2, .int 3, .int 4]) (jav_cons (lit_ok 5 (by rfl)) jav_nil) ⟨by simp, by decide⟩) fun d h => ?_) (fun d ⟨k, e, k0, k1⟩ => ?_) sc__law_hunt.nd
    · have h : d ∈ [PyData.int 2, .int 3, .int 4] := h
      simp only [List.mem_cons, List.not_mem_nil, or_false] at h
      rcases h with h | h | h
      · exact ⟨2, h, by decide, by decide⟩
      · exact ⟨3, h, by decide, by decide⟩
      · exact ⟨4, h, by decide, by decide⟩
    subst e
    have bk : Bd 3 k := ⟨by omega⟩
    -- the fast ones
    refine jb_setLcX (β := List Pt) (px := fun L => L ∈ menuL) 7 [("_law_p", 10), ("_law_q", 11)] (fun L i ds => ∃ D : List Pt, ds = D.map d2 ∧ (D.length = i ∧ i ≤ 4) ∧ ∀ p ∈ D, -50 ≤ p.1 ∧ p.1 ≤ 50 ∧ -50 ≤ p.2 ∧ p.2 ≤ 50)
      (jix_list (fun L => L.map d2) (JE.imp (je_cS cO hr 0 rfl (true, menuL.map fun L => PyData.list (L.map d2)) (jav_cons (jv_var 5 rfl) jav_nil) ⟨by simp, by decide⟩) fun d h => ?_))
      (fun _ _ _ _ _ => pg_tup rfl (pgs_cons (pg_name (i := 10) sc__law_hunt.nd rfl (Or.inl rfl)) (pgs_cons (pg_name (i := 11) sc__law_hunt.nd rfl (Or.inl rfl)) pgs_nil))) (tg_tup (js := [10, 11]) (n := 2) (by decide) rfl)
      (fun L _ => ⟨[], rfl, ⟨rfl, Nat.zero_le _⟩, fun p hp => nomatch hp⟩) (fun L i ds hL ⟨D, e, l, _⟩ => by rw [e, List.length_map]; omega) (fun L i ds hL hi ⟨D, e, l, sm⟩ => ?_) (fun L ds hL ⟨D, e, l, sm⟩ => ?_) sc__law_hunt.nd (blk_by N__law_hunt (fnScope s__law_hunt) (by decide +kernel))
    · have h : d ∈ menuL.map fun L => PyData.list (L.map d2) := h
      obtain ⟨L, hL, rfl⟩ := List.mem_map.mp h
      exact ⟨L, hL, rfl⟩
    · have hi' : i < L.length := by simpa using hi
      rw [getD_map L d2 (0, 0) hi']
      have mem : L.getD i (0, 0) ∈ L := by simp [hi']
      have menu : ∀ L ∈ menuL, L.length ≤ 4 ∧ ∀ p ∈ L, -2 ≤ p.1 ∧ p.1 ≤ 2 ∧ -2 ≤ p.2 ∧ p.2 ≤ 2 := by decide
      obtain ⟨l4, mb⟩ := menu L hL
      obtain ⟨p1, p2, p3, p4⟩ := mb _ mem
      generalize L.getD i (0, 0) = q at *
      have b1 : Bd 3 q.1 := ⟨by omega⟩
      have b2 : Bd 3 q.2 := ⟨by omega⟩
      have bound : ∀ t : Int, -2 ≤ t → t ≤ 2 → -8 ≤ k * t ∧ k * t ≤ 8 := fun t h1 h2 => by
        have : k = 2 ∨ k = 3 ∨ k = 4 := by omega
        rcases this with rfl | rfl | rfl <;> omega
      have c1 := bound q.1 p1 p2
      have c2 := bound q.2 p3 p4
      refine ⟨rfl, (· = true), jtb fun _ _ _ _ _ => jts_nil, (fun h => by cases h), fun _ => jeb fun _ _ _ _ _ => ?_⟩
      refine JV.to (jv_tup (jav_cons (jv_add (jv_mul (jv_var 6 rfl) (jv_var 10 rfl)) (jv_var 3 rfl)) (jav_cons (jv_add (jv_mul (jv_var 6 rfl) (jv_var 11 rfl)) (jv_var 4 rfl)) jav_nil))) ⟨D ++ [(k * q.1 + x, k * q.2 + z)], by rw [e, List.map_append]; rfl, by rw [List.length_append]; simp; omega, fun p hp => (mem_snoc hp).elim (sm p) fun y => ?_⟩
      rw [y]
      refine ⟨?_, ?_, ?_, ?_⟩ <;> simp only <;> omega
    have lne : L.length ≠ 0 := by
      have : ∀ L ∈ menuL, L.length ≠ 0 := by decide
      exact this L hL
    subst e
    have dne : D ≠ [] := fun y => by
      rw [y] at l
      have := l.1
      simp at this
      omega
    have dl := l.2
    rw [← l.1] at dl
    have dsm : ∀ p ∈ D, Sm p := fun p hp => by
      obtain ⟨a1, a2, a3, a4⟩ := sm p hp
      exact ⟨by omega, by omega, by omega, by omega⟩
    have dl5 : D.length ≤ 5 := by omega
    clear sm dl l lne
    refine jb_whenP (P := fun _ => True) (fun ρ => ∃ D : List Pt, ρ = [.sack o, .val (.int b), .val (.int c), .val (.int x), .val (.int z), .val (.tuple (menuL.map fun L => PyData.list (L.map d2))), .val (.int k), .own (D.map d2), .no, .no, .no, .no, .no] ∧ D ≠ [] ∧ D.length ≤ 6 ∧ ∀ p ∈ D, Sm p) (jt_eqE (P := fun d => ∃ i : Int, d = .int i) (JE.imp (je_cS cD hr 0 rfl 3 (jav_cons jv_int jav_nil) ⟨by decide, by decide⟩) fun d ⟨m, e, _⟩ => ⟨m, e⟩) jv_int fun d ⟨i, e⟩ => ⟨i, e, trivial⟩) (fun _ => ?_) (fun _ => ⟨D, rfl, dne, by omega, dsm⟩) (fun ρ M => ?_)
    · have je_dx : ∀ (v : Int) (i : Nat), True := fun _ _ => trivial
      refine jb_append 7 rfl (Q := fun d => ∃ p : Pt, d = d2 p ∧ Sm p) (je_tup (P := fun ds => ∃ p : Pt, ds = [.int p.1, .int p.2] ∧ Sm p) (ja_cons (P := fun d => ∃ m : Int, d = .int m ∧ -100 ≤ m ∧ m ≤ 100) (je_addE (P := fun d => ∃ m : Int, d = .int (m - 6) ∧ 0 ≤ m ∧ m < 13) (R := (· = .int x)) (je_drawSub T hr (by decide) rfl ⟨by decide, by decide⟩) (fun _ _ => jv_var 3 rfl) fun d d' ⟨m, e, h0, h1⟩ e' => ⟨m - 6, x, e, e', m - 6 + x, rfl, by omega, by omega⟩) fun d ⟨m, e, q⟩ => ja_cons (P := fun d => ∃ m : Int, d = .int m ∧ -100 ≤ m ∧ m ≤ 100) (je_addE (P := fun d => ∃ m : Int, d = .int (m - 6) ∧ 0 ≤ m ∧ m < 13) (R := (· = .int z)) (je_drawSub T hr (by decide) rfl ⟨by decide, by decide⟩) (fun _ _ => jv_var 4 rfl) fun d d' ⟨m, e, h0, h1⟩ e' => ⟨m - 6, z, e, e', m - 6 + z, rfl, by omega, by omega⟩) fun d' ⟨m', e', q'⟩ => ja_nil ⟨(m, m'), by rw [e, e'], q.1, q.2, q'.1, q'.2⟩) fun ds ⟨p, e, q⟩ => ⟨by rw [e]; show 2 ≤ sizeLine; decide, p, by rw [e], q⟩) (fun d ⟨p, e, q⟩ => jb_nil [] ⟨D ++ [p], by rw [e, List.map_append]; rfl, by simp, by rw [List.length_append]; simp; omega, fun p' hp => (mem_snoc hp).elim (dsm p') fun y => y ▸ q⟩) (by rw [List.length_map]; omega)
    obtain ⟨D, rfl, dne, dl, dsm⟩ := M
    -- the slow ones
    have key : ∀ (D S : List Pt), D ≠ [] → D.length < 30 → (∀ p ∈ D, Sm p) → Asc S → S ≠ [] → (∀ p, p ∈ S ↔ p ∈ D) → Drawn S c := fun D S _ dl ds as ns mem =>
      ⟨as, ns, fun p hp => ds p ((mem p).mp hp), Nat.lt_of_le_of_lt ((nodup_asc as).length_le_of_subset fun p hp => (mem p).mp hp) dl, sc⟩
    have je_a : ∀ {X : Cx} {ρ : Rho} {e1 e2 : Expr} {v : Int} {p q : Pos} {kk : Nat} {pc : Pos}, -50 ≤ v → v ≤ 50 → JV X e1 ρ (.int v) → JE X e2 ρ (fun d => ∃ m : Int, d = .int m ∧ 0 ≤ m ∧ m < 3) → JE X (.BinOp (.BinOp e1 .Add e2 p) .Sub (.Constant (.int 1) kk pc) q) ρ fun d => ∃ m : Int, d = .int m ∧ -100 ≤ m ∧ m ≤ 100 := fun {X ρ e1 e2 v p q kk pc} v0 v1 h1 h2 =>
      je_subE (P := fun d => ∃ m : Int, d = .int m ∧ -51 < m ∧ m < 60) (R := (· = .int 1)) (je_addE (P := (· = .int v)) (R := fun d => ∃ m : Int, d = .int m ∧ 0 ≤ m ∧ m < 3) h1 (fun _ _ => h2) fun d d' e ⟨m, e', q⟩ => ⟨v, m, e, e', v + m, rfl, by omega, by omega⟩) (fun _ _ => jv_int) fun d d' ⟨m, e, q⟩ e' => ⟨m, 1, e, e', m - 1, rfl, by omega, by omega⟩
    refine jb_setLcX (β := Nat) (px := fun k => 1 ≤ k ∧ k ≤ 20) 8 [("_law_turn", 12)] (fun k i ds => ∃ D : List Pt, ds = D.map d2 ∧ (D.length = i ∧ i ≤ k) ∧ ∀ p ∈ D, Sm p) (jix_range (je_addE (P := (· = .int 1)) (R := fun d => ∃ m : Int, d = .int m ∧ 0 ≤ m ∧ m < 3) jv_int (fun _ _ => je_cS cD hr 0 rfl 3 (jav_cons jv_int jav_nil) ⟨by decide, by decide⟩) fun d d' e ⟨m, e', q0, q1⟩ => ⟨1, m, e, e', (1 + m).toNat, by omega, by congr 1; omega⟩) (fun k hk => by omega) T.b_range)
      (fun _ _ _ _ _ => pg_name (i := 12) sc__law_hunt.nd rfl (Or.inl rfl)) (tg_name (by decide)) (fun k _ => ⟨[], rfl, ⟨rfl, Nat.zero_le _⟩, fun p hp => nomatch hp⟩) (fun k i ds hk ⟨D, e, l, _⟩ => by rw [e, List.length_map]; omega) (fun k i ds hk hi ⟨D, e, l, sm⟩ => ⟨trivial, (· = true), jtb fun _ _ _ _ _ => jts_nil, (fun h => by cases h), fun _ => jeb fun _ _ _ _ _ => ?_⟩) (fun k ds hk ⟨E, e, l, sm⟩ => ?_) sc__law_hunt.nd (blk_by N__law_hunt (fnScope s__law_hunt) (by decide +kernel))
    · refine je_tup (P := fun ds => ∃ p : Pt, ds = [.int p.1, .int p.2] ∧ Sm p) (ja_cons (P := fun d => ∃ m : Int, d = .int m ∧ -100 ≤ m ∧ m ≤ 100) (je_a (by omega) (by omega) (jv_var 3 rfl) (je_cS cD hr 0 rfl 3 (jav_cons jv_int jav_nil) ⟨by decide, by decide⟩)) fun d ⟨m, e, q⟩ => ja_cons (P := fun d => ∃ m : Int, d = .int m ∧ -100 ≤ m ∧ m ≤ 100) (je_a (by omega) (by omega) (jv_var 4 rfl) (je_cS cD hr 0 rfl 3 (jav_cons jv_int jav_nil) ⟨by decide, by decide⟩)) fun d' ⟨m', e', q'⟩ => ja_nil ⟨(m, m'), by rw [e, e'], q.1, q.2, q'.1, q'.2⟩) fun ds' ⟨p, e', sp⟩ => ⟨by rw [e']; show 2 ≤ sizeLine; decide, D ++ [p], by rw [e, e', List.map_append]; rfl, by rw [List.length_append]; simp; omega, fun q hq => (mem_snoc hq).elim (sm q) fun y => by rw [y]; exact sp⟩
    subst e
    have ene : E ≠ [] := fun y => by rw [y] at l; have := l.1; simp at this; omega
    have el : E.length < 30 := by omega
    refine jb_seal 7 rfl (jb_seal 8 rfl ?_)
    have rimE : ∀ {ρ : Rho} {X : Cx} {e e2 : Expr} {p : Pos} {D : List Pt}, D ≠ [] → D.length < 30 → (∀ p ∈ D, Sm p) → JE X e ρ (fun d => ∃ S, d = .list ((rimOf S).map d2) ∧ Asc S ∧ S ≠ [] ∧ ∀ p, p ∈ S ↔ p ∈ D) → JV X e2 ρ (.int c) → (starEach [e, e2] X.env = (false, eval e X.env) :: starEach [e2] X.env) → (starEach [e2] X.env = (false, eval e2 X.env) :: starEach [] X.env) → JE X (.List [e, e2] p) ρ RimD := fun {ρ X e e2 p D} q1 q2 q3 h1 h2 s1 s2 =>
      JN.je (P := fun ds => ∃ S : List Pt, ds = [.list ((rimOf S).map d2), .int c] ∧ Drawn S c) (jn_lst (ja_cons (P := fun d => ∃ S : List Pt, d = .list ((rimOf S).map d2) ∧ Drawn S c) (h1.imp fun d ⟨S, e2, a1, a2, a3⟩ => ⟨S, e2, key D S q1 q2 q3 a1 a2 a3⟩) (fun d ⟨S, e, q⟩ => (jav_cons h2 jav_nil s2).imp fun ds e' => ⟨S, by rw [e, e'], q⟩) s1) fun ds ⟨S, e, _⟩ => by rw [e]; show 2 ≤ sizeLine; decide) fun ds ⟨S, e, q⟩ => ⟨S, c, by rw [e], q⟩
    refine jb_ret (JN.je (P := fun ds => ∃ x y : PyData, ds = [x, y] ∧ RimD x ∧ RimD y) (jn_lst (ja_cons (rimE (D := D) dne (by omega) dsm (je_cV cR hr D (jav_cons (jv_var 7 rfl) jav_nil) ⟨fun p hp => (dsm p hp).bd 100, by omega, dne⟩) (jv_var 2 rfl) (by rfl) (by rfl)) fun d q => ja_cons (rimE (D := E) ene el sm (je_cV cR hr E (jav_cons (jv_var 8 rfl) jav_nil) ⟨fun p hp => (sm p hp).bd 100, el, ene⟩) (jv_var 2 rfl) (by rfl) (by rfl)) fun d' q' => ja_nil ⟨d, d', rfl, q, q'⟩) fun ds ⟨x, y, e, _⟩ => by rw [e]; show 2 ≤ sizeLine; decide) fun ds ⟨x, y, e, q⟩ => ⟨rfl, x, y, by rw [e], q⟩)
end
end Wf

namespace Wf
open PySem PySem.Spec PyProof.Rows L2 C8
/-! ### the law's own line through the hull -/
structure Fd3 (Fd : List Pt) (n : Nat) (P : Prop) : Prop where
  pos : ∀ f ∈ Fd, 0 < f.2
  bd : ∀ f ∈ Fd, B2 3000 f
  len : Fd.length ≤ n
  iff : (∃ f ∈ Fd, 0 < f.1) ↔ P
theorem Fd3.imp {Fd : List Pt} {n m : Nat} {P Q : Prop} (h : Fd3 Fd n P) (l : n ≤ m) (q : P ↔ Q) : Fd3 Fd m Q := ⟨h.pos, h.bd, Nat.le_trans h.len l, h.iff.trans q⟩
theorem Fd3.push {Fd : List Pt} {n : Nat} {P : Prop} {f : Pt} (h : Fd3 Fd n P) (p : 0 < f.2) (b : B2 3000 f) : Fd3 (Fd ++ [f]) (n + 1) (P ∨ 0 < f.1) := by
  refine ⟨fun g hg => (mem_snoc hg).elim (h.pos g) fun e => e ▸ p, fun g hg => (mem_snoc hg).elim (h.bd g) fun e => e ▸ b, ?_, ?_⟩
  · rw [List.length_append]; have := h.len; simp; omega
  · rw [← h.iff]
    constructor
    · rintro ⟨g, hg, q⟩
      exact (mem_snoc hg).elim (fun z => .inl ⟨g, z, q⟩) fun e => .inr (e ▸ q)
    · rintro (⟨g, hg, q⟩ | q)
      · exact ⟨g, List.mem_append_left _ hg, q⟩
      · exact ⟨f, by simp, q⟩
theorem pos_mul_iff {k x : Int} (h : 0 < k) : 0 < k * x ↔ 0 < x := ⟨fun q => pos_of_mul h q, fun q => mul_pp h q⟩
abbrev spR (R : List Pt) (sc x z w a b c : Int) (T Fd : List Pt) (m : Int) (e14 e15 e16 e17 e18 e19 : SD) : Rho :=
  [.val (.list [.list (R.map d2), .int sc]), .val (d3 (x, z, w)), .val (d3 (a, b, c)), .val (.list (R.map d2)), .val (.int sc), .val (.int x), .val (.int z), .val (.int w), .val (.int a), .val (.int b), .val (.int c), .val (.list (T.map d2)), .own (Fd.map d2), .val (.int m), e14, e15, e16, e17, e18, e19, .no, .no, .no, .no, .no]
/-- what is asked of the line -/
structure SpanPre (R : List Pt) (sc : Int) (v : V3) (g : V3) : Prop where
  sp : 0 < sc
  bs : Bd 50 sc
  rim : ∀ p ∈ R, B2 50 p
  few : R.length < 60
  bv : B3 100 v
  vp : 0 < v.2.2
  bg : B3 700 g
  nz : ¬ (g.1 = 0 ∧ g.2.1 = 0)
  cp : 0 < g.2.2
section
variable {P : Program} {w : World} {K : PySem.W.Frag} {mg : Str → Option Value} {base : Heap} (T : Txt K mg)
include T
theorem c_span : Cal P w K mg base 3 "_law_span" (spD K (α := (List Pt × Int) × V3 × V3) (fun y => [.list [.list (y.1.1.map d2), .int y.1.2], d3 y.2.1, d3 y.2.2]) (fun y => SpanPre y.1.1 y.1.2 y.2.1 y.2.2)
    fun y d => (d = .list [] ∧ ¬ HitS (stepsOf y.1.1 y.1.2 y.2.1) (y.2.2.1, y.2.2.2.1)) ∨ ∃ lo hi : Pt, d = .list [d2 lo, d2 hi] ∧ (0 < hi.1 ↔ HitS (stepsOf y.1.1 y.1.2 y.2.1) (y.2.2.1, y.2.2.2.1))) [] := by
  refine cal_mk' T.d__law_span sc__law_span (fun _ => rfl) fun y hy f cdv A outer s0 H E hr => ?_
  obtain ⟨⟨R, sc⟩, ⟨x, z, v⟩, a, b, c⟩ := y
  obtain ⟨sp, bs, rim, few, bv, vp, bg, nz, cp⟩ := hy
  simp only at sp bs rim few bv vp bg nz cp ⊢
  have bx : Bd 100 x := bv.x
  have bz : Bd 100 z := bv.y
  have bw : Bd 100 v := bv.z
  have ba : Bd 700 a := bg.x
  have bb : Bd 700 b := bg.y
  have bc : Bd 700 c := bg.z
  have cR := c_lratio (P := P) (w := w) (base := base) T
  have cL := c_lless (P := P) (w := w) (base := base) T
  refine jb_asg (jv_var 0 rfl) fun d e => ?_
  subst e
  refine jg_unl (jgs_cons (jg_name 3 (jgs_cons (jg_name 4 (jgs_nil ?_) sc__law_span.nd)) sc__law_span.nd))
  refine jb_asg (jv_var 1 rfl) fun d e => ?_
  subst e
  refine jg_tup (jgs_cons (jg_name 5 (jgs_cons (jg_name 6 (jgs_cons (jg_name 7 (jgs_nil ?_) sc__law_span.nd)) sc__law_span.nd)) sc__law_span.nd))
  refine jb_asg (jv_var 2 rfl) fun d e => ?_
  subst e
  refine jg_tup (jgs_cons (jg_name 8 (jgs_cons (jg_name 9 (jgs_cons (jg_name 10 (jgs_nil ?_) sc__law_span.nd)) sc__law_span.nd)) sc__law_span.nd))
  have ll : (R.map d2).length = R.length := by simp
  refine jb_is [.val (.list [.list (R.map d2), .int sc]), .val (d3 (x, z, v)), .val (d3 (a, b, c)), .val (.list (R.map d2)), .val (.int sc), .val (.int x), .val (.int z), .val (.int v), .val (.int a), .val (.int b), .val (.int c), .no, .no, .no, .no, .no, .no, .no, .no, .no, .no, .no, .no, .no, .no] ?_
  refine jb_setMapV 11 [("_law_p", 23), ("_law_q", 24)] (fun i => d2 ((R.getD i (0, 0)).1 * v - x * sc, (R.getD i (0, 0)).2 * v - z * sc)) (ji_list (jv_var 3 rfl)) (fun _ _ _ _ _ => pg_tup rfl (pgs_cons (pg_name (i := 23) sc__law_span.nd rfl (Or.inl rfl)) (pgs_cons (pg_name (i := 24) sc__law_span.nd rfl (Or.inl rfl)) pgs_nil))) (tg_tup (js := [23, 24]) (n := 2) (by decide) rfl) (by rw [ll]; omega) (fun i hi => ?_) ?_ sc__law_span.nd (blk_by N__law_span (fnScope s__law_span) (by decide +kernel))
  · have hi' : i < R.length := by rw [← ll]; exact hi
    rw [getD_map R d2 (0, 0) hi']
    have bp := rim (R.getD i (0, 0)) (by simp [hi'])
    generalize R.getD i (0, 0) = p at *
    have b1 := bp.x
    have b2 := bp.y
    refine ⟨rfl, fun s H C' cl fp => je_is [.val (.list [.list (R.map d2), .int sc]), .val (d3 (x, z, v)), .val (d3 (a, b, c)), .val (.list (R.map d2)), .val (.int sc), .val (.int x), .val (.int z), .val (.int v), .val (.int a), .val (.int b), .val (.int c), .no, .no, .no, .no, .no, .no, .no, .no, .no, .no, .no, .no, .val (.int p.1), .val (.int p.2)] ?_⟩
    exact jv_tup (jav_cons (jv_sub (jv_mul (jv_var 23 rfl) (jv_var 7 rfl)) (jv_mul (jv_var 5 rfl) (jv_var 4 rfl))) (jav_cons (jv_sub (jv_mul (jv_var 24 rfl) (jv_var 7 rfl)) (jv_mul (jv_var 6 rfl) (jv_var 4 rfl))) jav_nil))
  rw [ll]
  have te : ((List.range R.length).map fun i => d2 ((R.getD i (0, 0)).1 * v - x * sc, (R.getD i (0, 0)).2 * v - z * sc)) = (stepsOf R sc (x, z, v)).map d2 := by
    rw [range_map R (0, 0) fun p => d2 (p.1 * v - x * sc, p.2 * v - z * sc), List.map_map]
    rfl
  rw [te]
  refine jb_seal 11 rfl ?_
  refine jb_is [.val (.list [.list (R.map d2), .int sc]), .val (d3 (x, z, v)), .val (d3 (a, b, c)), .val (.list (R.map d2)), .val (.int sc), .val (.int x), .val (.int z), .val (.int v), .val (.int a), .val (.int b), .val (.int c), .val (.list ((stepsOf R sc (x, z, v)).map d2)), .no, .no, .no, .no, .no, .no, .no, .no, .no, .no, .no, .no, .no] ?_
  have tl : (stepsOf R sc (x, z, v)).length = R.length := by simp
  have bT : ∀ t ∈ stepsOf R sc (x, z, v), B2 151 t := fun t ht => by
    obtain ⟨p, hp, rfl⟩ := List.mem_map.mp ht
    have b1 := (rim p hp).x
    have b2 := (rim p hp).y
    exact ⟨(inferInstance : Bd 151 (p.1 * v - x * sc)), (inferInstance : Bd 151 (p.2 * v - z * sc))⟩
  generalize stepsOf R sc (x, z, v) = S at *
  rw [← tl] at few
  have mp : 0 < a * a + b * b := sq_pos nz
  have bm : Bd 1401 (a * a + b * b) := inferInstance
  refine jb_parN 12 13 (P := fun ds => ds = []) (jn_lst (ja_nil rfl) (fun ds e => by rw [e]; exact Nat.zero_le _)) (jv_add (jv_mul (jv_var 8 rfl) (jv_var 8 rfl)) (jv_mul (jv_var 9 rfl) (jv_var 9 rfl))) (fun ds e => ?_) sc__law_span.nd
  subst e
  generalize hm : a * a + b * b = m at *
  refine jb_is (spR R sc x z v a b c S [] m .no .no .no .no .no .no) ?_
  refine jb_for (fun j ρ => ∃ (Fd : List Pt) (e14 e15 e16 e17 e18 e19 : SD), ρ = spR R sc x z v a b c S Fd m e14 e15 e16 e17 e18 e19 ∧ Fd3 Fd (3 * (60 * j)) (Upto S (a, b) j 0)) (n := S.length) (ji_range (P := fun _ => True) (by rfl) T.b_range (JV.is (jv_lenL (ds := S.map d2) (jv_var 11 rfl) (by rfl) T.b_len) (by simp)) (by omega))
    ⟨[], .no, .no, .no, .no, .no, .no, rfl, (fun f hf => nomatch hf), (fun f hf => nomatch hf), Nat.zero_le _, ⟨fun ⟨f, hf, _⟩ => (nomatch hf), fun h => (upto_zero h).elim⟩⟩ (fun j ρ hj J => ?_) (fun ρ J => ?_)
  · obtain ⟨Fd, e14, e15, e16, e17, e18, e19, rfl, fd⟩ := J
    refine jg_name 14 ?_ sc__law_span.nd
    refine jb_for (fun i ρ => ∃ (Fd : List Pt) (e15 e16 e17 e18 e19 : SD), ρ = spR R sc x z v a b c S Fd m (.val (.int (j : Int))) e15 e16 e17 e18 e19 ∧ Fd3 Fd (3 * (60 * j + i)) (Upto S (a, b) j i)) (n := j + 1) (ji_range (P := fun _ => True) (by rfl) T.b_range (JV.is (jv_add (jv_var 14 rfl) jv_int) (by congr 1)) (by omega))
      ⟨Fd, e15, e16, e17, e18, e19, rfl, fd⟩ (fun i ρ hi J => ?_) (fun ρ J => ?_)
    · obtain ⟨Fd, e15, e16, e17, e18, e19, rfl, fd⟩ := J
      refine jg_name 15 ?_ sc__law_span.nd
      have hi' : i < S.length := by omega
      have ai : atI (S.map d2) (i : Int) = some (d2 (gt S i)) := atI_nat (by simp [gt, hi'])
      have aj : atI (S.map d2) (j : Int) = some (d2 (gt S j)) := atI_nat (by simp [gt, hj])
      have bi := bT _ (gt_mem hi')
      have bj := bT _ (gt_mem hj)
      have un := upto_next (T := S) (d := (a, b)) (j := j) (i := i)
      generalize gt S i = s at *
      generalize gt S j = t at *
      have b1 := bi.x
      have b2 := bi.y
      have b3 := bj.x
      have b4 := bj.y
      refine jb_parV 16 17 (d1 := .int (cr (a, b) s)) (d2 := .int (cr (a, b) t)) (jv_sub (jv_mul (jv_var 8 rfl) (jv_ixT (jv_ixL (jv_var 11 rfl) (jv_var 15 rfl) ai) jv_int rfl)) (jv_mul (jv_var 9 rfl) (jv_ixT (jv_ixL (jv_var 11 rfl) (jv_var 15 rfl) ai) jv_int rfl))) (jv_sub (jv_mul (jv_var 8 rfl) (jv_ixT (jv_ixL (jv_var 11 rfl) (jv_var 14 rfl) aj) jv_int rfl)) (jv_mul (jv_var 9 rfl) (jv_ixT (jv_ixL (jv_var 11 rfl) (jv_var 14 rfl) aj) jv_int rfl))) ?_ sc__law_span.nd
      refine jb_parV 18 19 (d1 := .int (dt (a, b) s)) (d2 := .int (dt (a, b) t)) (jv_add (jv_mul (jv_var 8 rfl) (jv_ixT (jv_ixL (jv_var 11 rfl) (jv_var 15 rfl) ai) jv_int rfl)) (jv_mul (jv_var 9 rfl) (jv_ixT (jv_ixL (jv_var 11 rfl) (jv_var 15 rfl) ai) jv_int rfl))) (jv_add (jv_mul (jv_var 8 rfl) (jv_ixT (jv_ixL (jv_var 11 rfl) (jv_var 14 rfl) aj) jv_int rfl)) (jv_mul (jv_var 9 rfl) (jv_ixT (jv_ixL (jv_var 11 rfl) (jv_var 14 rfl) aj) jv_int rfl))) ?_ sc__law_span.nd
      have bh : Bd 852 (cr (a, b) s) := (inferInstance : Bd 852 (a * s.2 - b * s.1))
      have bt : Bd 852 (cr (a, b) t) := (inferInstance : Bd 852 (a * t.2 - b * t.1))
      have bn : Bd 852 (dt (a, b) s) := (inferInstance : Bd 852 (a * s.1 + b * s.2))
      have bf : Bd 852 (dt (a, b) t) := (inferInstance : Bd 852 (a * t.1 + b * t.2))
      have up : Upto S (a, b) j (i + 1) ↔ ((Upto S (a, b) j i ∨ (cr (a, b) s = 0 ∧ 0 < dt (a, b) s)) ∨ (cr (a, b) t = 0 ∧ 0 < dt (a, b) t)) ∨ (cr (a, b) s * cr (a, b) t < 0 ∧ 0 < (dt (a, b) s * cr (a, b) t - dt (a, b) t * cr (a, b) s) * (cr (a, b) t - cr (a, b) s)) := by
        rw [un, PairHit, or_assoc, or_assoc]
      generalize cr (a, b) s = h at *
      generalize cr (a, b) t = th at *
      generalize dt (a, b) s = ne at *
      generalize dt (a, b) t = fr at *
      generalize Upto S (a, b) j i = U at *
      have k1 : 0 < c * (m * sc * v) := mul_pp cp (mul_pp (mul_pp mp sp) vp)
      have u1 : m * sc * v ≠ 0 := by have := mul_pp (mul_pp mp sp) vp; omega
      refine jb_whenM (fun ρ => ∃ Fd, ρ = spR R sc x z v a b c S Fd m (.val (.int (j : Int))) (.val (.int (i : Int))) (.val (.int h)) (.val (.int th)) (.val (.int ne)) (.val (.int fr)) ∧ Fd3 Fd (3 * (60 * j + i) + 1) (U ∨ (h = 0 ∧ 0 < ne))) (jt_eq (jv_var 16 rfl) jv_int) (fun q => ?_) (fun q => ?_) (fun ρ M => ?_)
      · have h0 : h = 0 := of_decide_eq_true q
        refine jb_append 12 rfl (je_cV cR hr (ne * c, m * sc * v) (jav_cons (jv_mul (jv_var 18 rfl) (jv_var 10 rfl)) (jav_cons (jv_mul (jv_mul (jv_var 13 rfl) (jv_var 4 rfl)) (jv_var 7 rfl)) jav_nil)) ⟨u1, Bd.up 3000 (inferInstance : Bd 1552 (ne * c)), Bd.up 3000 (inferInstance : Bd 1551 (m * sc * v))⟩) (fun d ⟨r, e, rt⟩ => jb_nil [] ⟨Fd ++ [r], by rw [e]; unfold spR; rw [List.map_append]; rfl, (fd.push rt.pos ⟨Bd.le (inferInstance : Bd 1552 (ne * c)) rt.b1 |>.up 3000, Bd.le (inferInstance : Bd 1551 (m * sc * v)) rt.b2 |>.up 3000⟩).imp (Nat.le_refl _) ?_⟩) (by rw [List.length_map]; have := fd.len; omega)
        rw [rt_sign rt.pos rt.eq u1, show ne * c * (m * sc * v) = c * (m * sc * v) * ne by grind, pos_mul_iff k1]
        exact or_congr_right ⟨fun z => ⟨h0, z⟩, fun z => z.2⟩
      · have h0 : h ≠ 0 := of_decide_eq_false q
        exact ⟨Fd, rfl, fd.imp (Nat.le_succ _) ⟨.inl, fun z => z.elim id fun z => absurd z.1 h0⟩⟩
      obtain ⟨Fd, rfl, fd⟩ := M
      generalize (U ∨ (h = 0 ∧ 0 < ne)) = U1 at *
      refine jb_whenM (fun ρ => ∃ Fd, ρ = spR R sc x z v a b c S Fd m (.val (.int (j : Int))) (.val (.int (i : Int))) (.val (.int h)) (.val (.int th)) (.val (.int ne)) (.val (.int fr)) ∧ Fd3 Fd (3 * (60 * j + i) + 2) (U1 ∨ (th = 0 ∧ 0 < fr))) (jt_eq (jv_var 17 rfl) jv_int) (fun q => ?_) (fun q => ?_) (fun ρ M => ?_)
      · have h0 : th = 0 := of_decide_eq_true q
        refine jb_append 12 rfl (je_cV cR hr (fr * c, m * sc * v) (jav_cons (jv_mul (jv_var 19 rfl) (jv_var 10 rfl)) (jav_cons (jv_mul (jv_mul (jv_var 13 rfl) (jv_var 4 rfl)) (jv_var 7 rfl)) jav_nil)) ⟨u1, Bd.up 3000 (inferInstance : Bd 1552 (fr * c)), Bd.up 3000 (inferInstance : Bd 1551 (m * sc * v))⟩) (fun d ⟨r, e, rt⟩ => jb_nil [] ⟨Fd ++ [r], by rw [e]; unfold spR; rw [List.map_append]; rfl, (fd.push rt.pos ⟨Bd.le (inferInstance : Bd 1552 (fr * c)) rt.b1 |>.up 3000, Bd.le (inferInstance : Bd 1551 (m * sc * v)) rt.b2 |>.up 3000⟩).imp (Nat.le_refl _) ?_⟩) (by rw [List.length_map]; have := fd.len; omega)
        rw [rt_sign rt.pos rt.eq u1, show fr * c * (m * sc * v) = c * (m * sc * v) * fr by grind, pos_mul_iff k1]
        exact or_congr_right ⟨fun z => ⟨h0, z⟩, fun z => z.2⟩
      · have h0 : th ≠ 0 := of_decide_eq_false q
        exact ⟨Fd, rfl, fd.imp (Nat.le_succ _) ⟨.inl, fun z => z.elim id fun z => absurd z.1 h0⟩⟩
      obtain ⟨Fd, rfl, fd⟩ := M
      generalize (U1 ∨ (th = 0 ∧ 0 < fr)) = U2 at *
      refine jb_whenM (fun ρ => ∃ Fd, ρ = spR R sc x z v a b c S Fd m (.val (.int (j : Int))) (.val (.int (i : Int))) (.val (.int h)) (.val (.int th)) (.val (.int ne)) (.val (.int fr)) ∧ Fd3 Fd (3 * (60 * j + i) + 3) (U2 ∨ (h * th < 0 ∧ 0 < (ne * th - fr * h) * (th - h)))) (jt_lt (jv_mul (jv_var 16 rfl) (jv_var 17 rfl)) jv_int) (fun q => ?_) (fun q => ?_) (fun ρ M => ?_)
      · have h0 : h * th < 0 := of_decide_eq_true q
        have hne : th - h ≠ 0 := fun z => by
          have := neg_of_mulneg h0
          omega
        have u2 : (th - h) * m * sc * v ≠ 0 := fun z => by
          have e : (th - h) * m * sc * v = (m * sc * v) * (th - h) := by grind
          rw [e] at z
          exact hne (zero_of_mul (mul_pp (mul_pp mp sp) vp) z)
        refine jb_append 12 rfl (je_cV cR hr ((ne * th - fr * h) * c, (th - h) * m * sc * v) (jav_cons (jv_mul (jv_sub (jv_mul (jv_var 18 rfl) (jv_var 17 rfl)) (jv_mul (jv_var 19 rfl) (jv_var 16 rfl))) (jv_var 10 rfl)) (jav_cons (jv_mul (jv_mul (jv_mul (jv_sub (jv_var 17 rfl) (jv_var 16 rfl)) (jv_var 13 rfl)) (jv_var 4 rfl)) (jv_var 7 rfl)) jav_nil)) ⟨u2, Bd.up 3000 (inferInstance : Bd 2405 ((ne * th - fr * h) * c)), Bd.up 3000 (inferInstance : Bd 2404 ((th - h) * m * sc * v))⟩) (fun d ⟨r, e, rt⟩ => jb_nil [] ⟨Fd ++ [r], by rw [e]; unfold spR; rw [List.map_append]; rfl, (fd.push rt.pos ⟨Bd.le (inferInstance : Bd 2405 ((ne * th - fr * h) * c)) rt.b1 |>.up 3000, Bd.le (inferInstance : Bd 2404 ((th - h) * m * sc * v)) rt.b2 |>.up 3000⟩).imp (Nat.le_refl _) ?_⟩) (by rw [List.length_map]; have := fd.len; omega)
        rw [rt_sign rt.pos rt.eq u2, show (ne * th - fr * h) * c * ((th - h) * m * sc * v) = c * (m * sc * v) * ((ne * th - fr * h) * (th - h)) by grind, pos_mul_iff k1]
        exact or_congr_right ⟨fun z => ⟨h0, z⟩, fun z => z.2⟩
      · have h0 : ¬ h * th < 0 := of_decide_eq_false q
        exact ⟨Fd, rfl, fd.imp (Nat.le_succ _) ⟨.inl, fun z => z.elim id fun z => absurd z.1 h0⟩⟩
      obtain ⟨Fd, rfl, fd⟩ := M
      exact jb_nil [] ⟨Fd, _, _, _, _, _, rfl, fd.imp (by omega) up.symm⟩
    · obtain ⟨Fd, e15, e16, e17, e18, e19, rfl, fd⟩ := J
      exact jb_nil [] ⟨Fd, _, _, _, _, _, _, rfl, fd.imp (by omega) upto_row⟩
  · obtain ⟨Fd, e14, e15, e16, e17, e18, e19, rfl, fd⟩ := J
    have fd := fd.imp (Nat.le_refl _) (upto_all (T := S) (d := (a, b)))
    generalize HitS S (a, b) = G at *
    refine jb_seal 12 rfl ?_
    match Fd, fd with
    | [], fd =>
      refine jb_whenV (jt_eqD (jv_var 12 rfl) (jv_lst jav_nil) (Nat.lt_of_le_of_lt (Nat.add_le_add_left (by decide) _) (room65 hr)) (by rfl) (by rfl)) (fun _ => ?_) fun h => ?_
      · exact jb_ret (JV.to (jv_lst jav_nil) (.inl ⟨rfl, fun g => by obtain ⟨f, hf, _⟩ := fd.iff.mpr g; cases hf⟩))
      · cases h
    | f0 :: Fr, fd =>
      refine jb_unless (jt_eqD (jv_var 12 rfl) (jv_lst jav_nil) (Nat.lt_of_le_of_lt (Nat.add_le_add_left (by decide) _) (room65 hr)) (shaped_lst d2_lay d2_dep (f0 :: Fr)) (by rfl)) (by rfl) ?_
      refine jb_parV 20 21 (d1 := d2 f0) (d2 := d2 f0) (jv_ixL (jv_var 12 rfl) jv_int (atI_nat (i := 0) rfl)) (jv_ixL (jv_var 12 rfl) jv_int (atI_nat (i := 0) rfl)) ?_ sc__law_span.nd
      have f0m : f0 ∈ f0 :: Fr := List.mem_cons_self
      generalize f0 :: Fr = L at *
      refine jb_for (fun i ρ => ∃ (lo hi : Pt) (e22 : SD), ρ = [.val (.list [.list (R.map d2), .int sc]), .val (d3 (x, z, v)), .val (d3 (a, b, c)), .val (.list (R.map d2)), .val (.int sc), .val (.int x), .val (.int z), .val (.int v), .val (.int a), .val (.int b), .val (.int c), .val (.list (S.map d2)), .val (.list (L.map d2)), .val (.int m), e14, e15, e16, e17, e18, e19, .val (d2 lo), .val (d2 hi), e22, .no, .no] ∧ lo ∈ L ∧ hi ∈ L ∧ ∀ g ∈ L.take i, g.1 * hi.2 ≤ hi.1 * g.2)
        (ji_list (jv_var 12 rfl)) ⟨f0, f0, .no, rfl, f0m, f0m, fun g hg => nomatch hg⟩ (fun i ρ hi J => ?_) (fun ρ J => ?_)
      · obtain ⟨lo, hi2, e22, rfl, ml, mh, mx⟩ := J
        refine jg_name 22 ?_ sc__law_span.nd
        have hi' : i < L.length := by simpa using hi
        rw [getD_map L d2 (0, 0) hi']
        have me : L.getD i (0, 0) ∈ L := by simp [hi']
        have ts := take_snoc hi' ((0, 0) : Pt)
        generalize L.getD i (0, 0) = g at *
        refine jb_set 20 (Q := fun d => ∃ l ∈ L, d = d2 l) (je_ifV (jt_valV (je_cV cL hr (g, lo) (jav_cons (jv_var 22 rfl) (jav_cons (jv_var 20 rfl) jav_nil)) ⟨fd.bd g me, fd.bd lo ml⟩)) (fun _ => JV.to (jv_var 22 rfl) ⟨g, me, rfl⟩) (fun _ => JV.to (jv_var 20 rfl) ⟨lo, ml, rfl⟩)) (fun d ⟨l, hl, e⟩ => ?_) sc__law_span.nd
        subst e
        refine jb_set 21 (Q := fun d => ∃ h ∈ L, d = d2 h ∧ ∀ g' ∈ L.take (i + 1), g'.1 * h.2 ≤ h.1 * g'.2) (je_ifV (jt_valV (je_cV cL hr (hi2, g) (jav_cons (jv_var 21 rfl) (jav_cons (jv_var 22 rfl) jav_nil)) ⟨fd.bd hi2 mh, fd.bd g me⟩)) (fun h => JV.to (jv_var 22 rfl) ⟨g, me, rfl, fun g' hg' => ?_⟩) (fun h => JV.to (jv_var 21 rfl) ⟨hi2, mh, rfl, fun g' hg' => ?_⟩)) (fun d ⟨h, hh, e, mx'⟩ => ?_) sc__law_span.nd
        · have h := of_decide_eq_true h
          simp only at h
          rw [ts] at hg'
          rcases mem_snoc hg' with q | q
          · have m1 := mx g' q
            have p1 := fd.pos g' (List.mem_of_mem_take q)
            have p2 := fd.pos hi2 mh
            have p3 := fd.pos g me
            refine Int.le_of_sub_nonneg (nn_of_mul p2 ?_)
            have e : hi2.2 * (g.1 * g'.2 - g'.1 * g.2) = g'.2 * (g.1 * hi2.2 - hi2.1 * g.2) + g.2 * (hi2.1 * g'.2 - g'.1 * hi2.2) := by grind
            rw [e]
            have q1 := Int.mul_nonneg (Int.le_of_lt p1) (show 0 ≤ g.1 * hi2.2 - hi2.1 * g.2 by omega)
            have q2 := Int.mul_nonneg (Int.le_of_lt p3) (show 0 ≤ hi2.1 * g'.2 - g'.1 * hi2.2 by omega)
            omega
          · rw [q]; exact Int.le_refl _
        · have h := of_decide_eq_false h
          simp only at h
          rw [ts] at hg'
          rcases mem_snoc hg' with q | q
          · exact mx g' q
          · rw [q]; omega
        · subst e
          exact jb_nil [] ⟨l, h, _, rfl, hl, hh, mx'⟩
      · obtain ⟨lo, hi, e22, rfl, ml, mh, mx⟩ := J
        refine jb_ret (JV.to (jv_lst (jav_cons (jv_var 20 rfl) (jav_cons (jv_var 21 rfl) jav_nil))) (.inr ⟨lo, hi, rfl, ?_⟩))
        rw [List.length_map, List.take_length] at mx
        rw [← fd.iff]
        constructor
        · intro h
          exact ⟨hi, mh, h⟩
        · rintro ⟨g, hg, h⟩
          have := mx g hg
          have p1 := mul_pp h (fd.pos hi mh)
          refine pos_of_mul (fd.pos g hg) ?_
          rw [Int.mul_comm]; omega
end
end Wf

namespace Wf
open PySem PySem.Spec PyProof.Rows L2 C8
/-- != of two truth values -/
theorem jt_neB {X : Cx} {ρ : Rho} {a b : Expr} {pos : Pos} {x y : Bool} (ha : JV X a ρ (.bool x)) (hb : JV X b ρ (.bool y)) : JTV X (.Compare a [.NotEq] [b] pos) ρ (!decide (V.bl x = V.bl y)) := jt_cmp op_ne ha (fun z e => by subst e; exact hb.to (rd_ne rfl rfl rfl ⟨_, rfl, rfl⟩)) (nomark _)
theorem bl_ne (x y : Bool) : (!decide (V.bl x = V.bl y)) = (x != y) := by cases x <;> cases y <;> rfl
/-- a number told by a look at the one list of one's own -/
theorem jv_peek {X : Cx} {ρ : Rho} {e : Expr} {ds : List PyData} {n : Int} (j : Nat) (h : ρ[j]? = some (.own ds)) (only : ∀ i, i ≠ j → ¬ IsMut ρ i) (he : JV X e (ρ.set j (.val (.list ds))) (.int n)) : JV X e ρ (.int n) := fun B F H σ k f bb S q => by
  obtain ⟨a, vs, q1, q2, q3, q4, q5⟩ := S.ok j _ h
  have hl : j < ρ.length := (List.getElem?_eq_some_iff.mp h).1
  have gf : Same F (upd F a (.lst vs)) := same_new q3
  have fh : Same (upd F a (.lst vs)) H := fun c o z => by
    by_cases hc : c = a
    · subst hc; rw [upd_same] at z; rw [← z]; exact q4
    · rw [upd_ne hc] at z; exact f c o z
  have bh : Same (upd B a (.lst vs)) H := fun c o z => by
    by_cases hc : c = a
    · subst hc; rw [upd_same] at z; rw [← z]; exact q4
    · rw [upd_ne hc] at z; exact bb c o z
  refine he (upd B a (.lst vs)) (upd F a (.lst vs)) H σ k fh bh ⟨by rw [List.length_set]; exact S.len, fun i s hs => ?_, fun i k' c hn hi hk' e1 e2 => S.dis i k' c hn (isMut_set rfl hi).1 (isMut_set rfl hk').1 e1 e2⟩ fun v d F' H' ed g S' dv => ?_
  · by_cases hj : j = i
    · subst hj
      rw [List.getElem?_set] at hs
      simp at hs
      rw [← hs.2]
      exact ⟨.ref a, q1, .lst (SqL.of upd_same) (q5.same gf)⟩
    · rw [List.getElem?_set_ne hj] at hs
      have k1 := S.ok i s hs
      cases s with
      | no => trivial
      | val d =>
        obtain ⟨v, q, hd⟩ := k1
        exact ⟨v, q, hd.same gf⟩
      | own es => exact absurd ⟨_, hs, rfl⟩ (only i (Ne.symm hj))
      | sack o => exact absurd ⟨_, hs, rfl⟩ (only i (Ne.symm hj))
  · subst ed
    refine q v _ F H' rfl ⟨Same.refl F, (gf.trans g.ff).trans g.fh, fun c o z => g.bh c o (by
      have : c ≠ a := fun w => by rw [w, q2] at z; cases z
      rw [upd_ne this]; exact z), fun c o z => .inl z⟩ ⟨S.len, fun i s hs => ?_, S.dis⟩ (by rw [dv.int_]; exact .int n)
    have k1 := S.ok i s hs
    cases s with
    | no => trivial
    | val d => exact k1
    | own es =>
      by_cases hj : i = j
      · subst hj
        rw [h] at hs
        cases hs
        exact ⟨a, vs, q1, q2, q3, g.bh a _ upd_same, q5⟩
      · exact absurd ⟨_, hs, rfl⟩ (only i hj)
    | sack o =>
      by_cases hj : i = j
      · subst hj
        rw [h] at hs
        cases hs
      · exact absurd ⟨_, hs, rfl⟩ (only i hj)
theorem any_d2 (R : List Pt) (r : Pt) : ((R.map d2).any fun z => PyData.eqv z (d2 r)) = decide (r ∈ R) := by
  induction R with
  | nil => rfl
  | cons a R ih =>
    rw [List.map_cons, List.any_cons, ih, eqv_d2, ← Bool.decide_or]
    apply decide_eq_decide.mpr
    rw [List.mem_cons]
    exact ⟨fun h => h.imp Eq.symm id, fun h => h.imp Eq.symm id⟩
theorem room64 {k : Nat} {A : Around} (h : Room k A) : A.units + 64 < cLine := Nat.lt_of_le_of_lt (Nat.add_le_add_left (by decide) _) (room65 h)
section
variable {P : Program} {w : World} {K : PySem.W.Frag} {mg : Str → Option Value} {base : Heap} (T : Txt K mg)
include T
theorem c_sack : Cal P w K mg base 1 "_law_sack" (spN K (α := List Int) (fun ns => [.list (ns.map PyData.int), .int 0]) (fun ns => ns.length ≤ 63) fun _ ds => ∃ i j k : Int, ds = [.int i, .int j, .int k] ∧ 0 ≤ i) [] := by
  refine calN_mk' T.d__law_sack sc__law_sack (fun _ => rfl) fun ns hy f cdv A outer s0 H E hr => ?_
  have ll : (ns.map PyData.int).length = ns.length := by simp
  refine jb_set 2 (Q := fun d => ∃ i : Int, d = .int i) (je_ifV (jt_lt (jv_var 1 rfl) (jv_lenL (ds := ns.map PyData.int) (jv_var 0 rfl) (by rfl) T.b_len)) (fun h => ?_) fun _ => JV.to (jv_add (jv_mulS jv_int (jv_var 1 rfl) (.inr ⟨by decide, by decide⟩)) jv_int) ⟨_, rfl⟩) (fun d ⟨c, e⟩ => ?_) sc__law_sack.nd
  · have h0 := of_decide_eq_true h
    rw [ll] at h0
    match ns, h0 with
    | n0 :: r, _ => exact JV.to (jv_intI (jv_ixL (jv_var 0 rfl) (jv_var 1 rfl) (atI_nat (i := 0) rfl)) (by rfl) T.b_int) ⟨n0, rfl⟩
  subst e
  refine jb_set 3 (Q := (· = .int 30011)) (JV.is (jv_add jv_int (jv_mulS jv_int (jv_var 1 rfl) (.inr ⟨by decide, by decide⟩))) (by rfl)) (fun d e => ?_) sc__law_sack.nd
  subst e
  have iter : (ns.map PyData.int).take (7 : Int).toNat ++ [PyData.int c] = (ns.take 7 ++ [c]).map PyData.int := by
    rw [List.map_append, List.map_take]
    rfl
  refine jb_for (fun i ρ => ∃ (st : Int) (e4 : SD), ρ = [.val (.list (ns.map PyData.int)), .val (.int 0), .val (.int c), .val (.int st), e4] ∧ 0 ≤ st ∧ st < 2147483543) (ji_list (JV.is (jv_cat (jv_listL (jv_head (jv_var 0 rfl)) (by rfl) T.b_list) (jv_lst (jav_cons (jv_var 2 rfl) jav_nil)) (by rw [List.length_take, ll]; simp; omega)) (congrArg PyData.list iter))) ⟨30011, .no, rfl, by decide, by decide⟩ (fun i ρ hi J => ?_) (fun ρ J => ?_)
  · obtain ⟨st, e4, rfl, b0, b1⟩ := J
    refine jg_name 4 ?_ sc__law_sack.nd
    have hi' : i < (ns.take 7 ++ [c]).length := by rw [List.length_map] at hi; exact hi
    rw [getD_map _ PyData.int 0 hi']
    have bs : Bd 40 st := ⟨by omega⟩
    refine jb_set 3 (Q := fun d => ∃ i : Int, d = .int i ∧ 0 ≤ i ∧ i < 2147483543) (JV.to (jv_mod (jv_intI (jv_add (jv_add (jv_mulS (jv_var 3 rfl) jv_int (.inr ⟨by decide, by decide⟩)) (jv_mod (jv_intI (jv_var 4 rfl) (by rfl) T.b_int) jv_int (by decide))) jv_int) (by rfl) T.b_int) jv_int (by decide)) ⟨_, rfl, Int.emod_nonneg _ (by decide), Int.emod_lt_of_pos _ (by decide)⟩) (fun d ⟨i, e, q0, q1⟩ => ?_) sc__law_sack.nd
    subst e
    exact jb_nil [] ⟨i, _, rfl, q0, q1⟩
  · obtain ⟨st, e4, rfl, b0, b1⟩ := J
    refine jb_retN (jn_lst (P := fun ds => ∃ i j k : Int, ds = [.int i, .int j, .int k] ∧ 0 ≤ i) (ja_cons (P := fun d => ∃ i : Int, d = .int i ∧ 0 ≤ i) (je_ifV (jt_or2 (jt_lt (jv_var 2 rfl) jv_int) fun _ => jt_ge (jv_var 2 rfl) (jv_pow jv_int jv_int ⟨by decide, by decide, by decide⟩)) (fun _ => JV.to (jv_abs (jv_var 2 rfl) (by rfl) T.b_abs) ⟨_, rfl, by split <;> omega⟩) fun _ => JV.to jv_int ⟨0, rfl, by decide⟩) fun d ⟨i, e, q⟩ => (jav_cons (jv_var 3 rfl) (jav_cons jv_int jav_nil)).imp fun ds e' => ⟨i, st, 0, by rw [e, e'], q⟩) fun ds ⟨i, j, k, e, _⟩ => by rw [e]; show 3 ≤ sizeLine; decide)
theorem c_is_row : Cal P w K mg base 1 "_law_is_row" (spD K (α := V3) (fun r => [d3 r, .int 3]) (fun _ => True) fun _ d => d = .bool true) [] := by
  refine cal_mk' T.d__law_is_row sc__law_is_row (fun _ => rfl) fun r hy f cdv A outer s0 H E hr => ?_
  refine jb_unless (jt_or2 (jt_notV (jt_valV (jv_isT (r := true) "tuple" "tuple" (jv_var 0 rfl) (by rfl) T.b_isinstance (by rfl) T.b_tuple))) fun _ => jt_ne (jv_lenT (ds := [.int r.1, .int r.2.1, .int r.2.2]) (jv_var 0 rfl) (by rfl) T.b_len) (jv_var 1 rfl)) (by rfl) ?_
  refine jb_ret (je_allV (n := 3) (f := fun _ => true) ?_ (by rfl) T.b_all (by rfl))
  refine jn_mapV [("_law_each", 2)] (fun _ => .bool true) (ji_tup (ds := [.int r.1, .int r.2.1, .int r.2.2]) (jv_var 0 rfl)) (fun _ _ _ _ _ => pg_name (i := 2) sc__law_is_row.nd rfl (Or.inl rfl)) (tg_name (by decide)) (by decide) (fun i hi => ⟨trivial, fun s H C' cl fp => ?_⟩) sc__law_is_row.nd (blk_by N__law_is_row (fnScope s__law_is_row) (by decide +kernel))
  have : ∃ n : Int, ([PyData.int r.1, .int r.2.1, .int r.2.2] : List PyData).getD i .none = .int n := by
    match i, hi with
    | 0, _ => exact ⟨_, rfl⟩
    | 1, _ => exact ⟨_, rfl⟩
    | 2, _ => exact ⟨_, rfl⟩
  obtain ⟨n, en⟩ := this
  rw [en]
  exact jv_and2 (m := true) (jv_isT (r := true) "int" "int" (jv_var 2 rfl) (by rfl) T.b_isinstance (by rfl) T.b_int) fun _ => JV.is (jv_not (jv_isT (r := false) "int" "bool" (jv_var 2 rfl) (by rfl) T.b_isinstance (by rfl) T.b_bool)) rfl
theorem c_are_sides : Cal P w K mg base 2 "_law_are_sides" (spD K (α := List V3) (fun R => [.tuple (R.map d3)]) (fun R => (∀ r ∈ R, G3 r) ∧ R.length ≤ 6000) fun _ d => d = .bool true) [] := by
  refine cal_mk' T.d__law_are_sides sc__law_are_sides (fun _ => rfl) fun R hy f cdv A outer s0 H E hr => ?_
  obtain ⟨g, l⟩ := hy
  have cW := c_is_row (P := P) (w := w) (base := base) T
  have cG := c_gcd (P := P) (w := w) (base := base) T
  have ll : (R.map d3).length = R.length := by simp
  have all_true : ∀ n : Nat, (List.range n).all (fun _ => true) = true := fun n => by simp
  refine jb_unless (k := false || !true) (jt_or2 (jt_notV (jt_valV (jv_isT (r := true) "tuple" "tuple" (jv_var 0 rfl) (by rfl) T.b_isinstance (by rfl) T.b_tuple))) fun _ => jt_notV (jt_valV (je_allV (n := R.length) (f := fun _ => true) ?_ (by rfl) T.b_all (by rw [all_true])))) (by rfl) (jb_ret (je_allV (n := R.length) (f := fun _ => true) ?_ (by rfl) T.b_all (by rw [all_true])))
  · refine JN.imp (jn_mapV [("_law_each", 1)] (fun _ => .bool true) (ji_tup (jv_var 0 rfl)) (fun _ _ _ _ _ => pg_name (i := 1) sc__law_are_sides.nd rfl (Or.inl rfl)) (tg_name (by decide)) (by rw [ll]; omega) (fun i hi => ⟨trivial, fun s H C' cl fp => ?_⟩) sc__law_are_sides.nd (blk_by N__law_are_sides (fnScope s__law_are_sides) (by decide +kernel))) (fun ds h => by rw [h, ll])
    have hi' : i < R.length := by rw [← ll]; exact hi
    exact je_cV cW hr (R.getD i (0, 0, 0)) (jav_cons (jv_var 1 (by rw [getD_map R d3 (0, 0, 0) hi']; rfl)) (jav_cons jv_int jav_nil)) trivial
  · refine JN.imp (jn_mapV [("_law_each", 1)] (fun _ => .bool true) (ji_tup (jv_var 0 rfl)) (fun _ _ _ _ _ => pg_name (i := 1) sc__law_are_sides.nd rfl (Or.inl rfl)) (tg_name (by decide)) (by rw [ll]; omega) (fun i hi => ⟨trivial, fun s H C' cl fp => ?_⟩) sc__law_are_sides.nd (blk_by N__law_are_sides (fnScope s__law_are_sides) (by decide +kernel))) (fun ds h => by rw [h, ll])
    have hi' : i < R.length := by rw [← ll]; exact hi
    rw [getD_map R d3 (0, 0, 0) hi']
    have gr := g (R.getD i (0, 0, 0)) (by simp [hi'])
    generalize R.getD i (0, 0, 0) = r at *
    refine JV.is (jv_and2 (k := true) (m := true) (JV.is (jv_eq (jv_ixT (jv_var 1 rfl) jv_int rfl) jv_int) (by rw [gr.z]; rfl)) fun _ => JV.is (jv_eq (je_cV cG hr (r.1, r.2.1) (jav_cons (jv_ixT (jv_var 1 rfl) jv_int rfl) (jav_cons (jv_ixT (jv_var 1 rfl) jv_int rfl) jav_nil)) trivial) jv_int) ?_) (by rfl)
    have o := gr.one
    rw [gr.z, gcdl_pad, gcdl2] at o
    simp only
    rw [o]
    rfl
theorem c_lcaught : Cal P w K mg base 4 "_law_is_caught" (spD K (α := (List Pt × Int) × List V3 × V3) (fun y => [.list [.list (y.1.1.map d2), .int y.1.2], .tuple (y.2.1.map d3), d3 y.2.2]) (fun y => (∀ v ∈ y.2.1, SpanPre y.1.1 y.1.2 v y.2.2) ∧ y.2.1.length < 1000)
    fun y d => ∃ b : Bool, d = .bool b ∧ (b = true ↔ ∀ v ∈ y.2.1, HitS (stepsOf y.1.1 y.1.2 v) (y.2.2.1, y.2.2.2.1))) [] := by
  refine cal_mk' T.d__law_is_caught sc__law_is_caught (fun _ => rfl) fun y hy f cdv A outer s0 H E hr => ?_
  obtain ⟨⟨R, sc⟩, L, g⟩ := y
  obtain ⟨pre, few⟩ := hy
  simp only at pre few ⊢
  have cS := c_span (P := P) (w := w) (base := base) T
  have ll : (L.map d3).length = L.length := by simp
  refine jb_for (fun i ρ => ∃ e3 e4 : SD, ρ = [.val (.list [.list (R.map d2), .int sc]), .val (.tuple (L.map d3)), .val (d3 g), e3, e4] ∧ ∀ v ∈ L.take i, HitS (stepsOf R sc v) (g.1, g.2.1)) (ji_tup (jv_var 1 rfl)) ⟨.no, .no, rfl, fun v hv => nomatch hv⟩ (fun i ρ hi J => ?_) (fun ρ J => ?_)
  · obtain ⟨e3, e4, rfl, iv⟩ := J
    have hi' : i < L.length := by rw [← ll]; exact hi
    refine jg_name 3 ?_ sc__law_is_caught.nd
    rw [getD_map L d3 (0, 0, 0) hi']
    have mem : L.getD i (0, 0, 0) ∈ L := by simp [hi']
    have ts := take_snoc hi' ((0, 0, 0) : V3)
    have pv := pre _ mem
    generalize L.getD i (0, 0, 0) = v at *
    have no : ¬ HitS (stepsOf R sc v) (g.1, g.2.1) → (∃ b : Bool, PyData.bool false = .bool b ∧ (b = true ↔ ∀ v ∈ L, HitS (stepsOf R sc v) (g.1, g.2.1))) := fun h => ⟨false, rfl, ⟨fun q => (nomatch q), fun q => absurd (q v mem) h⟩⟩
    refine jb_set 4 (je_cV cS hr ((R, sc), v, g) (jav_cons (jv_var 0 rfl) (jav_cons (jv_var 3 rfl) (jav_cons (jv_var 2 rfl) jav_nil))) pv) (fun d q => ?_) sc__law_is_caught.nd
    rcases q with ⟨e, nh⟩ | ⟨lo, hi2, e, ih⟩
    · subst e
      refine jb_whenV (jt_or2 (m := false) (jt_eqD (jv_var 4 rfl) (jv_lst jav_nil) (room64 hr) (by rfl) (by rfl)) fun h => (nomatch h)) (fun _ => ?_) fun h => (nomatch h)
      exact jb_ret (JV.to jv_bool (no nh))
    · subst e
      refine jb_whenV (jt_or2 (k := false) (jt_eqD (jv_var 4 rfl) (jv_lst jav_nil) (room64 hr) (shaped_lst d2_lay d2_dep [lo, hi2]) (by rfl)) fun _ => jt_le (jv_ixT (jv_ixL (jv_var 4 rfl) jv_int (atI_nat (i := 1) rfl)) jv_int rfl) jv_int) (fun h => ?_) fun h => ?_
      · have h : hi2.1 ≤ 0 := by simpa using h
        exact jb_ret (JV.to jv_bool (no fun q => by have := ih.mpr q; omega))
      · have h : ¬ hi2.1 ≤ 0 := by simpa using h
        refine jb_nil [] ⟨_, _, rfl, fun v' hv' => ?_⟩
        rw [ts] at hv'
        rcases mem_snoc hv' with q | q
        · exact iv v' q
        · rw [q]; exact ih.mp (by omega)
  · obtain ⟨e3, e4, rfl, iv⟩ := J
    rw [ll, List.take_length] at iv
    exact jb_ret (JV.to jv_bool ⟨true, rfl, ⟨fun _ => iv, fun _ => rfl⟩⟩)
theorem c_is_before : Cal P w K mg base 1 "_law_is_before" (spD K (α := Pt × Pt) (fun y => [d2 y.1, d2 y.2]) (fun y => B2 700 y.1 ∧ B2 700 y.2) fun y d => d = .bool (bef y.1 y.2)) [] := by
  refine cal_mk' T.d__law_is_before sc__law_is_before (fun _ => rfl) fun y hy f cdv A outer s0 H E hr => ?_
  obtain ⟨p, q⟩ := y
  obtain ⟨i1, i2⟩ := hy
  simp only at i1 i2 ⊢
  refine jb_parV 2 3 (d1 := .bool (hlf p)) (d2 := .bool (hlf q)) (jv_or2 (jv_lt (jv_ixT (jv_var 0 rfl) jv_int rfl) jv_int) fun _ => jv_and2 (jv_eq (jv_ixT (jv_var 0 rfl) jv_int rfl) jv_int) fun _ => jv_lt (jv_ixT (jv_var 0 rfl) jv_int rfl) jv_int) (jv_or2 (jv_lt (jv_ixT (jv_var 1 rfl) jv_int rfl) jv_int) fun _ => jv_and2 (jv_eq (jv_ixT (jv_var 1 rfl) jv_int rfl) jv_int) fun _ => jv_lt (jv_ixT (jv_var 1 rfl) jv_int rfl) jv_int) ?_ sc__law_is_before.nd
  refine jb_whenV (jt_neB (jv_var 2 rfl) (jv_var 3 rfl)) (fun h => ?_) fun h => ?_
  · rw [bl_ne] at h
    exact jb_ret (JV.to (jv_var 3 rfl) (by rw [bef_ne (by simpa using h)]))
  · rw [bl_ne] at h
    have e : hlf p = hlf q := by simpa using h
    refine jb_ret (JV.to (jv_gt (jv_sub (jv_mul (jv_ixT (jv_var 0 rfl) jv_int rfl) (jv_ixT (jv_var 1 rfl) jv_int rfl)) (jv_mul (jv_ixT (jv_var 0 rfl) jv_int rfl) (jv_ixT (jv_var 1 rfl) jv_int rfl))) jv_int) ?_)
    congr 1
    rw [Bool.eq_iff_iff, bef_ff e]
    simp only [decide_eq_true_eq]
    exact Iff.rfl
end
end Wf

namespace Wf
open PySem PySem.Spec PyProof.Rows L2 C8
/-- a direction reduced -/
abbrev dir (p : Pt) : Pt := (p.1 / gcdl [p.1, p.2], p.2 / gcdl [p.1, p.2])
theorem dir_one {p : Pt} (h : p ≠ (0, 0)) : gcdl [(dir p).1, (dir p).2] = 1 := by
  have g0 : 0 < gcdl [p.1, p.2] := by
    by_cases c : p.1 = 0
    · refine gcdl_pos (n := p.2) (by simp) fun z => h (Prod.ext c z)
    · exact gcdl_pos (n := p.1) (by simp) c
  exact gcdl_div g0
theorem dir_pos {p : Pt} (h : p ≠ (0, 0)) : 0 < gcdl [p.1, p.2] := by
  by_cases c : p.1 = 0
  · exact gcdl_pos (n := p.2) (by simp) fun z => h (Prod.ext c z)
  · exact gcdl_pos (n := p.1) (by simp) c
theorem dir_bd {k : Nat} {p : Pt} (h : p ≠ (0, 0)) (b : B2 k p) : B2 k (dir p) := by
  have g0 := dir_pos h
  have a := low_at g0 (n := p.1) (by simp)
  have c := low_at g0 (n := p.2) (by simp)
  exact ⟨Bd.le b.x a.2, Bd.le b.y c.2⟩
theorem atI_pv {L : List Pt} {k : Nat} (h : k < L.length) : atI (L.map d2) ((k : Int) - 1) = some (d2 (gt L (pv L.length k))) := by
  by_cases k0 : k = 0
  · subst k0
    have : ((0 : Nat) : Int) - 1 = -((1 : Nat) : Int) := by decide
    rw [this]
    refine atI_back (by decide) (by rw [List.length_map]; omega) ?_
    rw [List.length_map]
    have hl : L.length - 1 < L.length := by omega
    simp [gt, pv, hl]
  · have : ((k : Nat) : Int) - 1 = ((k - 1 : Nat) : Int) := by omega
    rw [this]
    refine atI_nat ?_
    have hl : k - 1 < L.length := by omega
    simp [gt, pv, k0, hl]
/-- directions that may be turned -/
structure Ways (n : Nat) (D : List Pt) : Prop where
  nz : ∀ p ∈ D, p ≠ (0, 0)
  bd : ∀ p ∈ D, B2 650 p
  len : D.length ≤ n
theorem Ways.add {n : Nat} {D E : List Pt} {m : Nat} (h : Ways n D) (k : Ways m E) : Ways (n + m) (D ++ E) :=
  ⟨fun p hp => (List.mem_append.mp hp).elim (h.nz p) (k.nz p), fun p hp => (List.mem_append.mp hp).elim (h.bd p) (k.bd p), by rw [List.length_append]; have := h.len; have := k.len; omega⟩
theorem Ways.le {n m : Nat} {D : List Pt} (h : Ways n D) (l : n ≤ m) : Ways m D := ⟨h.nz, h.bd, Nat.le_trans h.len l⟩
section
variable {P : Program} {w : World} {K : PySem.W.Frag} {mg : Str → Option Value} {base : Heap} (T : Txt K mg)
include T
theorem c_in_turn : Cal P w K mg base 2 "_law_in_turn" (spD K (α := List Pt) (fun D => [.list (D.map d2)]) (fun D => Ways 30000 D) fun D d => ∃ L : List Pt, d = .list (L.map d2) ∧ Turned L ∧ (∀ p ∈ L, B2 650 p) ∧ L.length ≤ 30000 ∧ ∀ p ∈ D, dir p ∈ L) [] := by
  refine cal_mk' T.d__law_in_turn sc__law_in_turn (fun _ => rfl) fun D hy f cdv A outer s0 H E hr => ?_
  have cG := c_gcd (P := P) (w := w) (base := base) T
  have cB := c_is_before (P := P) (w := w) (base := base) T
  have ll : (D.map d2).length = D.length := by simp
  have dl := hy.len
  refine jb_setN 1 (jn_lst (P := fun ds => ds = []) (ja_nil rfl) (fun ds e => by rw [e]; exact Nat.zero_le _)) (fun ds e => ?_) sc__law_in_turn.nd
  subst e
  refine jb_for (fun i ρ => ∃ (L : List Pt) (e2 e3 e4 e5 e6 : SD), ρ = [.val (.list (D.map d2)), .own (L.map d2), e2, e3, e4, e5, e6, .no] ∧ (e2.mut = false ∧ e3.mut = false ∧ e4.mut = false ∧ e5.mut = false ∧ e6.mut = false) ∧ Turned L ∧ (∀ p ∈ L, B2 650 p) ∧ L.length ≤ i ∧ ∀ p ∈ D.take i, dir p ∈ L)
    (ji_list (jv_var 0 rfl)) ⟨[], .no, .no, .no, .no, .no, rfl, ⟨rfl, rfl, rfl, rfl, rfl⟩, turned_nil, (fun p hp => nomatch hp), Nat.zero_le _, fun p hp => nomatch hp⟩ (fun i ρ hi J => ?_) (fun ρ J => ?_)
  · obtain ⟨L, e2, e3, e4, e5, e6, rfl, ⟨m2, m3, m4, m5, m6⟩, tu, bd, len, mem⟩ := J
    have hi' : i < D.length := by rw [← ll]; exact hi
    rw [getD_map D d2 (0, 0) hi']
    have inD : D.getD i (0, 0) ∈ D := by simp [hi']
    have ts := take_snoc hi' ((0, 0) : Pt)
    have nz := hy.nz _ inD
    have bp := hy.bd _ inD
    generalize D.getD i (0, 0) = p at *
    have g0 := dir_pos nz
    have one := dir_one nz
    have bdir := dir_bd nz bp
    have gb : Bd 4000 (gcdl [p.1, p.2]) := by
      by_cases c : p.1 = 0
      · exact (Bd.le bp.y (gcdl_le (ns := [p.1, p.2]) (n := p.2) (by simp) fun z => nz (Prod.ext c z))).up 4000
      · exact (Bd.le bp.x (gcdl_le (ns := [p.1, p.2]) (n := p.1) (by simp) c)).up 4000
    refine jg_tup (jgs_cons (jg_name 2 (jgs_cons (jg_name 3 (jgs_nil ?_) sc__law_in_turn.nd)) sc__law_in_turn.nd))
    refine jb_set 4 (je_cV cG hr (p.1, p.2) (jav_cons (jv_var 2 rfl) (jav_cons (jv_var 3 rfl) jav_nil)) trivial) (fun d e => ?_) sc__law_in_turn.nd
    have e : d = .int (gcdl [p.1, p.2]) := by rw [gcdl2]; exact e
    subst e
    refine jb_setV 5 (d := d2 (dir p)) (jv_tup (jav_cons (jv_fdiv (jv_var 2 rfl) (jv_var 4 rfl) g0) (jav_cons (jv_fdiv (jv_var 3 rfl) (jv_var 4 rfl) g0) jav_nil))) ?_ sc__law_in_turn.nd
    have dm : ∀ q, q ∈ D.take (i + 1) → q = p ∨ q ∈ D.take i := fun q hq => by
      rw [ts] at hq
      exact (mem_snoc hq).symm
    generalize hn : dir p = n at *
    generalize gcdl [p.1, p.2] = g at *
    refine jb_is [.val (.list (D.map d2)), .own (L.map d2), .val (.int p.1), .val (.int p.2), .val (.int g), .val (d2 n), e6, .no] ?_
    refine jb_whenV (JT.imp (jt_notInO 1 (jv_var 5 rfl) rfl (room65 hr) (shaped_d2 n) (shaped_lst d2_lay d2_dep L)) fun b e => by rw [e, any_d2]) (fun h => ?_) (fun h => ?_)
    · have notin : n ∉ L := by simpa using h
      obtain ⟨tu', mm⟩ := turned_insert tu one notin
      have fl : (L.filter (bef · n)).length ≤ L.length := List.length_filter_le _ _
      have L1 : L.length < 90000 := by omega
      refine jb_set 6 (Q := (· = .int ((L.filter (bef · n)).length : Int))) (jv_peek 1 rfl ?_ (JV.is (jv_lenL (ds := (L.filter (bef · n)).map d2) (JN.je (Q := (· = PyData.list ((L.filter (bef · n)).map d2))) (jn_lcX (Qf := fun ds => ds = (L.filter (bef · n)).map d2) [("_law_two", 7)] (fun (_ : Unit) i ds => ds = ((L.take i).filter (bef · n)).map d2) (jix_of (ji_list (jv_var 1 rfl)))
        (fun _ _ _ _ _ => pg_name (i := 7) sc__law_in_turn.nd rfl (Or.inl rfl)) (tg_name (by decide)) (fun _ _ => rfl) (fun _ i ds _ e => ?_) (fun _ i ds _ hi2 e => ?_) (fun _ ds _ e => ?_) sc__law_in_turn.nd (blk_by N__law_in_turn (fnScope s__law_in_turn) (by decide +kernel))) fun ds e => by rw [e]) (by rfl) T.b_len) (by rw [List.length_map]))) (fun d e => ?_) sc__law_in_turn.nd
      · intro j hj ⟨s, es, em⟩
        match j, hj with
        | 0, _ => cases es; cases em
        | 2, _ => cases es; cases em
        | 3, _ => cases es; cases em
        | 4, _ => cases es; cases em
        | 5, _ => cases es; cases em
        | 6, _ =>
          have : e6 = s := by simpa using es
          rw [← this, m6] at em
          cases em
        | 7, _ => cases es; cases em
        | _ + 8, _ => simp at es
      · rw [e, List.length_map]
        have a := List.length_filter_le (bef · n) (L.take i)
        have b : (L.take i).length ≤ L.length := List.length_take_le' _ _
        omega
      · have hi2' : i < L.length := by simpa using hi2
        rw [getD_map L d2 (0, 0) hi2']
        have mem2 : L.getD i (0, 0) ∈ L := by simp [hi2']
        have tl := take_snoc hi2' ((0, 0) : Pt)
        have b2 := bd _ mem2
        generalize L.getD i (0, 0) = q at *
        refine ⟨trivial, fun b => b = bef q n, jtb fun _ _ _ _ _ => jts_one (jt_valV (je_cV cB hr (q, n) (jav_cons (jv_var 7 rfl) (jav_cons (jv_var 5 rfl) jav_nil)) ⟨⟨b2.x.up 700, b2.y.up 700⟩, ⟨bdir.x.up 700, bdir.y.up 700⟩⟩)), fun hf => ?_, fun ht => jeb fun _ _ _ _ _ => JV.to (jv_var 7 rfl) ?_⟩
        · rw [e, tl, List.filter_append]
          simp [hf.symm]
        · rw [e, tl, List.filter_append, List.map_append]
          simp [ht.symm]
      · rw [e, List.length_map, List.take_length]
      · subst e
        refine jb_insert 1 rfl (jv_var 6 rfl) (jv_var 5 rfl) (jb_nil [] (jb_nil [] ⟨L.take (L.filter (bef · n)).length ++ [n] ++ L.drop (L.filter (bef · n)).length, .val (.int p.1), .val (.int p.2), .val (.int g), .val (d2 n), .val (.int ((L.filter (bef · n)).length : Int)), ?_, ⟨rfl, rfl, rfl, rfl, rfl⟩, tu', fun q hq => ?_, ?_, fun q hq => ?_⟩)) (by rw [List.length_map]; omega) (by rw [List.length_map]; exact fl)
        · rw [List.map_append, List.map_append, List.map_take, List.map_drop]
          rfl
        · rcases (mm q).mp hq with rfl | hq
          · exact bdir
          · exact bd q hq
        · simp only [List.length_append, List.length_take, List.length_drop, List.length_singleton]
          omega
        · refine (mm _).mpr ?_
          rcases dm q hq with rfl | hq
          · exact .inl hn
          · exact .inr (mem q hq)
    · have isin : n ∈ L := by simpa using h
      refine jb_nil [] ⟨L, .val (.int p.1), .val (.int p.2), .val (.int g), .val (d2 n), e6, rfl, ⟨rfl, rfl, rfl, rfl, m6⟩, tu, bd, by omega, fun q hq => ?_⟩
      rcases dm q hq with rfl | hq
      · rw [hn]; exact isin
      · exact mem q hq
  · obtain ⟨L, e2, e3, e4, e5, e6, rfl, _, tu, bd, len, mem⟩ := J
    rw [ll] at len mem
    rw [List.take_length] at mem
    exact jb_retO 1 rfl ⟨L, rfl, tu, bd, by omega, mem⟩
end
end Wf

namespace Wf
open PySem PySem.Spec PyProof.Rows L2 C8
structure RayPre (R : List Pt) (cf : Int) (Q : List Pt) (cs : Int) (M : List V3) : Prop where
  r : ∀ p ∈ R, B2 60 p
  rl : R.length < 60
  q : ∀ p ∈ Q, B2 60 p
  ql : Q.length < 60
  f : Bd 50 cf
  s : Bd 50 cs
  g : ∀ r ∈ M, G3 r
  l : M.length ≤ 6000
abbrev axes : List Pt := [(1, 0), (-1, 0), (0, 1), (0, -1)]
theorem axes_ways : Ways 4 axes := ⟨by decide, fun p hp => by
  have : p.1.natAbs ≤ 1 ∧ p.2.natAbs ≤ 1 := by
    revert p
    decide
  exact ⟨(⟨by omega⟩ : Bd 2 p.1).up 650, (⟨by omega⟩ : Bd 2 p.2).up 650⟩, by decide⟩
theorem axes_dir : ∀ p ∈ axes, dir p = p := by decide
abbrev rayR (R Q : List Pt) (cf cs : Int) (M : List V3) (D : List Pt) (e4 e5 e6 e7 e8 e9 e10 : SD) : Rho :=
  [.val (.list [.list (R.map d2), .int cf]), .val (.list [.list (Q.map d2), .int cs]), .val (.tuple (M.map d3)), .val (.list (D.map d2)), e4, e5, e6, e7, e8, e9, e10, .no, .no]
section
variable {P : Program} {w : World} {K : PySem.W.Frag} {mg : Str → Option Value} {base : Heap} (T : Txt K mg)
include T
theorem c_rays : Cal P w K mg base 3 "_law_rays" (spD K (α := (List Pt × Int) × (List Pt × Int) × List V3) (fun y => [.list [.list (y.1.1.map d2), .int y.1.2], .list [.list (y.2.1.1.map d2), .int y.2.1.2], .tuple (y.2.2.map d3)]) (fun y => RayPre y.1.1 y.1.2 y.2.1.1 y.2.1.2 y.2.2)
    fun _ d => ∃ W : List Pt, d = .list (W.map d2) ∧ W ≠ [] ∧ W.length ≤ 60000 ∧ (∀ p ∈ W, p ≠ (0, 0)) ∧ ∀ p ∈ W, B2 660 p) [] := by
  refine cal_mk' T.d__law_rays sc__law_rays (fun _ => rfl) fun y hy f cdv A outer s0 H E hr => ?_
  obtain ⟨⟨R, cf⟩, ⟨Q, cs⟩, M⟩ := y
  obtain ⟨br, rl, bq, ql, bf, bs, g, ml⟩ := hy
  simp only at br rl bq ql bf bs g ml ⊢
  have cT := c_in_turn (P := P) (w := w) (base := base) T
  have l1 : (R.map d2).length = R.length := by simp
  have l2 : (Q.map d2).length = Q.length := by simp
  have l3 : (M.map d3).length = M.length := by simp
  refine jb_set 3 (Q := (· = .list (axes.map d2))) (lit_ok 5 (by rfl)) (fun d e => ?_) sc__law_rays.nd
  subst e
  refine jb_is (rayR R Q cf cs M axes .no .no .no .no .no .no .no) ?_
  have ax0 : ∀ p ∈ axes, p ∈ axes := fun p h => h
  have aw := axes_ways
  generalize ha : axes = D0 at aw ⊢
  rw [ha] at ax0
  refine jb_for (fun i ρ => ∃ (D : List Pt) (e4 e5 e6 e7 e8 e9 : SD), ρ = rayR R Q cf cs M D e4 e5 e6 e7 e8 e9 .no ∧ (∀ p ∈ axes, p ∈ D) ∧ Ways (4 + 120 * i) D) (ji_list (ds := R.map d2) (jv_ixL (jv_var 0 rfl) jv_int (atI_nat (i := 0) rfl))) ⟨D0, .no, .no, .no, .no, .no, .no, rfl, by rw [ha]; exact ax0, aw.le (by omega)⟩ (fun i ρ hi J => ?_) (fun ρ J => ?_)
  · obtain ⟨D, e4, e5, e6, e7, e8, e9, rfl, ax, wy⟩ := J
    have hi' : i < R.length := by rw [← l1]; exact hi
    rw [getD_map R d2 (0, 0) hi']
    have bp := br (R.getD i (0, 0)) (by simp [hi'])
    generalize R.getD i (0, 0) = p at *
    have bp1 := bp.x
    have bp2 := bp.y
    refine jg_tup (jgs_cons (jg_name 4 (jgs_cons (jg_name 5 (jgs_nil ?_) sc__law_rays.nd)) sc__law_rays.nd))
    refine jb_for (fun j ρ => ∃ (D : List Pt) (e6 e7 e8 e9 : SD), ρ = rayR R Q cf cs M D (.val (.int p.1)) (.val (.int p.2)) e6 e7 e8 e9 .no ∧ (∀ p ∈ axes, p ∈ D) ∧ Ways (4 + 120 * i + 2 * j) D) (ji_list (ds := Q.map d2) (jv_ixL (jv_var 1 rfl) jv_int (atI_nat (i := 0) rfl))) ⟨D, _, _, _, _, rfl, ax, wy⟩ (fun j ρ hj J => ?_) (fun ρ J => ?_)
    · obtain ⟨D, e6, e7, e8, e9, rfl, ax, wy⟩ := J
      have hj' : j < Q.length := by rw [← l2]; exact hj
      rw [getD_map Q d2 (0, 0) hj']
      have bq' := bq (Q.getD j (0, 0)) (by simp [hj'])
      generalize Q.getD j (0, 0) = q at *
      have bq1 := bq'.x
      have bq2 := bq'.y
      refine jg_tup (jgs_cons (jg_name 6 (jgs_cons (jg_name 7 (jgs_nil ?_) sc__law_rays.nd)) sc__law_rays.nd))
      refine jb_parV 8 9 (jv_sub (jv_mul (jv_var 4 rfl) (jv_ixL (jv_var 1 rfl) jv_int (atI_nat (i := 1) rfl))) (jv_mul (jv_var 6 rfl) (jv_ixL (jv_var 0 rfl) jv_int (atI_nat (i := 1) rfl)))) (jv_sub (jv_mul (jv_var 5 rfl) (jv_ixL (jv_var 1 rfl) jv_int (atI_nat (i := 1) rfl))) (jv_mul (jv_var 7 rfl) (jv_ixL (jv_var 0 rfl) jv_int (atI_nat (i := 1) rfl)))) ?_ sc__law_rays.nd
      have bx : Bd 111 (p.1 * cs - q.1 * cf) := inferInstance
      have by_ : Bd 111 (p.2 * cs - q.2 * cf) := inferInstance
      refine jb_is (rayR R Q cf cs M D (.val (.int p.1)) (.val (.int p.2)) (.val (.int q.1)) (.val (.int q.2)) (.val (.int (p.1 * cs - q.1 * cf))) (.val (.int (p.2 * cs - q.2 * cf))) .no) ?_
      generalize p.1 * cs - q.1 * cf = x at *
      generalize p.2 * cs - q.2 * cf = z at *
      refine jb_whenM (fun ρ => ∃ D : List Pt, ρ = rayR R Q cf cs M D (.val (.int p.1)) (.val (.int p.2)) (.val (.int q.1)) (.val (.int q.2)) (.val (.int x)) (.val (.int z)) .no ∧ (∀ p ∈ axes, p ∈ D) ∧ Ways (4 + 120 * i + 2 * (j + 1)) D) (jt_or2 (jt_ne (jv_var 8 rfl) jv_int) fun _ => jt_ne (jv_var 9 rfl) jv_int) (fun h => ?_) (fun h => ⟨D, rfl, ax, wy.le (by omega)⟩) (fun ρ M' => ?_)
      · have nz : ¬ (x = 0 ∧ z = 0) := by
          rintro ⟨rfl, rfl⟩
          simp at h
        have wl := wy.len
        refine jb_set 3 (Q := (· = .list ((D ++ [(x, z), (0 - x, 0 - z)]).map d2))) (JV.is (jv_cat (cs := D.map d2) (jv_var 3 rfl) (jv_lst (jav_cons (jv_tup (jav_cons (jv_var 8 rfl) (jav_cons (jv_var 9 rfl) jav_nil))) (jav_cons (jv_tup (jav_cons (jv_sub jv_int (jv_var 8 rfl)) (jav_cons (jv_sub jv_int (jv_var 9 rfl)) jav_nil))) jav_nil))) (by rw [List.length_map]; simp; omega)) (by rw [List.map_append]; rfl)) (fun d e => ?_) sc__law_rays.nd
        subst e
        refine jb_nil [] ⟨_, rfl, fun p hp => List.mem_append_left _ (ax p hp), (wy.add (m := 2) ⟨fun t ht => ?_, fun t ht => ?_, by simp⟩).le (by omega)⟩
        · intro e
          simp only [List.mem_cons, List.not_mem_nil, or_false] at ht
          rcases ht with ht | ht
          · rw [ht] at e
            exact nz ⟨congrArg Prod.fst e, congrArg Prod.snd e⟩
          · rw [ht] at e
            have a := congrArg Prod.fst e
            have b := congrArg Prod.snd e
            simp only at a b
            exact nz ⟨by omega, by omega⟩
        · simp only [List.mem_cons, List.not_mem_nil, or_false] at ht
          rcases ht with ht | ht
          · rw [ht]; exact ⟨bx.up 650, by_.up 650⟩
          · rw [ht]
            have c1 := bx.lt
            exact ⟨(⟨by have := bx.lt; omega⟩ : Bd 111 (0 - x)).up 650, (⟨by have := by_.lt; omega⟩ : Bd 111 (0 - z)).up 650⟩
      · obtain ⟨D, rfl, ax, wy⟩ := M'
        exact jb_nil [] ⟨D, _, _, _, _, rfl, ax, wy⟩
    · obtain ⟨D, e6, e7, e8, e9, rfl, ax, wy⟩ := J
      exact jb_nil [] ⟨D, _, _, _, _, _, _, rfl, ax, wy.le (by omega)⟩
  · obtain ⟨D, e4, e5, e6, e7, e8, e9, rfl, ax, wy⟩ := J
    have wy := wy.le (m := 7300) (by omega)
    refine jb_for (fun i ρ => ∃ (D : List Pt) (e4 e5 e10 : SD), ρ = rayR R Q cf cs M D e4 e5 e6 e7 e8 e9 e10 ∧ (∀ p ∈ axes, p ∈ D) ∧ Ways (7300 + 2 * i) D) (ji_tup (jv_var 2 rfl)) ⟨D, e4, e5, .no, rfl, ax, wy⟩ (fun i ρ hi J => ?_) (fun ρ J => ?_)
    · obtain ⟨D, e4, e5, e10, rfl, ax, wy⟩ := J
      have hi' : i < M.length := by rw [← l3]; exact hi
      rw [getD_map M d3 (0, 0, 0) hi']
      have gr := g (M.getD i (0, 0, 0)) (by simp [hi'])
      generalize M.getD i (0, 0, 0) = r at *
      refine jg_tup (jgs_cons (jg_name 4 (jgs_cons (jg_name 5 (jgs_cons (jg_name 10 (jgs_nil ?_) sc__law_rays.nd)) sc__law_rays.nd)) sc__law_rays.nd))
      refine jb_is (rayR R Q cf cs M D (.val (.int r.1)) (.val (.int r.2.1)) e6 e7 e8 e9 (.val (.int r.2.2))) ?_
      have nz : ¬ (r.1 = 0 ∧ r.2.1 = 0) := by
        have o := gr.one
        rw [gr.z, gcdl_pad] at o
        exact one_nz (a := (r.1, r.2.1)) o
      have bx : Bd 600 r.1 := gr.bd.x
      have by_ : Bd 600 r.2.1 := gr.bd.y
      have wl := wy.len
      refine jb_set 3 (Q := (· = .list ((D ++ [(r.2.1, 0 - r.1), (0 - r.2.1, r.1)]).map d2))) (JV.is (jv_cat (cs := D.map d2) (jv_var 3 rfl) (jv_lst (jav_cons (jv_tup (jav_cons (jv_var 5 rfl) (jav_cons (jv_sub jv_int (jv_var 4 rfl)) jav_nil))) (jav_cons (jv_tup (jav_cons (jv_sub jv_int (jv_var 5 rfl)) (jav_cons (jv_var 4 rfl) jav_nil))) jav_nil))) (by rw [List.length_map]; simp; omega)) (by rw [List.map_append]; rfl)) (fun d e => ?_) sc__law_rays.nd
      subst e
      refine jb_nil [] ⟨_, _, _, _, rfl, fun p hp => List.mem_append_left _ (ax p hp), (wy.add (m := 2) ⟨fun t ht => ?_, fun t ht => ?_, by simp⟩).le (by omega)⟩
      · intro e
        simp only [List.mem_cons, List.not_mem_nil, or_false] at ht
        rcases ht with ht | ht <;> rw [ht] at e <;> have a := congrArg Prod.fst e <;> have b := congrArg Prod.snd e <;> simp only at a b <;> exact nz ⟨by omega, by omega⟩
      · simp only [List.mem_cons, List.not_mem_nil, or_false] at ht
        rcases ht with ht | ht
        · rw [ht]; exact ⟨by_.up 650, (⟨by have := bx.lt; omega⟩ : Bd 600 (0 - r.1)).up 650⟩
        · rw [ht]; exact ⟨(⟨by have := by_.lt; omega⟩ : Bd 600 (0 - r.2.1)).up 650, bx.up 650⟩
    · obtain ⟨D, e4, e5, e10, rfl, ax, wy⟩ := J
      have wy := wy.le (m := 30000) (by omega)
      refine jb_set 11 (je_cV cT hr D (jav_cons (jv_var 3 rfl) jav_nil) wy) (fun d ⟨L, e, tu, bd, len, mem⟩ => ?_) sc__law_rays.nd
      subst e
      have mx : ∀ p ∈ axes, p ∈ L := fun p hp => by
        have := mem p (ax p hp)
        rw [axes_dir p hp] at this
        exact this
      have l4 : (L.map d2).length = L.length := by simp
      refine jb_is [.val (.list [.list (R.map d2), .int cf]), .val (.list [.list (Q.map d2), .int cs]), .val (.tuple (M.map d3)), .val (.list (D.map d2)), e4, e5, e6, e7, e8, e9, e10, .val (.list (L.map d2)), .no] ?_
      refine jb_ret (JV.to (jv_cat (cs := L.map d2) (ds := (List.range L.length).map fun k => d2 ((gt L (pv L.length k)).1 + (gt L k).1, (gt L (pv L.length k)).2 + (gt L k).2)) (jv_var 11 rfl) (JN.je (P := fun ds => ds = (List.range L.length).map fun k => d2 ((gt L (pv L.length k)).1 + (gt L k).1, (gt L (pv L.length k)).2 + (gt L k).2)) (jn_mapV [("_law_k", 12)] (fun k => d2 ((gt L (pv L.length k)).1 + (gt L k).1, (gt L (pv L.length k)).2 + (gt L k).2)) (n := L.length) (ji_range (P := fun _ => True) (by rfl) T.b_range (JV.is (jv_lenL (ds := L.map d2) (jv_var 11 rfl) (by rfl) T.b_len) (by rw [l4])) (by omega)) (fun _ _ _ _ _ => pg_name (i := 12) sc__law_rays.nd rfl (Or.inl rfl)) (tg_name (by decide)) (by omega) (fun k hk => ⟨trivial, fun s H C' cl fp => ?_⟩) sc__law_rays.nd (blk_by N__law_rays (fnScope s__law_rays) (by decide +kernel))) fun ds e => by rw [e]) ?_) ⟨L ++ (List.range L.length).map fun k => ((gt L (pv L.length k)).1 + (gt L k).1, (gt L (pv L.length k)).2 + (gt L k).2), ?_, ?_, ?_, ?_, ?_⟩)
      · have ak := atI_pv hk
        have ak2 : atI (L.map d2) (k : Int) = some (d2 (gt L k)) := atI_nat (by simp [gt, hk])
        exact jv_tup (jav_cons (jv_add (jv_ixT (jv_ixL (jv_var 11 rfl) (jv_sub (jv_var 12 rfl) jv_int) ak) jv_int rfl) (jv_ixT (jv_ixL (jv_var 11 rfl) (jv_var 12 rfl) ak2) jv_int rfl)) (jav_cons (jv_add (jv_ixT (jv_ixL (jv_var 11 rfl) (jv_sub (jv_var 12 rfl) jv_int) ak) jv_int rfl) (jv_ixT (jv_ixL (jv_var 11 rfl) (jv_var 12 rfl) ak2) jv_int rfl)) jav_nil))
      · simp only [List.length_map, List.length_range]; omega
      · rw [List.map_append, List.map_map]; rfl
      · intro e
        have := List.append_eq_nil_iff.mp e
        have h := mx (1, 0) (by decide)
        rw [this.1] at h
        cases h
      · simp only [List.length_append, List.length_map, List.length_range]; omega
      · intro p hp
        rcases List.mem_append.mp hp with hp | hp
        · intro e
          have := one_nz (tu.one p hp)
          rw [e] at this
          exact this ⟨rfl, rfl⟩
        · obtain ⟨k, hk, rfl⟩ := List.mem_map.mp hp
          exact turned_sum tu (mx _ (by decide)) (mx _ (by decide)) (mx _ (by decide)) (mx _ (by decide)) (List.mem_range.mp hk)
      · intro p hp
        rcases List.mem_append.mp hp with hp | hp
        · exact ⟨(bd p hp).x.up 660, (bd p hp).y.up 660⟩
        · obtain ⟨k, hk, rfl⟩ := List.mem_map.mp hp
          have b1 := bd _ (gt_mem (List.mem_range.mp hk))
          have b2 := bd _ (gt_mem (pv_lt (List.mem_range.mp hk)))
          have c1 := b1.x
          have c2 := b1.y
          have c3 := b2.x
          have c4 := b2.y
          exact ⟨Bd.up 660 (inferInstance : Bd 651 ((gt L (pv L.length k)).1 + (gt L k).1)), Bd.up 660 (inferInstance : Bd 651 ((gt L (pv L.length k)).2 + (gt L k).2))⟩
end
end Wf

namespace Wf
open PySem PySem.Spec PyProof.Rows L2 C8
section
variable {P : Program} {w : World} {K : PySem.W.Frag} {mg : Str → Option Value} {base : Heap} {α : Type} {args : α → List PyData} {pre : α → Prop} {post : α → PyData → Prop}
/-- a def that draws, called while nothing is being shown -/
theorem fnGS_mk {x : Str} {st : Stmt} {f : Addr} {fd : FuncData} {N ps : List Str} {k : Nat} (F : Def K mg x st f fd) (S : FnScope N ps (fnScope st)) (hN : 1 ≤ N.length) (hl : ∀ y, (args y).length + 1 = ps.length)
    (body : ∀ (y : α) (o : Addr), pre y → ∀ (cdv : Value) (A : Around) (outer : List Env) (s : Shared) (H : Hp) (E : XK), Room k (A.deeper (envOfC x (fnScope st) s.heap.objs.size f cdv)) → A.guards = some [] →
      JB (cxOf C8.CX0 P w K mg base N x (fnScope st) f cdv A outer s H E).nox (fnBody st) (.sack o :: rho0 N.tail (args y)) { nx := fun ρ => ρ[0]? = some (.sack o) ∧ post y .none, rt := fun d ρ => ρ[0]? = some (.sack o) ∧ post y d }) : FnG P w K mg base (k + 1) f fd ps (spS K args pre post) := by
  refine fnG_of F.fn S (fun vs H Q E h => ?_) fun cdv A outer s H vs Q E hr hgu h => ?_
  · obtain ⟨y, F', o, i, j, k, ws, rfl, _, _, _, h1, _⟩ := h
    rw [List.length_cons, h1.length, hl]
  · obtain ⟨y, F', o, i, j, k, ws, rfl, h0, hi, f0, h1, h2, h3, h4⟩ := h
    refine ⟨_, pB, ?_⟩
    have fin : ∀ ρ' σ' F2 H2 v d, ρ'[0]? = some (.sack o) → post y d → Grow (hide o H) F' F2 H2 → Slots K (hide o H) F2 H2 σ' ρ' → Dp K F2 v d → Q v H2 := by
      intro ρ' σ' F2 H2 v d hs p g S2 dv
      obtain ⟨i', j', k', q1, q2, q3, q4, q5⟩ := S2.ok 0 _ hs
      exact h4 v d F2 H2 i' j' k' p q5 q4 q3 g dv
    exact body y o h3 cdv A outer s H E hr hgu (hide o H) F' H _ _ h2 hide_same (slots_startS h1 hide_at f0 h0 hi hN) ⟨fun ρ' σ' F2 H2 p g S2 => fin ρ' σ' F2 H2 .non .none p.1 p.2 g S2 .non, fun v d ρ' σ' F2 H2 p g S2 dv => fin ρ' σ' F2 H2 v d p.1 p.2 g S2 dv, fun _ _ _ _ z => z.elim, fun _ _ _ _ z => z.elim, fun _ _ _ _ _ _ _ z => z.elim⟩
end
/-! ### what is drawn -/
theorem rim_len (S : List Pt) : (rimOf S).length ≤ 2 * S.length := by
  unfold rimOf
  split
  · omega
  · have a1 := chainS_len S
    have a2 := chainS_len S.reverse
    rw [List.length_reverse] at a2
    simp only [List.length_append, List.length_dropLast, chain, List.length_reverse]
    omega
theorem Drawn.rim {S : List Pt} {c : Int} (h : Drawn S c) : ∀ p ∈ rimOf S, Sm p := fun p hp => h.sm p ((rim_cvx h.asc h.ne).2 p hp)
theorem Drawn.rlen {S : List Pt} {c : Int} (h : Drawn S c) : (rimOf S).length < 60 := by
  have := rim_len S
  have := h.len
  omega
theorem Drawn.pos {S : List Pt} {c : Int} (h : Drawn S c) : 0 < c := by have := h.sc; omega
theorem Drawn.bd {S : List Pt} {c : Int} (h : Drawn S c) (k : Nat) (hk : 3 ≤ k := by decide) : Bd k c := by
  have : Bd 3 c := ⟨by have := h.sc; omega⟩
  exact this.mono hk
theorem said_of {S : List Pt} {c : Int} {L : List V3} (h : Drawn S c) (r : All2 (fun (v : V3) (p : Pt) => L3 (p.1, p.2, c) v) L (rimOf S)) (b : ∀ v ∈ L, B3 50 v) : Said c L S :=
  ⟨h.pos, by have := h.sc; omega, h.asc, h.ne, r, b, by rw [r.len]; exact h.rlen⟩
theorem gt_map {f : Pt → Pt} {L : List Pt} {i : Nat} (h : i < L.length) : gt (L.map f) i = f (gt L i) := by
  simp [gt, h]
/-- the law's own look at all corners -/
theorem strict_told {y : Duel} (ok : y.Ok) {b : Bool} (h : b = true ↔ 2 < (rimOf y.Sf).length ∧ ∀ e ∈ rimOf y.Ss, ∀ k, k < (rimOf y.Sf).length → 0 < bend (ml y.cs (gt (rimOf y.Sf) (pv (rimOf y.Sf).length k))) (ml y.cs (gt (rimOf y.Sf) k)) (ml y.cf e)) :
    b = true ↔ ∀ B ∈ y.E, ∀ s ∈ sidesOf y.D, out s B < 0 := by
  have ene : y.E ≠ [] := fun e => by
    have e : rimOf y.Ss = [] := List.map_eq_nil_iff.mp e
    have := (rim_cvx ok.s.asc ok.s.ne).1.ne
    rw [e] at this
    cases this
  have dl : y.D.length = (rimOf y.Sf).length := List.length_map _
  rw [all_strict (said_cvx ok.f ok.s.pos) ene, h, List.length_map]
  constructor
  · rintro ⟨h1, h2⟩
    refine ⟨h1, fun B hB k hk => ?_⟩
    obtain ⟨e, he, rfl⟩ := List.mem_map.mp hB
    rw [gt_map hk, gt_map (pv_lt hk)]
    exact h2 e he k hk
  · rintro ⟨h1, h2⟩
    refine ⟨h1, fun e he k hk => ?_⟩
    have := h2 _ (List.mem_map_of_mem he) k hk
    rw [gt_map hk, gt_map (pv_lt hk)] at this
    exact this
/-- .. at all of the fleer's velocities along a way -/
theorem hits_told {y : Duel} (ok : y.Ok) {d : Pt} : (∀ v ∈ y.Ls, HitS (stepsOf (rimOf y.Sf) y.cf v) d) ↔ ∀ B ∈ y.E, Hit y.D B d := by
  constructor
  · intro h B hB
    obtain ⟨e, he, rfl⟩ := List.mem_map.mp hB
    obtain ⟨v, hv, l⟩ := ok.s.rel.rgt he
    exact (steps_hit l ok.f.pos ok.s.pos).mp (h v hv)
  · intro h v hv
    obtain ⟨e, he, l⟩ := ok.s.rel.lft hv
    exact (steps_hit l ok.f.pos ok.s.pos).mpr (h _ (List.mem_map_of_mem he))
/-- a way that may be asked -/
structure WayOk (g : V3) : Prop where
  w : 0 < g.2.2
  one : gcdl [g.1, g.2.1, g.2.2] = 1
  bd : B3 700 g
  nz : ((g.1, g.2.1) : Pt) ≠ (0, 0)
theorem way_spot {x z c : Int} {s : V3} (h : ¬ (x = 0 ∧ z = 0)) (bx : Bd 660 x) (bz : Bd 660 z) (hc : 0 < c) (c3 : c ≤ 3) (l : L3 (x, z, c) s) : WayOk s := by
  obtain ⟨g, hg, q1, q2, q3⟩ := l.ex
  simp only at q1 q2 q3
  refine ⟨pos_of_mul hg (by rw [q3]; exact hc), l.one, ⟨(Bd.le bx l.b1).up 700, (Bd.le bz l.b2).up 700, ?_⟩, fun e => h ?_⟩
  · have b : Bd 3 c := ⟨by omega⟩
    exact (Bd.le b l.b3).up 700
  · have a : s.1 = 0 := congrArg Prod.fst e
    have b : s.2.1 = 0 := congrArg Prod.snd e
    rw [a] at q1
    rw [b] at q2
    exact ⟨by rw [← q1]; simp, by rw [← q2]; simp⟩
abbrev rgR (o : Addr) (R1 : List Pt) (c1 : Int) (R2 : List Pt) (c2 : Int) (e3 e4 e5 e6 e7 e8 e9 e10 e11 e12 e13 e14 e15 : SD) : Rho :=
  [.sack o, .val (.list [.list (R1.map d2), .int c1]), .val (.list [.list (R2.map d2), .int c2]), e3, e4, e5, e6, e7, e8, e9, e10, e11, e12, e13, e14, e15, .no, .no, .no]
section
variable {P : Program} {w : World} {K : PySem.W.Frag} {mg : Str → Option Value} {base : Heap} (T : Txt K mg)
include T
theorem f_right {fa : Addr} {fd : FuncData} (D : Def K mg "_law_right" s__law_right fa fd) : FnG P w K mg base 9 fa fd ["_law_sack_here"] (spS K (α := Unit) (fun _ => []) (fun _ => True) fun _ d => d = .bool true) := by
  refine fnGS_mk D sc__law_right (by decide) (fun _ => rfl) fun y o _ cdv A outer s0 H E hr hgu => ?_
  have cH := c_hunt (P := P) (w := w) (base := base) T
  have cS := c_said (P := P) (w := w) (base := base) T
  have cB := c_lbend (P := P) (w := w) (base := base) T
  have cA := c_catches_always (P := P) (w := w) (base := base) T
  have cBS := c_bearing_sides (P := P) (w := w) (base := base) T
  have cAS := c_are_sides (P := P) (w := w) (base := base) T
  have cR := c_rays (P := P) (w := w) (base := base) T
  have cL := c_lcaught (P := P) (w := w) (base := base) T
  have cO := c_one (P := P) (w := w) (base := base) T
  have cD := c_dot (P := P) (w := w) (base := base) T
  have cDr := c_draw (P := P) (w := w) (base := base) T
  have cSp := c_spot (P := P) (w := w) (base := base) T
  have cF := c_is_caught_from (P := P) (w := w) (base := base) T
  have nd := sc__law_right.nd
  refine jb_asg (je_cS cH hr 0 rfl () jav_nil trivial) fun d ⟨d1, d2', e, ⟨S1, c1, e1, w1⟩, S2, c2, e2, w2⟩ => ?_
  subst e e1 e2
  refine jg_unl (jgs_cons (jg_name 1 (jgs_cons (jg_name 2 (jgs_nil ?_) nd)) nd))
  refine jb_is (rgR o (rimOf S1) c1 (rimOf S2) c2 .no .no .no .no .no .no .no .no .no .no .no .no .no) ?_
  have p1 := w1.pos
  have p2 := w2.pos
  have b1 : Bd 50 c1 := w1.bd 50
  have b2 : Bd 50 c2 := w2.bd 50
  refine jb_par 3 4 (P := fun ds => ∃ L M : List V3, ds = [.tuple (L.map d3), .tuple (M.map d3)] ∧ Said c1 L S1 ∧ Said c2 M S2) (ja_cons (je_cV cS hr (rimOf S1, c1) (jav_cons (jv_ixL (jv_var 1 rfl) jv_int (atI_nat (i := 0) rfl)) (jav_cons (jv_ixL (jv_var 1 rfl) jv_int (atI_nat (i := 1) rfl)) jav_nil)) ⟨p1, b1, fun p hp => (w1.rim p hp).bd 50, Nat.lt_of_lt_of_le w1.rlen (by decide)⟩) fun d ⟨L, e, r, b⟩ => ja_cons (je_cV cS hr (rimOf S2, c2) (jav_cons (jv_ixL (jv_var 2 rfl) jv_int (atI_nat (i := 0) rfl)) (jav_cons (jv_ixL (jv_var 2 rfl) jv_int (atI_nat (i := 1) rfl)) jav_nil)) ⟨p2, b2, fun p hp => (w2.rim p hp).bd 50, Nat.lt_of_lt_of_le w2.rlen (by decide)⟩) fun d' ⟨M, e', r', b'⟩ => ja_nil ⟨L, M, by rw [e, e'], said_of w1 r b, said_of w2 r' b'⟩) (fun ds ⟨L, M, e, s1, s2⟩ => ⟨_, _, e, ?_⟩) nd
  have ok : (⟨c1, L, S1, c2, M, S2⟩ : Duel).Ok := ⟨s1, s2⟩
  generalize hy : (⟨c1, L, S1, c2, M, S2⟩ : Duel) = D at *
  have l1 : ((rimOf S1).map d2).length = (rimOf S1).length := by simp
  have l2 : ((rimOf S2).map d2).length = (rimOf S2).length := by simp
  have n1 := w1.rlen
  have n2 := w2.rlen
  have sm1 := w1.rim
  have sm2 := w2.rim
  have st : ∀ b : Bool, (b = true ↔ 2 < (rimOf S1).length ∧ ∀ e ∈ rimOf S2, ∀ k, k < (rimOf S1).length → 0 < bend (ml c2 (gt (rimOf S1) (pv (rimOf S1).length k))) (ml c2 (gt (rimOf S1) k)) (ml c1 e)) → (b = true ↔ ∀ B ∈ D.E, ∀ s ∈ sidesOf D.D, out s B < 0) := fun b h => strict_told ok (by subst hy; exact h)
  have ht : ∀ d : Pt, (∀ v ∈ M, HitS (stepsOf (rimOf S1) c1 v) d) ↔ ∀ B ∈ D.E, Hit D.D B d := fun d => by
    rw [← hits_told ok]
    subst hy
    exact Iff.rfl
  have aF : ∀ (z : Duel), z = D → ([PyData.tuple (z.Lf.map d3), .tuple (z.Ls.map d3)] = [PyData.tuple (L.map d3), .tuple (M.map d3)]) := fun z e => by rw [e, ← hy]
  have aL : D.Lf = L := by rw [← hy]
  have aS : D.Ls = M := by rw [← hy]
  have few2 : M.length < 60 := s2.few
  have vw : ∀ v ∈ M, B3 100 v ∧ 0 < v.2.2 := fun v hv => ⟨bnd100 (s2.bd v hv), (s2.wpos hv).1⟩
  clear s1 s2
  generalize rimOf S1 = R1 at *
  generalize rimOf S2 = R2 at *
  refine jb_is (rgR o R1 c1 R2 c2 (.val (.tuple (L.map d3))) (.val (.tuple (M.map d3))) .no .no .no .no .no .no .no .no .no .no .no) ?_
  refine jb_setV 5 (d := .bool (decide (2 < R1.length))) (JV.is (jv_gt (jv_lenL (jv_ixL (jv_var 1 rfl) jv_int (atI_nat (i := 0) rfl)) (by rfl) T.b_len) jv_int) ?_) ?_ nd
  · rw [l1]
    congr 1
    exact decide_eq_decide.mpr (by omega)
  refine jb_is (rgR o R1 c1 R2 c2 (.val (.tuple (L.map d3))) (.val (.tuple (M.map d3))) (.val (.bool (decide (2 < R1.length)))) .no .no .no .no .no .no .no .no .no .no) ?_
  -- is it strictly inside everywhere
  refine jb_for (fun i ρ => ∃ (b : Bool) (e6 e7 e8 e9 e10 : SD), ρ = rgR o R1 c1 R2 c2 (.val (.tuple (L.map d3))) (.val (.tuple (M.map d3))) (.val (.bool b)) e6 e7 e8 e9 e10 .no .no .no .no .no ∧ (b = true ↔ 2 < R1.length ∧ ∀ e ∈ R2.take i, ∀ k, k < R1.length → 0 < bend (ml c2 (gt R1 (pv R1.length k))) (ml c2 (gt R1 k)) (ml c1 e)))
    (ji_list (ds := R2.map d2) (jv_ixL (jv_var 2 rfl) jv_int (atI_nat (i := 0) rfl))) ⟨_, .no, .no, .no, .no, .no, rfl, ⟨fun h => ⟨of_decide_eq_true h, fun e he => nomatch he⟩, fun h => decide_eq_true h.1⟩⟩ (fun i ρ hi J => ?_) (fun ρ J => ?_)
  · obtain ⟨b, e6, e7, e8, e9, e10, rfl, hb⟩ := J
    have hi' : i < R2.length := by rw [← l2]; exact hi
    rw [getD_map R2 d2 (0, 0) hi']
    have sq := sm2 (R2.getD i (0, 0)) (by simp [hi'])
    have ts := take_snoc hi' ((0, 0) : Pt)
    generalize R2.getD i (0, 0) = q at *
    refine jg_tup (jgs_cons (jg_name 6 (jgs_cons (jg_name 7 (jgs_nil ?_) nd)) nd))
    refine jb_for (fun k ρ => ∃ (b : Bool) (e8 e9 e10 : SD), ρ = rgR o R1 c1 R2 c2 (.val (.tuple (L.map d3))) (.val (.tuple (M.map d3))) (.val (.bool b)) (.val (.int q.1)) (.val (.int q.2)) e8 e9 e10 .no .no .no .no .no ∧ (b = true ↔ (2 < R1.length ∧ ∀ e ∈ R2.take i, ∀ k, k < R1.length → 0 < bend (ml c2 (gt R1 (pv R1.length k))) (ml c2 (gt R1 k)) (ml c1 e)) ∧ ∀ j, j < k → 0 < bend (ml c2 (gt R1 (pv R1.length j))) (ml c2 (gt R1 j)) (ml c1 q)))
      (n := R1.length) (ji_range (P := fun _ => True) (by rfl) T.b_range (JV.is (jv_lenL (jv_ixL (jv_var 1 rfl) jv_int (atI_nat (i := 0) rfl)) (by rfl) T.b_len) (by rw [l1])) (by omega)) ⟨b, e8, e9, e10, rfl, ⟨fun h => ⟨hb.mp h, fun j hj => absurd hj (Nat.not_lt_zero j)⟩, fun h => hb.mpr h.1⟩⟩ (fun k ρ hk J => ?_) (fun ρ J => ?_)
    · obtain ⟨b, e8, e9, e10, rfl, hb⟩ := J
      refine jg_name 8 ?_ nd
      have ak := atI_pv hk
      have ak2 : atI (R1.map d2) (k : Int) = some (d2 (gt R1 k)) := atI_nat (by simp [gt, hk])
      have su := sm1 _ (gt_mem (pv_lt hk))
      have sv := sm1 _ (gt_mem hk)
      have split : (∀ j, j < k + 1 → 0 < bend (ml c2 (gt R1 (pv R1.length j))) (ml c2 (gt R1 j)) (ml c1 q)) ↔ (∀ j, j < k → 0 < bend (ml c2 (gt R1 (pv R1.length j))) (ml c2 (gt R1 j)) (ml c1 q)) ∧ 0 < bend (ml c2 (gt R1 (pv R1.length k))) (ml c2 (gt R1 k)) (ml c1 q) := by
        constructor
        · intro h
          exact ⟨fun j hj => h j (by omega), h k (by omega)⟩
        · rintro ⟨h1, h2⟩ j hj
          by_cases e : j = k
          · subst e; exact h2
          · exact h1 j (by omega)
      generalize gt R1 (pv R1.length k) = u at *
      generalize gt R1 k = v at *
      have bu := su.bd 50
      have bv := sv.bd 50
      have bq := sq.bd 50
      have u1 := bu.x
      have u2 := bu.y
      have v1 := bv.x
      have v2 := bv.y
      have q1 := bq.x
      have q2 := bq.y
      have mlr : ∀ (c : Int) (p : Pt), d2 (p.1 * c, p.2 * c) = d2 (ml c p) := fun c p => by simp only [ml, Int.mul_comm]
      refine jb_parV 9 10 (d1 := d2 u) (d2 := d2 v) (jv_ixL (jv_ixL (jv_var 1 rfl) jv_int (atI_nat (i := 0) rfl)) (jv_sub (jv_var 8 rfl) jv_int) ak) (jv_ixL (jv_ixL (jv_var 1 rfl) jv_int (atI_nat (i := 0) rfl)) (jv_var 8 rfl) ak2) ?_ nd
      refine jb_is (rgR o R1 c1 R2 c2 (.val (.tuple (L.map d3))) (.val (.tuple (M.map d3))) (.val (.bool b)) (.val (.int q.1)) (.val (.int q.2)) (.val (.int (k : Int))) (.val (d2 u)) (.val (d2 v)) .no .no .no .no .no) ?_
      refine jb_parV 9 10 (d1 := d2 (ml c2 u)) (d2 := d2 (ml c2 v)) (JV.is (jv_tup (jav_cons (jv_mul (jv_ixT (jv_var 9 rfl) jv_int rfl) (jv_ixL (jv_var 2 rfl) jv_int (atI_nat (i := 1) rfl))) (jav_cons (jv_mul (jv_ixT (jv_var 9 rfl) jv_int rfl) (jv_ixL (jv_var 2 rfl) jv_int (atI_nat (i := 1) rfl))) jav_nil))) (mlr c2 u)) (JV.is (jv_tup (jav_cons (jv_mul (jv_ixT (jv_var 10 rfl) jv_int rfl) (jv_ixL (jv_var 2 rfl) jv_int (atI_nat (i := 1) rfl))) (jav_cons (jv_mul (jv_ixT (jv_var 10 rfl) jv_int rfl) (jv_ixL (jv_var 2 rfl) jv_int (atI_nat (i := 1) rfl))) jav_nil))) (mlr c2 v)) ?_ nd
      have c2u : B2 100 (ml c2 u) := ⟨(inferInstance : Bd 100 (c2 * u.1)), (inferInstance : Bd 100 (c2 * u.2))⟩
      have c2v : B2 100 (ml c2 v) := ⟨(inferInstance : Bd 100 (c2 * v.1)), (inferInstance : Bd 100 (c2 * v.2))⟩
      have c1q : B2 100 (ml c1 q) := ⟨(inferInstance : Bd 100 (c1 * q.1)), (inferInstance : Bd 100 (c1 * q.2))⟩
      refine jb_setV 5 (d := .bool (b && decide (0 < bend (ml c2 u) (ml c2 v) (ml c1 q)))) (jv_and2 (jv_var 5 rfl) fun _ => jv_gt (je_cV cB hr (ml c2 u, ml c2 v, ml c1 q) (jav_cons (jv_var 9 rfl) (jav_cons (jv_var 10 rfl) (jav_cons (JV.is (jv_tup (jav_cons (jv_mul (jv_var 6 rfl) (jv_ixL (jv_var 1 rfl) jv_int (atI_nat (i := 1) rfl))) (jav_cons (jv_mul (jv_var 7 rfl) (jv_ixL (jv_var 1 rfl) jv_int (atI_nat (i := 1) rfl))) jav_nil))) (mlr c1 q)) jav_nil))) ⟨c2u, c2v, c1q⟩) jv_int) ?_ nd
      refine jb_nil [] ⟨_, _, _, _, rfl, ?_⟩
      rw [Bool.and_eq_true, hb, split, and_assoc, decide_eq_true_eq]
    · obtain ⟨b, e8, e9, e10, rfl, hb⟩ := J
      refine jb_nil [] ⟨b, _, _, _, _, _, rfl, ?_⟩
      rw [hb, ts, and_assoc]
      refine and_congr_right fun _ => ⟨fun ⟨h1, h2⟩ e he => ?_, fun h => ⟨fun e he => h e (List.mem_append_left _ he), fun j hj => h q (by simp) j hj⟩⟩
      rcases mem_snoc he with z | z
      · exact h1 e z
      · rw [z]; exact h2
  · obtain ⟨b, e6, e7, e8, e9, e10, rfl, hb⟩ := J
    rw [l2, List.take_length] at hb
    have hb := st b hb
    clear st
    have hu := room64 hr
    refine jb_is (rgR o R1 c1 R2 c2 (.val (.tuple (L.map d3))) (.val (.tuple (M.map d3))) (.val (.bool b)) e6 e7 e8 e9 e10 .no .no .no .no .no) ?_
    have args2 : [PyData.tuple (L.map d3), .tuple (M.map d3)] = [PyData.tuple (D.Lf.map d3), .tuple (D.Ls.map d3)] := by rw [aL, aS]
    have eqb : ∀ d : PyData, (∃ g : Bool, d = .bool g ∧ (g = true ↔ ∀ B ∈ D.E, ∀ s ∈ sidesOf D.D, out s B < 0)) → d = .bool b := fun d ⟨g, e, h⟩ => by
      rw [e]
      congr 1
      rw [Bool.eq_iff_iff]
      exact h.trans hb.symm
    refine jb_unless (jt_neS (jv_reprBs (jv_lst (jav_cons (JE.imp (je_cV cA.1 hr D (jav_cons (jv_var 3 rfl) (jav_cons (jv_var 4 rfl) jav_nil)) ok args2) eqb) (jav_cons (JE.imp (je_cK cA.2 hr D (jk_cons (jv_var 4 rfl) (jk_cons (jv_var 3 rfl) jk_nil)) ok (fun H vs h => by
      have := h.reverse
      rw [← args2]
      exact this)) eqb) jav_nil))) hgu hu (by rfl) T.b_repr) (jv_reprBs (jv_lst (jav_cons (jv_var 5 rfl) (jav_cons (jv_var 5 rfl) jav_nil))) hgu hu (by rfl) T.b_repr)) (by simp) ?_
    -- the told sides
    refine jb_set 11 (je_cV cBS hr D (jav_cons (jv_var 3 rfl) (jav_cons (jv_var 4 rfl) jav_nil)) ok args2) (fun d ⟨I, e, g3, il, iff, none_⟩ => ?_) nd
    subst e
    refine jb_is (rgR o R1 c1 R2 c2 (.val (.tuple (L.map d3))) (.val (.tuple (M.map d3))) (.val (.bool b)) e6 e7 e8 e9 e10 (.val (.tuple (I.map d3))) .no .no .no .no) ?_
    have li : (I.map d3).length = I.length := by simp
    have kE : (!true || (b && !PyData.eqv (.tuple (I.map d3)) (.tuple ([] : List PyData)))) = false := by
      cases b with
      | false => rfl
      | true =>
        rw [none_ (hb.mp rfl)]
        rfl
    refine jb_unless (jt_or2 (jt_notV (jt_valV (je_cV cAS hr I (jav_cons (jv_var 11 rfl) jav_nil) ⟨g3, il⟩))) fun _ => jt_and2 (jt_valV (jv_var 5 rfl)) fun _ => jt_neD (jv_var 11 rfl) (jv_tup jav_nil) hu (shaped_tup d3_lay d3_dep I) (by rfl)) kE ?_
    -- the rays
    refine jb_set 12 (je_cV cR hr ((R1, c1), (R2, c2), I) (jav_cons (jv_var 1 rfl) (jav_cons (jv_var 2 rfl) (jav_cons (jv_var 11 rfl) jav_nil))) ⟨fun p hp => (sm1 p hp).bd 60, n1, fun p hp => (sm2 p hp).bd 60, n2, b1, b2, g3, il⟩) (fun d ⟨W, e, wne, wl, wnz, wb⟩ => ?_) nd
    subst e
    have lw : (W.map d2).length = W.length := by simp
    have spre : ∀ g : V3, B3 700 g → ¬ (g.1 = 0 ∧ g.2.1 = 0) → 0 < g.2.2 → ∀ v ∈ M, SpanPre R1 c1 v g := fun g bg nz cp v hv => ⟨p1, b1, fun p hp => (sm1 p hp).bd 50, n1, (vw v hv).1, (vw v hv).2, bg, nz, cp⟩
    have eqk : ∀ (k : Bool) (g : V3), (k = true ↔ ∀ B ∈ D.E, Hit D.D B (g.1, g.2.1)) → ∀ d : PyData, (∃ q : Bool, d = .bool q ∧ (q = true ↔ ∀ B ∈ D.E, Hit D.D B (g.1, g.2.1))) → d = .bool k := fun k g hk d ⟨q, e, h⟩ => by
      rw [e]
      congr 1
      rw [Bool.eq_iff_iff]
      exact h.trans hk.symm
    have eql : ∀ (k : Bool) (g : V3), (k = true ↔ ∀ B ∈ D.E, Hit D.D B (g.1, g.2.1)) → ∀ d : PyData, (∃ q : Bool, d = .bool q ∧ (q = true ↔ ∀ v ∈ M, HitS (stepsOf R1 c1 v) (g.1, g.2.1))) → d = .bool k := fun k g hk d ⟨q, e, h⟩ => by
      rw [e]
      congr 1
      rw [Bool.eq_iff_iff]
      exact (h.trans (ht (g.1, g.2.1))).trans hk.symm
    refine jb_for (fun i ρ => ∃ e6 e7 e13 e16 e17 e18 : SD, ρ = [.sack o, .val (.list [.list (R1.map d2), .int c1]), .val (.list [.list (R2.map d2), .int c2]), .val (.tuple (L.map d3)), .val (.tuple (M.map d3)), .val (.bool b), e6, e7, e8, e9, e10, .val (.tuple (I.map d3)), .val (.list (W.map d2)), e13, .no, .no, .no, .no, .no]) (ji_list (jv_var 12 rfl)) ⟨e6, e7, .no, .no, .no, .no, rfl⟩ (fun i ρ hi J => ?_) (fun ρ J => ?_)
    · obtain ⟨e6, e7, e13, e16, e17, e18, rfl⟩ := J
      have hi' : i < W.length := by rw [← lw]; exact hi
      rw [getD_map W d2 (0, 0) hi']
      have mw : W.getD i (0, 0) ∈ W := by simp [hi']
      have nz := wnz _ mw
      have bp := wb _ mw
      generalize W.getD i (0, 0) = p at *
      have bx := bp.x
      have bz := bp.y
      refine jg_tup (jgs_cons (jg_name 6 (jgs_cons (jg_name 7 (jgs_nil ?_) nd)) nd))
      have nz2 : ¬ (p.1 = 0 ∧ p.2 = 0) := fun h => nz (Prod.ext h.1 h.2)
      refine jb_set 13 (Q := fun d => ∃ k : Bool, d = .bool k ∧ (k = true ↔ ∀ B ∈ D.E, Hit D.D B p)) (JE.imp (je_cV cL hr ((R1, c1), M, (p.1, p.2, 1)) (jav_cons (jv_var 1 rfl) (jav_cons (jv_var 4 rfl) (jav_cons (jv_tup (jav_cons (jv_var 6 rfl) (jav_cons (jv_var 7 rfl) (jav_cons jv_int jav_nil)))) jav_nil))) ⟨spre (p.1, p.2, 1) ⟨bx.up 700, bz.up 700, bd_lit1.up 700⟩ nz2 (show (0 : Int) < 1 by decide), by show M.length < 1000; omega⟩) fun d ⟨k, e, h⟩ => ⟨k, e, h.trans (ht p)⟩) (fun d ⟨k, e, hk⟩ => ?_) nd
      subst e
      refine jb_is [.sack o, .val (.list [.list (R1.map d2), .int c1]), .val (.list [.list (R2.map d2), .int c2]), .val (.tuple (L.map d3)), .val (.tuple (M.map d3)), .val (.bool b), .val (.int p.1), .val (.int p.2), e8, e9, e10, .val (.tuple (I.map d3)), .val (.list (W.map d2)), .val (.bool k), .no, .no, .no, .no, .no] ?_
      have ke : (V.bl k = V.bl ((List.range I.length).all fun i => decide ((I.getD i (0, 0, 0)).1 * p.1 + (I.getD i (0, 0, 0)).2.1 * p.2 ≤ 0))) := by
        congr 1
        rw [Bool.eq_iff_iff, hk, ← iff p nz, range_all I (0, 0, 0) fun r => decide (r.1 * p.1 + r.2.1 * p.2 ≤ 0), List.all_eq_true]
        exact forall_congr' fun r => imp_congr_right fun _ => by rw [decide_eq_true_eq]
      refine jb_unless (jt_neB (jv_var 13 rfl) (je_allV (n := I.length) (f := fun i => decide ((I.getD i (0, 0, 0)).1 * p.1 + (I.getD i (0, 0, 0)).2.1 * p.2 ≤ 0)) (JN.imp (jn_mapV [("_law_a", 16), ("_law_b", 17), ("_law_h", 18)] (fun i => PyData.bool (decide ((I.getD i (0, 0, 0)).1 * p.1 + (I.getD i (0, 0, 0)).2.1 * p.2 ≤ 0))) (ji_tup (jv_var 11 rfl)) (fun _ _ _ _ _ => pg_tup rfl (pgs_cons (pg_name (i := 16) nd rfl (Or.inl rfl)) (pgs_cons (pg_name (i := 17) nd rfl (Or.inl rfl)) (pgs_cons (pg_name (i := 18) nd rfl (Or.inl rfl)) pgs_nil)))) (tg_tup (js := [16, 17, 18]) (n := 3) (by decide) rfl) (by rw [li]; omega) (fun i hi => ?_) nd (blk_by N__law_right (fnScope s__law_right) (by decide +kernel))) (fun ds h => by rw [h, li])) (by rfl) T.b_all rfl)) (by rw [ke]; simp) (jb_nil [] ⟨.val (.int p.1), .val (.int p.2), .val (.bool k), .no, .no, .no, rfl⟩)
      have hi' : i < I.length := by rw [← li]; exact hi
      rw [getD_map I d3 (0, 0, 0) hi']
      have gr := (g3 (I.getD i (0, 0, 0)) (by simp [hi'])).bd
      generalize I.getD i (0, 0, 0) = r at *
      have r1 := gr.x
      have r2 := gr.y
      refine ⟨rfl, fun s H C' cl fp => ?_⟩
      refine je_is [.sack o, .val (.list [.list (R1.map d2), .int c1]), .val (.list [.list (R2.map d2), .int c2]), .val (.tuple (L.map d3)), .val (.tuple (M.map d3)), .val (.bool b), .val (.int p.1), .val (.int p.2), e8, e9, e10, .val (.tuple (I.map d3)), .val (.list (W.map d2)), .val (.bool k), .no, .no, .val (.int r.1), .val (.int r.2.1), .val (.int r.2.2)] ?_
      exact jv_le (jv_add (jv_mul (jv_var 16 rfl) (jv_var 6 rfl)) (jv_mul (jv_var 17 rfl) (jv_var 7 rfl))) jv_int
    · obtain ⟨e6, e7, e13, e16, e17, e18, rfl⟩ := J
      -- drawn ways
      refine jb_for (fun i ρ => ∃ e6 e7 e14 e15 : SD, ρ = [.sack o, .val (.list [.list (R1.map d2), .int c1]), .val (.list [.list (R2.map d2), .int c2]), .val (.tuple (L.map d3)), .val (.tuple (M.map d3)), .val (.bool b), e6, e7, e8, e9, e10, .val (.tuple (I.map d3)), .val (.list (W.map d2)), e13, e14, e15, .no, .no, .no] ∧ (0 < i → ∃ g : V3, e15 = .val (d3 g) ∧ WayOk g)) (ji_range (n := 4) (P := fun _ => True) (by rfl) T.b_range jv_int (by decide)) ⟨e6, e7, .no, .no, rfl, fun h => absurd h (Nat.lt_irrefl 0)⟩ (fun i ρ hi J => ?_) (fun ρ J => ?_)
      · obtain ⟨e6, e7, e14, e15, rfl, _⟩ := J
        refine jg_name 14 ?_ nd
        refine jb_is [.sack o, .val (.list [.list (R1.map d2), .int c1]), .val (.list [.list (R2.map d2), .int c2]), .val (.tuple (L.map d3)), .val (.tuple (M.map d3)), .val (.bool b), e6, e7, e8, e9, e10, .val (.tuple (I.map d3)), .val (.list (W.map d2)), e13, .val (.int (i : Int)), e15, .no, .no, .no] ?_
        refine jb_asg (Q := fun d => ∃ p : Pt, d = d2 p ∧ B2 660 p) (je_ifV (jt_lt (jv_var 14 rfl) jv_int) (fun _ => JE.imp (je_cS cO hr 0 rfl (false, W.map d2) (jav_cons (jv_var 12 rfl) jav_nil) ⟨fun e => wne (List.map_eq_nil_iff.mp e), by show (W.map d2).length < 100000; omega⟩) fun d h => ?_) (fun _ => JE.imp (je_cS cD hr 0 rfl () jav_nil trivial) fun d ⟨p, e, sp⟩ => ⟨p, e, sp.bd 660⟩)) fun d ⟨p, e, bp⟩ => ?_
        · have h : d ∈ W.map d2 := h
          obtain ⟨p, hp, rfl⟩ := List.mem_map.mp h
          exact ⟨p, rfl, wb p hp⟩
        subst e
        have bx := bp.x
        have bz := bp.y
        refine jg_tup (jgs_cons (jg_name 6 (jgs_cons (jg_name 7 (jgs_nil ?_) nd)) nd))
        refine jb_is [.sack o, .val (.list [.list (R1.map d2), .int c1]), .val (.list [.list (R2.map d2), .int c2]), .val (.tuple (L.map d3)), .val (.tuple (M.map d3)), .val (.bool b), .val (.int p.1), .val (.int p.2), e8, e9, e10, .val (.tuple (I.map d3)), .val (.list (W.map d2)), e13, .val (.int (i : Int)), e15, .no, .no, .no] ?_
        refine jb_set 15 (Q := fun d => ∃ g : V3, d = d3 g ∧ WayOk g) (je_ifV (jt_or2 (jt_ne (jv_var 6 rfl) jv_int) fun _ => jt_ne (jv_var 7 rfl) jv_int) (fun h => ?_) (fun h => JV.to (jv_tup (jav_cons jv_int (jav_cons jv_int (jav_cons jv_int jav_nil)))) ⟨(1, 2, 3), rfl, ⟨by decide, by decide, ⟨(⟨by decide⟩ : Bd 3 (1 : Int)).up 700, (⟨by decide⟩ : Bd 3 (2 : Int)).up 700, (⟨by decide⟩ : Bd 3 (3 : Int)).up 700⟩, by decide⟩⟩)) (fun d ⟨g, e, wo⟩ => ?_) nd
        · have nz2 : ¬ (p.1 = 0 ∧ p.2 = 0) := by
            rintro ⟨z1, z2⟩
            rw [z1, z2] at h
            simp at h
          refine je_cR cSp hr (R := fun ds => ∃ m : Int, ds = [.int p.1, .int p.2, .int (1 + m)] ∧ 0 ≤ m ∧ m < 3) (ja_cons (jv_var 6 rfl) fun d e => ja_cons (jv_var 7 rfl) fun d' e' => ja_cons (je_addE (P := (· = .int 1)) (R := fun d => ∃ m : Int, d = .int m ∧ 0 ≤ m ∧ m < 3) (Q := fun d => ∃ m : Int, d = .int (1 + m) ∧ 0 ≤ m ∧ m < 3) jv_int (fun _ _ => je_cS cDr hr 0 rfl 3 (jav_cons jv_int jav_nil) ⟨by decide, by decide⟩) fun d d' e ⟨m, e', q⟩ => ⟨1, m, e, e', m, rfl, q⟩) fun d'' ⟨m, e'', q⟩ => ja_nil ⟨m, by rw [e, e', e''], q⟩) fun ds ⟨m, e, q0, q1⟩ => ⟨(p.1, p.2, 1 + m), e, ⟨show 0 < 1 + m by omega, ⟨bx.up 1000, bz.up 1000, (⟨by omega⟩ : Bd 3 (1 + m)).up 1000⟩⟩, fun d ⟨s, e', l⟩ => ⟨s, e', way_spot nz2 bx bz (by omega) (by omega) l⟩⟩
        subst e
        obtain ⟨k, hk⟩ : ∃ k : Bool, k = true ↔ ∀ B ∈ D.E, Hit D.D B (g.1, g.2.1) := by
          by_cases z : ∀ B ∈ D.E, Hit D.D B (g.1, g.2.1)
          · exact ⟨true, fun _ => z, fun _ => rfl⟩
          · exact ⟨false, fun h => (nomatch h), fun h => absurd h z⟩
        have nz2 : ¬ (g.1 = 0 ∧ g.2.1 = 0) := fun h => wo.nz (Prod.ext h.1 h.2)
        refine jb_is [.sack o, .val (.list [.list (R1.map d2), .int c1]), .val (.list [.list (R2.map d2), .int c2]), .val (.tuple (L.map d3)), .val (.tuple (M.map d3)), .val (.bool b), .val (.int p.1), .val (.int p.2), e8, e9, e10, .val (.tuple (I.map d3)), .val (.list (W.map d2)), e13, .val (.int (i : Int)), .val (d3 g), .no, .no, .no] ?_
        exact jb_unless (jt_neS (jv_reprB (b := k) (JE.imp (je_cV cF.1 hr (D, g) (jav_cons (jv_var 3 rfl) (jav_cons (jv_var 4 rfl) (jav_cons (jv_var 15 rfl) jav_nil))) ⟨ok, ⟨wo.w, wo.one⟩, wo.bd, wo.nz⟩ (by rw [aL, aS])) (eqk k g hk)) hgu hu (by rfl) T.b_repr) (jv_reprB (b := k) (JE.imp (je_cV cL hr ((R1, c1), M, g) (jav_cons (jv_var 1 rfl) (jav_cons (jv_var 4 rfl) (jav_cons (jv_var 15 rfl) jav_nil))) ⟨spre g wo.bd nz2 wo.w, by show M.length < 1000; omega⟩) (eql k g hk)) hgu hu (by rfl) T.b_repr)) (by simp) (jb_nil [] ⟨.val (.int p.1), .val (.int p.2), .val (.int (i : Int)), .val (d3 g), rfl, fun _ => ⟨g, rfl, wo⟩⟩)
      · obtain ⟨e6, e7, e14, e15, rfl, hw⟩ := J
        obtain ⟨g, rfl, wo⟩ := hw (by decide)
        obtain ⟨k, hk⟩ : ∃ k : Bool, k = true ↔ ∀ B ∈ D.E, Hit D.D B (g.1, g.2.1) := by
          by_cases z : ∀ B ∈ D.E, Hit D.D B (g.1, g.2.1)
          · exact ⟨true, fun _ => z, fun _ => rfl⟩
          · exact ⟨false, fun h => (nomatch h), fun h => absurd h z⟩
        have nz2 : ¬ (g.1 = 0 ∧ g.2.1 = 0) := fun h => wo.nz (Prod.ext h.1 h.2)
        refine jb_ret (JV.to (jv_eqS (jv_reprB (b := k) (JE.imp (je_cK cF.2 hr (D, g) (jk_cons (jv_var 15 rfl) (jk_cons (jv_var 3 rfl) (jk_cons (jv_var 4 rfl) jk_nil))) ⟨ok, ⟨wo.w, wo.one⟩, wo.bd, wo.nz⟩ (fun H vs h => ?_)) (eqk k g hk)) hgu hu (by rfl) T.b_repr) (jv_reprB (b := k) (JE.imp (je_cV cL hr ((R1, c1), M, g) (jav_cons (jv_var 1 rfl) (jav_cons (jv_var 4 rfl) (jav_cons (jv_var 15 rfl) jav_nil))) ⟨spre g wo.bd nz2 wo.w, by show M.length < 1000; omega⟩) (eql k g hk)) hgu hu (by rfl) T.b_repr)) ⟨rfl, by simp⟩)
        have h2 := (h.drop 1).append (h.take 1)
        have e : ([PyData.tuple (D.Lf.map d3), .tuple (D.Ls.map d3), d3 g] : List PyData) = [.tuple (L.map d3), .tuple (M.map d3), d3 g] := by rw [aL, aS]
        show DpAll _ H (gA3 [] vs) [PyData.tuple (D.Lf.map d3), .tuple (D.Ls.map d3), d3 g]
        rw [e]
        exact h2
end
end Wf

namespace Wf
open PySem PySem.Spec PyProof.Rows L2 C8
/-! ### the law's call -/
section
variable {X : Cx} {ρ : Rho} {e : Expr} {es : List Expr} {pos p : Pos} {x : Str} {α : Type} {args : α → List PyData} {pre : α → Prop} {postN : α → List PyData → Prop} {post : α → PyData → Prop} {k j : Nat} {ds : List PyData}
/-- f(e, ..) that gives a new list -/
theorem jn_cN (c : Cal X.prog X.w X.K X.mg X.base k x (spN X.K args pre postN) []) (hr : Room j X.A) (hk : k ≤ j) (hg : Gl X x) (y : α) (ha : JAV X (e :: es) ρ ds) (hy : ds = args y) (hp : pre y)
    (hdb : (x == ("__debug__" : Str)) = false := by decide) (he : starEach (e :: es) X.env = (false, eval e X.env) :: starEach es X.env := by rfl) (hpl : (backTo pos (starEach es X.env)).any (·.1) = false := by rfl) : JN X (.Call (.Name x p) (e :: es) [] pos) ρ (postN y) := fun B F H σ kk f bb S q => by
  refine toE (pe_c c hr hk hg pA hdb he hpl) ?_
  refine ha B F H σ _ f bb S fun vs ds' F1 H1 pd g1 S1 d1 => ?_
  subst pd
  show spN X.K args pre postN (vs ++ []) H1 kk C8.E0
  rw [List.append_nil]
  rw [hy] at d1
  refine ⟨y, F1, d1, g1.fh, hp, fun a ws ds' F2 H2 p2 g2 a0 f0 h0 d0 => q a ws ds' F2 H2 p2 (g1.trans (g2.wide g1.bh)) (S1.up g2) (g1.bh.free a0) f0 h0 d0 fun i ⟨s, hs, mm⟩ e => ?_⟩
  have ok := S1.ok i s hs
  cases s with
  | no => cases mm
  | val d => cases mm
  | own es' =>
    obtain ⟨c', ws', e1, _, _, e4, _⟩ := ok
    rw [e] at e1
    cases e1
    rw [a0] at e4
    cases e4
  | sack o' =>
    obtain ⟨_, _, _, e1, _, _, e4, _⟩ := ok
    rw [e] at e1
    cases e1
    rw [a0] at e4
    cases e4
/-- f(a new list of three numbers), f called while nothing is being shown -/
theorem je_callGS {fa : Addr} {fd : FuncData} {ps : List Str} (Fn : FnG X.prog X.w X.K X.mg X.base k fa fd ps (spS X.K args pre post)) (y : α) (hy : args y = []) (hp : pre y) (hr : Room k X.A) (hgu : X.A.guards = some []) (hg : Gl X x) (hm : X.mg x = some (.ref fa)) (kp : PySem.W.keepIn X.K (.ref fa) = true) (hb : Binds X.K fd ps [])
    (ha : JN X e ρ fun ds => ∃ i j k : Int, ds = [.int i, .int j, .int k] ∧ 0 ≤ i) (hdb : (x == ("__debug__" : Str)) = false := by decide) (he : starEach [e] X.env = (false, eval e X.env) :: starEach [] X.env := by rfl) (hpl : (backTo pos (starEach [] X.env)).any (·.1) = false := by rfl) :
    JE X (.Call (.Name x p) [e] [] pos) ρ (post y) := fun B F H σ kk f bb S q => by
  refine toE (pe_callGd Fn hr hgu hg hm kp hb (pa_cons pE pa_nil he) hdb he hpl) ?_
  refine ha B F H σ _ f bb S fun a vs ds F1 H1 pd g1 S1 b1 f1 h1 d1 hm1 => ?_
  obtain ⟨i, j', k', rfl, hi⟩ := pd
  have ev : vs = [.int i, .int j', .int k'] := DpAll.ints (ns := [i, j', k']) d1
  subst ev
  refine ⟨y, F1, a, i, j', k', [], rfl, h1, hi, f1, by rw [hy]; exact .nil, g1.fh, hp, fun v d F2 H2 i2 j2 k2 p2 hi2 h2 f2 g2 dv => ?_⟩
  have bh : Same B (hide a H1) := fun c u z => by
    rw [hide_ne fun w => by rw [w, b1] at z; cases z]
    exact g1.bh c u z
  have off : ∀ c u, c ≠ a → F1 c = none → H1 c = some u → F2 c = none := fun c u hc fc hcu => by
    cases w : F2 c with
    | none => rfl
    | some z =>
      rcases g2.nw c z w with e | e
      · rw [fc] at e; cases e
      · rw [hide_ne hc, hcu] at e; cases e
  refine q v d F2 H2 p2 (g1.trans (g2.wide bh)) ⟨S1.len, fun m s hs => ?_, S1.dis⟩ dv
  have k1 := S1.ok m s hs
  cases s with
  | no => trivial
  | val d' =>
    obtain ⟨v', e1, e2⟩ := k1
    exact ⟨v', e1, e2.same g2.ff⟩
  | own es' =>
    obtain ⟨c, ws, e1, e2, e3, e4, e5⟩ := k1
    have hc : c ≠ a := fun w => hm1 m ⟨_, hs, rfl⟩ (by rw [e1, w])
    exact ⟨c, ws, e1, e2, off c _ hc e3 e4, g2.bh c _ (by rw [hide_ne hc]; exact e4), e5.same g2.ff⟩
  | sack o' =>
    obtain ⟨m1, m2, m3, e1, e2, e3, e4, e5⟩ := k1
    have hc : o' ≠ a := fun w => hm1 m ⟨_, hs, rfl⟩ (by rw [e1, w])
    exact ⟨m1, m2, m3, e1, e2, off o' _ hc e3 e4, g2.bh o' _ (by rw [hide_ne hc]; exact e4), e5⟩
end
section
variable {P : Program} {w : World} {K : PySem.W.Frag} {mg : Str → Option Value} {base : Heap}
abbrev spLaw (K : PySem.W.Frag) : Sp := spD K (α := List Int) (fun ns => [.list (ns.map PyData.int)]) (fun ns => ns.length ≤ 63) fun _ d => d = .bool true
theorem f_law (T : Txt K mg) {fa : Addr} {fd : FuncData} (D : Def K mg "law" s_law fa fd) : FnG P w K mg base 10 fa fd ["_law_script"] (spLaw K) := by
  refine fnG_of D.fn sc_law (fun vs H Q E h => ?_) fun cdv A outer s H vs Q E hr hgu h => ?_
  · obtain ⟨y, F', h1, _⟩ := h
    rw [h1.length]
    rfl
  · obtain ⟨ns, F', h1, h2, h3, h4⟩ := h
    refine ⟨_, pB, ?_⟩
    have body : JB (cxOf C8.CX0 P w K mg base N_law "law" (fnScope s_law) fa cdv A outer s H E).nox (fnBody s_law) (rho0 N_law [.list (ns.map PyData.int)]) { nx := fun _ => False, rt := fun d _ => d = .bool true } := by
      obtain ⟨fr, fdr, Dr, br⟩ := T.d__law_right.ex
      exact jb_ret (je_callGS (X := (cxOf C8.CX0 P w K mg base N_law "law" (fnScope s_law) fa cdv A outer s H E).nox) (f_right T Dr) () rfl trivial hr hgu (by rfl) Dr.mgf Dr.kp br (jn_cN (X := (cxOf C8.CX0 P w K mg base N_law "law" (fnScope s_law) fa cdv A outer s H E).nox) (c_sack T) hr (by decide) (by rfl) ns (jav_cons (jv_var 0 rfl) (jav_cons jv_int jav_nil)) rfl h3))
    exact body H F' H (L2.start N_law vs) _ h2 (Same.refl H) (slots_start h1) ⟨fun _ _ _ _ z => z.elim, fun v d ρ' σ' F2 H2 p g _ dv => h4 v d F2 H2 p g dv, fun _ _ _ _ z => z.elim, fun _ _ _ _ z => z.elim, fun _ _ _ _ _ _ _ z => z.elim⟩
end
/-! ### the text by the head's facts -/
section
variable {K : PySem.W.Frag} {mg : Str → Option Value} {h : Heap} (X : K.In h) (G : h.Ns mainGlobals mg) (c : He.SaysD faL fnL K)
theorem fun_of {x : Str} {st : Stmt} {f : Addr} {fd : FuncData} (F : L2.FunD K x x (fnArgs st) (fnBody st) (fnScope st) [] [] f fd) : C8.Fun K x x st f fd := by
  obtain ⟨oc, od, dV, kV, doc, pm, an, cdv, ct, osl, e, l, c, _, _⟩ := F.ex
  exact ⟨oc, od, dV, kV, doc, pm, an, cdv, ct, osl, e, l, c⟩
include X G c
theorem def_of (i : Nat) {x : Str} {n : Nat} (hp : dsL[i]? = some (x, n)) : ∃ fd, C8.Def K mg x (topS n) (He.ga K x) fd ∧ L2.FunD K x x (fnArgs (topS n)) (fnBody (topS n)) (fnScope (topS n)) [] [] (He.ga K x) fd := by
  have hi : i < dsL.length := (List.getElem?_eq_some_iff.mp hp).1
  obtain ⟨fd, F⟩ := c.def_ i (d := dD (x, n)) (by unfold fnL; rw [List.getElem?_map, hp]; rfl)
  have g := He.glo_ok X G (c.fact i (f := .glo x) (by
    unfold faL
    rw [List.getElem?_append_left (by rw [List.length_map]; exact hi), List.getElem?_map, hp]
    rfl))
  have F' : L2.FunD K x x (fnArgs (topS n)) (fnBody (topS n)) (fnScope (topS n)) [] [] (He.ga K x) fd := F
  exact ⟨fd, ⟨fun_of F', g, F'.kp⟩, F'⟩
theorem df_of (i : Nat) {x : Str} {n : Nat} {ps : List Str} (hp : dsL[i]? = some (x, n))
    (hb : ∀ (kV doc pm : Value) (an : Option Addr) (cdv ct : Value) (us : List Value), us.length = ps.length → bindArgs (PySem.W.fnOf x x (fnArgs (topS n)) (fnBody (topS n)) (fnScope (topS n)) .none kV doc pm an cdv ct) ⟨us, []⟩ = pure (ps.zip us)) : Df K mg x (topS n) ps := by
  obtain ⟨fd, D, F⟩ := def_of X G c i hp
  exact ⟨_, fd, D, F.bindsN hb⟩
theorem dfK_of (i : Nat) {x : Str} {n : Nat} {ps ks : List Str} {g : List Value → List Value → List Value} {gV : List V → List V → List V} (hp : dsL[i]? = some (x, n))
    (hb : ∀ (kV doc pm : Value) (an : Option Addr) (cdv ct : Value) (us : List Value), us.length = ps.length → bindArgs (PySem.W.fnOf x x (fnArgs (topS n)) (fnBody (topS n)) (fnScope (topS n)) .none kV doc pm an cdv ct) ⟨us, []⟩ = pure (ps.zip us))
    (hk : ∀ {f : Addr} {fd : FuncData}, L2.FunD K x x (fnArgs (topS n)) (fnBody (topS n)) (fnScope (topS n)) [] [] f fd → KBinds K fd ps ks g gV) : DfK K mg x (topS n) ps ks g gV := by
  obtain ⟨fd, D, F⟩ := def_of X G c i hp
  exact ⟨_, fd, D, F.bindsN hb, hk F⟩
omit X G c
theorem vals_rev : ∀ {vs : List V} {us : List Value}, Vals vs us → Vals vs.reverse us.reverse
  | _, _, .nil => .nil
  | _, _, .cons h k => by
    rw [List.reverse_cons, List.reverse_cons]
    exact Vals.append (vals_rev k) (.cons h .nil)
theorem kb2 {f : Addr} {fd : FuncData} (F : L2.FunD K "catches_always" "catches_always" (fnArgs s_catches_always) (fnBody s_catches_always) (fnScope s_catches_always) [] [] f fd) : KBinds K fd ["velocities", "fleeing"] ["fleeing", "velocities"] gA2 gA2 := by
  obtain ⟨oc, od, dV, kV, doc, pm, an, cdv, ct, osl, rfl, l, c, hD, _⟩ := F.ex
  rcases hD with ⟨_, rfl⟩ | ⟨e, _⟩
  · refine ⟨fun s us ws KX hl => ?_, fun {vs us zs ws} r rz => ?_⟩
    · match us, hl with
      | [], hl =>
        have hw : ws.length = 2 := by simpa [gA2] using hl
        match ws, hw with
        | [a, b], _ => exact .of_eq rfl
      | _ :: _, hl => cases hl
    · match vs, us, r with
      | [], [], _ => exact vals_rev rz
      | _ :: _, _ :: _, _ => exact .nil
  · exact absurd rfl e
theorem kb3 {f : Addr} {fd : FuncData} (F : L2.FunD K "is_caught_from" "is_caught_from" (fnArgs s_is_caught_from) (fnBody s_is_caught_from) (fnScope s_is_caught_from) [] [] f fd) : KBinds K fd ["velocities", "fleeing", "bearing"] ["bearing", "velocities", "fleeing"] gA3 gA3 := by
  obtain ⟨oc, od, dV, kV, doc, pm, an, cdv, ct, osl, rfl, l, c, hD, _⟩ := F.ex
  rcases hD with ⟨_, rfl⟩ | ⟨e, _⟩
  · refine ⟨fun s us ws KX hl => ?_, fun {vs us zs ws} r rz => ?_⟩
    · match us, hl with
      | [], hl =>
        have hw : ws.length = 3 := by
          simp [gA3] at hl
          omega
        match ws, hw with
        | [a, b, d], _ => exact .of_eq rfl
      | _ :: _, hl => cases hl
    · match vs, us, r with
      | [], [], _ =>
        match zs, ws, rz with
        | [], [], _ => exact .nil
        | _ :: _, _ :: _, .cons h k => exact Vals.append k (.cons h .nil)
      | _ :: _, _ :: _, _ => exact .nil
  · exact absurd rfl e
theorem isBi_ok (X : K.In h) (G : h.Ns mainGlobals mg) {x : Str} {b : String} (hb : isBi K x b = true) : mg x = some (.builtin b) := by
  unfold isBi at hb
  cases q : PySem.W.nsIn K mainGlobals x with
  | none => rw [q] at hb; cases hb
  | some o =>
    rw [q] at hb
    cases o with
    | none => cases hb
    | some v =>
      cases v with
      | builtin n =>
        have e : n = b := of_decide_eq_true hb
        subst e
        exact PySem.W.mg_of X G q
      | _ => cases hb
theorem isTI_ok {ns : List Int} {v : Value} (hb : isTI K ns v = true) : ∃ a, v = .ref a ∧ ∀ H, Dp K H (.ref a) (.tuple (ns.map PyData.int)) := by
  cases v with
  | ref a =>
    refine ⟨a, rfl, fun H => ?_⟩
    unfold isTI at hb
    cases q : K.lookup a with
    | none => simp only [q] at hb; cases hb
    | some o =>
      simp only [q] at hb
      obtain ⟨oc, od, dt, osl⟩ := o
      cases oc with
      | type c =>
        cases dt with
        | seq its n =>
          obtain ⟨h1, h2⟩ := He.ba hb
          obtain ⟨h3, h4⟩ := He.ba h2
          exact .tup (.inr ⟨_, its, n, q, congrArg Value.type (of_decide_eq_true h1), rfl, of_decide_eq_true h3, He.relAll_ok h4⟩) (DpAll.of_ints ns)
        | _ => cases hb
      | _ => cases dt <;> cases hb
  | _ => cases hb
theorem allTI_ok : ∀ {nss : List (List Int)} {us : List Value}, allTI K nss us = true → ∃ vs : List V, Vals vs us ∧ ∀ H, DpAll K H vs (nss.map fun ns => PyData.tuple (ns.map PyData.int))
  | [], [], _ => ⟨[], .nil, fun _ => .nil⟩
  | [], _ :: _, h => by cases h
  | _ :: _, [], h => by cases h
  | ns :: nss, u :: us, h => by
    obtain ⟨h1, h2⟩ := He.ba (show (isTI K ns u && allTI K nss us) = true from h)
    obtain ⟨a, rfl, ha⟩ := isTI_ok h1
    obtain ⟨vs, r, hv⟩ := allTI_ok h2
    exact ⟨.ref a :: vs, .cons rfl r, fun H => .cons (ha H) (hv H)⟩
theorem isTT_ok {nss : List (List Int)} {a : Addr} (hb : isTT K nss a = true) (H : Hp) : Dp K H (.ref a) (.tuple (nss.map fun ns => PyData.tuple (ns.map PyData.int))) := by
  unfold isTT at hb
  cases q : K.lookup a with
  | none => simp only [q] at hb; cases hb
  | some o =>
    simp only [q] at hb
    obtain ⟨oc, od, dt, osl⟩ := o
    cases oc with
    | type c =>
      cases dt with
      | seq its n =>
        obtain ⟨h1, h2⟩ := He.ba hb
        obtain ⟨h3, h4⟩ := He.ba h2
        obtain ⟨vs, r, hv⟩ := allTI_ok h4
        exact .tup (.inr ⟨_, its, n, q, congrArg Value.type (of_decide_eq_true h1), rfl, of_decide_eq_true h3, r⟩) (hv H)
      | _ => cases hb
    | _ => cases dt <;> cases hb
theorem txt_of (X : K.In h) (G : h.Ns mainGlobals mg) (c : He.SaysD faL fnL K) (b : bxK K = true) : Txt K mg := by
  obtain ⟨b1, b⟩ := He.ba b
  obtain ⟨b2, b⟩ := He.ba b
  obtain ⟨b3, b4⟩ := He.ba b
  exact {

    d_is_whole := df_of X G c 0 (by rfl) fun _ _ _ _ _ _ us hl => match us, hl with | [_], _ => rfl
    d_are_wholes := df_of X G c 1 (by rfl) fun _ _ _ _ _ _ us hl => match us, hl with | [_, _], _ => rfl
    d_common_divisor := df_of X G c 2 (by rfl) fun _ _ _ _ _ _ us hl => match us, hl with | [_], _ => rfl
    d_lowest := df_of X G c 3 (by rfl) fun _ _ _ _ _ _ us hl => match us, hl with | [_], _ => rfl
    d_is_lowest := df_of X G c 4 (by rfl) fun _ _ _ _ _ _ us hl => match us, hl with | [_], _ => rfl
    d_sign := df_of X G c 5 (by rfl) fun _ _ _ _ _ _ us hl => match us, hl with | [_], _ => rfl
    d_ratio := df_of X G c 6 (by rfl) fun _ _ _ _ _ _ us hl => match us, hl with | [_, _], _ => rfl
    d_ratio_less := df_of X G c 7 (by rfl) fun _ _ _ _ _ _ us hl => match us, hl with | [_, _], _ => rfl
    d_ratio_over := df_of X G c 8 (by rfl) fun _ _ _ _ _ _ us hl => match us, hl with | [_, _], _ => rfl
    d_is_lower := df_of X G c 9 (by rfl) fun _ _ _ _ _ _ us hl => match us, hl with | [_, _], _ => rfl
    d_higher_of := df_of X G c 10 (by rfl) fun _ _ _ _ _ _ us hl => match us, hl with | [_, _], _ => rfl
    d_lower_of := df_of X G c 11 (by rfl) fun _ _ _ _ _ _ us hl => match us, hl with | [_, _], _ => rfl
    d_is_vector := df_of X G c 12 (by rfl) fun _ _ _ _ _ _ us hl => match us, hl with | [_], _ => rfl
    d_step_between := df_of X G c 13 (by rfl) fun _ _ _ _ _ _ us hl => match us, hl with | [_, _], _ => rfl
    d_along := df_of X G c 14 (by rfl) fun _ _ _ _ _ _ us hl => match us, hl with | [_, _], _ => rfl
    d_bend := df_of X G c 15 (by rfl) fun _ _ _ _ _ _ us hl => match us, hl with | [_, _], _ => rfl
    d_side_at := df_of X G c 16 (by rfl) fun _ _ _ _ _ _ us hl => match us, hl with | [_, _], _ => rfl
    d_side_left := df_of X G c 17 (by rfl) fun _ _ _ _ _ _ us hl => match us, hl with | [_, _], _ => rfl
    d_value_at := df_of X G c 18 (by rfl) fun _ _ _ _ _ _ us hl => match us, hl with | [_, _], _ => rfl
    d_are_held := df_of X G c 19 (by rfl) fun _ _ _ _ _ _ us hl => match us, hl with | [_, _], _ => rfl
    d_chain := df_of X G c 20 (by rfl) fun _ _ _ _ _ _ us hl => match us, hl with | [_], _ => rfl
    d_is_left := df_of X G c 21 (by rfl) fun _ _ _ _ _ _ us hl => match us, hl with | [_, _, _], _ => rfl
    d_hull := df_of X G c 22 (by rfl) fun _ _ _ _ _ _ us hl => match us, hl with | [_], _ => rfl
    d_is_shape := df_of X G c 23 (by rfl) fun _ _ _ _ _ _ us hl => match us, hl with | [_], _ => rfl
    d_next_corner := df_of X G c 24 (by rfl) fun _ _ _ _ _ _ us hl => match us, hl with | [_, _], _ => rfl
    d_sides := df_of X G c 25 (by rfl) fun _ _ _ _ _ _ us hl => match us, hl with | [_], _ => rfl
    d_has := df_of X G c 26 (by rfl) fun _ _ _ _ _ _ us hl => match us, hl with | [_, _], _ => rfl
    d_check_point := df_of X G c 27 (by rfl) fun _ _ _ _ _ _ us hl => match us, hl with | [_], _ => rfl
    d_check_polygon := df_of X G c 28 (by rfl) fun _ _ _ _ _ _ us hl => match us, hl with | [_], _ => rfl
    d_closing_by := df_of X G c 29 (by rfl) fun _ _ _ _ _ _ us hl => match us, hl with | [_, _, _], _ => rfl
    d_is_good := df_of X G c 30 (by rfl) fun _ _ _ _ _ _ us hl => match us, hl with | [_], _ => rfl
    d_check_bearing := df_of X G c 31 (by rfl) fun _ _ _ _ _ _ us hl => match us, hl with | [_], _ => rfl
    d_closings_of := df_of X G c 32 (by rfl) fun _ _ _ _ _ _ us hl => match us, hl with | [_, _, _], _ => rfl
    d_is_strictly_in := df_of X G c 33 (by rfl) fun _ _ _ _ _ _ us hl => match us, hl with | [_, _], _ => rfl
    d_is_caught_from := dfK_of X G c 34 (by rfl) (fun _ _ _ _ _ _ us hl => match us, hl with | [_, _, _], _ => rfl) kb3
    d_catches_always := dfK_of X G c 35 (by rfl) (fun _ _ _ _ _ _ us hl => match us, hl with | [_, _], _ => rfl) kb2
    d_seen_from := df_of X G c 36 (by rfl) fun _ _ _ _ _ _ us hl => match us, hl with | [_, _], _ => rfl
    d_cone_sides := df_of X G c 37 (by rfl) fun _ _ _ _ _ _ us hl => match us, hl with | [_, _], _ => rfl
    d_bearing_sides := df_of X G c 38 (by rfl) fun _ _ _ _ _ _ us hl => match us, hl with | [_, _], _ => rfl
    d__law_sack := df_of X G c 39 (by rfl) fun _ _ _ _ _ _ us hl => match us, hl with | [_, _], _ => rfl
    d__law_draw := df_of X G c 40 (by rfl) fun _ _ _ _ _ _ us hl => match us, hl with | [_, _], _ => rfl
    d__law_one := df_of X G c 41 (by rfl) fun _ _ _ _ _ _ us hl => match us, hl with | [_, _], _ => rfl
    d__law_gcd := df_of X G c 42 (by rfl) fun _ _ _ _ _ _ us hl => match us, hl with | [_, _], _ => rfl
    d__law_ratio := df_of X G c 43 (by rfl) fun _ _ _ _ _ _ us hl => match us, hl with | [_, _], _ => rfl
    d__law_less := df_of X G c 44 (by rfl) fun _ _ _ _ _ _ us hl => match us, hl with | [_, _], _ => rfl
    d__law_spot := df_of X G c 45 (by rfl) fun _ _ _ _ _ _ us hl => match us, hl with | [_, _, _], _ => rfl
    d__law_said := df_of X G c 46 (by rfl) fun _ _ _ _ _ _ us hl => match us, hl with | [_, _], _ => rfl
    d__law_bend := df_of X G c 47 (by rfl) fun _ _ _ _ _ _ us hl => match us, hl with | [_, _, _], _ => rfl
    d__law_chain := df_of X G c 48 (by rfl) fun _ _ _ _ _ _ us hl => match us, hl with | [_], _ => rfl
    d__law_rim := df_of X G c 49 (by rfl) fun _ _ _ _ _ _ us hl => match us, hl with | [_], _ => rfl
    d__law_dot := df_of X G c 50 (by rfl) fun _ _ _ _ _ _ us hl => match us, hl with | [_], _ => rfl
    d__law_hunt := df_of X G c 51 (by rfl) fun _ _ _ _ _ _ us hl => match us, hl with | [_], _ => rfl
    d__law_span := df_of X G c 52 (by rfl) fun _ _ _ _ _ _ us hl => match us, hl with | [_, _, _], _ => rfl
    d__law_is_row := df_of X G c 53 (by rfl) fun _ _ _ _ _ _ us hl => match us, hl with | [_, _], _ => rfl
    d__law_is_caught := df_of X G c 54 (by rfl) fun _ _ _ _ _ _ us hl => match us, hl with | [_, _, _], _ => rfl
    d__law_are_sides := df_of X G c 55 (by rfl) fun _ _ _ _ _ _ us hl => match us, hl with | [_], _ => rfl
    d__law_is_before := df_of X G c 56 (by rfl) fun _ _ _ _ _ _ us hl => match us, hl with | [_, _], _ => rfl
    d__law_in_turn := df_of X G c 57 (by rfl) fun _ _ _ _ _ _ us hl => match us, hl with | [_], _ => rfl
    d__law_rays := df_of X G c 58 (by rfl) fun _ _ _ _ _ _ us hl => match us, hl with | [_, _, _], _ => rfl
    d__law_right := df_of X G c 59 (by rfl) fun _ _ _ _ _ _ us hl => match us, hl with | [_], _ => rfl
    b_isinstance := He.free_ok X G (c.fact 61 (f := .free "isinstance") (by rfl))
    b_int := He.free_ok X G (c.fact 62 (f := .free "int") (by rfl))
    b_bool := He.free_ok X G (c.fact 63 (f := .free "bool") (by rfl))
    b_tuple := He.free_ok X G (c.fact 64 (f := .free "tuple") (by rfl))
    b_len := He.free_ok X G (c.fact 65 (f := .free "len") (by rfl))
    b_all := He.free_ok X G (c.fact 66 (f := .free "all") (by rfl))
    b_enumerate := He.free_ok X G (c.fact 67 (f := .free "enumerate") (by rfl))
    b_list := He.free_ok X G (c.fact 68 (f := .free "list") (by rfl))
    b_sorted := He.free_ok X G (c.fact 69 (f := .free "sorted") (by rfl))
    b_set := He.free_ok X G (c.fact 70 (f := .free "set") (by rfl))
    b_abs := He.free_ok X G (c.fact 71 (f := .free "abs") (by rfl))
    b_divmod := He.free_ok X G (c.fact 72 (f := .free "divmod") (by rfl))
    b_range := He.free_ok X G (c.fact 73 (f := .free "range") (by rfl))
    b_repr := He.free_ok X G (c.fact 74 (f := .free "repr") (by rfl))
    b_gcd := isBi_ok X G b1
    b_lcm := isBi_ok X G b2
    nought := ⟨_, He.glo_ok X G (c.fact 75 (f := .glo "NOUGHT") (by rfl)), fun H => by
      obtain ⟨a, e, ha⟩ := isTI_ok b3
      cases e
      exact ha H⟩
    round := ⟨_, He.glo_ok X G (c.fact 76 (f := .glo "ROUND") (by rfl)), fun H => isTT_ok b4 H⟩ }
end
end Wf
open PySem PySem.W PySem.Calls PyProof.Rows
theorem PySem.Challenge.cw_windfigure_k70_whole_bearings_that_catch_holds : PySem.Challenge.rw_windfigure_k70_whole_bearings_that_catch.Holds := by
  w_on; o_law
  refine HandSHeadRun.head_imp (r := Wf.RW) (q := Wf.qvW) (H := Wf.hkW) (ob := Wf.obW) (M := 20000) (loose := Wf.looseL) (d := HandSHeadRun.topDef Wf.RW.prog 75) (kwd := []) Wf.obW_eq Wf.hd_run
    (by kernel_rfl) (by kernel_rfl) (by kernel_rfl) (by rfl) (by first | assumption | decide +kernel) (by decide +kernel) ⟨rfl, rfl, rfl, rfl, rfl, by decide +kernel⟩ ?hw ?hc
  case hw => w_witness2
  case hc =>
    refine Wf.walk_ofG (l := PySem.Challenge.rw_windfigure_k70_whole_bearings_that_catch) (n := 63) (k := 10) (x := "_law_script") rfl (by decide) (by kernel_rfl) ⟨rfl, by decide, by decide⟩ ?F
    intro w mg fa h Y G hmg0
    obtain ⟨K, KX, b, c⟩ := Y
    have hmg : mg ("law" : PySem.Str) = some (.ref fa) := by
      have e : (HandSHeadRun.topDef Wf.RW.prog 75).name = ("law" : PySem.Str) := by kernel_rfl
      rw [← e]
      exact hmg0
    have T := Wf.txt_of KX G c b
    obtain ⟨fd, D, F⟩ := Wf.def_of KX G c 60 (x := "law") (n := 75) (by rfl)
    have e := hmg.symm.trans D.mgf
    cases e
    have bd := L2.FunD.bindsA (ps := ["_law_script"]) F fun _ _ _ _ _ _ us hl => match us, hl with | [_], _ => rfl
    exact ⟨K, fd, Wf.spLaw K, KX, fun s v => bd s [v] rfl, fun H a ns hl hS => ⟨ns, H, .cons (.lst hS (L2.DpAll.of_ints ns)) .nil, L2.Same.refl H, hl, fun v d F' H' e g dv => by rw [e] at dv; exact dv.bool_⟩, fun base _ _ => Wf.f_law T D⟩
#print axioms PySem.Challenge.cw_windfigure_k70_whole_bearings_that_catch_holds


