import PyProof.Rows.All
import Wide.All
import OpenK.AllK
import Wide.FinOn
import HandS.ForMost
import HandS.Exc
import HandS.TryOnly
import HandS.TryMany
import HandS.ExcOwn
import HandS.WordsExc
import HandS.Wide
import HandS.Evl
import HandS.Star
import HandS.IsInst
import HandS.ExcInit
import HandS.ExcField
import HandS.ExcIs
import HandS.RaiseMore
import HandS.NoneIn
import HandS.SortInts
import HandS.Flow
import HandS.Style
import HandS.TupAny
import HandS.Walk
import KE.GoesEnum
import KE.KExcSuper
import PySem.Challenge.RW_fourtouch_k64_whole_places_as_texts
import KE.KExcIs
import KE.RegKSuper
set_option Elab.async false
set_option linter.all false
set_option maxRecDepth 100000
set_option maxHeartbeats 4000000
namespace K64
/-! ### Coordinates: four whole numbers, the form, the exchange, the way down -/
structure V4 where
  (p q r s : Int)
deriving DecidableEq
def V4.sum (v : V4) : Int := v.p + v.q + v.r + v.s
def V4.sq (v : V4) : Int := v.p*v.p + v.q*v.q + v.r*v.r + v.s*v.s
def V4.get (v : V4) : Nat → Int
  | 0 => v.p | 1 => v.q | 2 => v.r | _ => v.s
def V4.neg (v : V4) : V4 := ⟨-v.p, -v.q, -v.r, -v.s⟩
/-- the form -/
def Qf (v : V4) : Prop := 2 * v.sq = v.sum * v.sum + 1
def beh (v : V4) : Nat → V4
  | 0 => ⟨-v.p, v.q+2*v.p, v.r+2*v.p, v.s+2*v.p⟩
  | 1 => ⟨v.p+2*v.q, -v.q, v.r+2*v.q, v.s+2*v.q⟩
  | 2 => ⟨v.p+2*v.r, v.q+2*v.r, -v.r, v.s+2*v.r⟩
  | _ => ⟨v.p+2*v.s, v.q+2*v.s, v.r+2*v.s, -v.s⟩
def unitV : Nat → V4
  | 0 => ⟨1,0,0,0⟩ | 1 => ⟨0,1,0,0⟩ | 2 => ⟨0,0,1,0⟩ | _ => ⟨0,0,0,1⟩
def IsUnit (v : V4) : Prop := v = ⟨1,0,0,0⟩ ∨ v = ⟨0,1,0,0⟩ ∨ v = ⟨0,0,1,0⟩ ∨ v = ⟨0,0,0,1⟩
instance (v : V4) : Decidable (IsUnit v) := by unfold IsUnit; infer_instance
def negs (v : V4) : List Nat := [0,1,2,3].filter (fun k => decide (v.get k < 0))
def nxt (v : V4) : Option Nat := if (negs v).length ≠ 1 ∨ v.sum ≤ 1 then none else (negs v)[0]?
theorem four_cases {k : Nat} (h : k < 4) : k = 0 ∨ k = 1 ∨ k = 2 ∨ k = 3 := by omega
theorem Qf.beh {v : V4} (h : Qf v) (k : Nat) : Qf (beh v k) := by
  unfold Qf V4.sq V4.sum at *
  match k with
  | 0 => simp only [K64.beh]; grind
  | 1 => simp only [K64.beh]; grind
  | 2 => simp only [K64.beh]; grind
  | (n+3) => simp only [K64.beh]; grind
theorem sum_beh (v : V4) {k : Nat} (h : k < 4) : (beh v k).sum = v.sum + 4 * v.get k := by
  rcases four_cases h with rfl | rfl | rfl | rfl <;> simp only [beh, V4.sum, V4.get] <;> omega
theorem get_beh (v : V4) {k : Nat} (h : k < 4) : (beh v k).get k = - v.get k := by
  rcases four_cases h with rfl | rfl | rfl | rfl <;> rfl
theorem get_beh_ne (v : V4) {k j : Nat} (h : k < 4) (hj : j < 4) (n : j ≠ k) : (beh v k).get j = v.get j + 2 * v.get k := by
  rcases four_cases h with rfl | rfl | rfl | rfl <;> rcases four_cases hj with rfl | rfl | rfl | rfl <;> first | rfl | exact absurd rfl n
theorem beh_beh (v : V4) {k : Nat} (h : k < 4) : beh (beh v k) k = v := by
  rcases four_cases h with rfl | rfl | rfl | rfl <;> simp only [beh] <;> cases v <;> simp only [V4.mk.injEq] <;> omega
theorem beh_zero {v : V4} {k : Nat} (h : k < 4) (z : v.get k = 0) : beh v k = v := by
  rcases four_cases h with rfl | rfl | rfl | rfl <;> simp only [V4.get] at z <;> cases v <;> simp only [beh, V4.mk.injEq] <;> simp only at z <;> omega
theorem sq_nonneg (a : Int) : 0 ≤ a * a := by
  rcases Int.le_total 0 a with h | h
  · exact Int.mul_nonneg h h
  · exact Int.mul_nonneg_of_nonpos_of_nonpos h h
/-- two below 0: the sum is not above 1 -/
theorem two_neg {p q r s : Int} (h : 2 * (p*p+q*q+r*r+s*s) = (p+q+r+s)*(p+q+r+s) + 1) (hp : p < 0) (hq : q < 0) : p+q+r+s ≤ 1 := by
  apply Classical.byContradiction
  intro hc
  have h1 := sq_nonneg (r - s)
  have h2 := sq_nonneg (p - q)
  have h3 : 0 ≤ (r+s-3) * (-p-q-2) := Int.mul_nonneg (by omega) (by omega)
  have h4 : (r+s)*(r+s) + (r-s)*(r-s) + (p+q)*(p+q) + (p-q)*(p-q) = (p+q+r+s)*(p+q+r+s) + 1 := by grind
  have h5 : 2 * ((r+s)*(-p-q)) ≤ 1 := by grind
  have h6 : 0 ≤ (r+s-3)*2 := by omega
  grind
theorem one_neg {v : V4} (h : Qf v) (hs : 1 < v.sum) {i j : Nat} (hi : i < 4) (hj : j < 4) (ni : v.get i < 0) (nj : v.get j < 0) : i = j := by
  unfold Qf V4.sq V4.sum at *
  apply Classical.byContradiction
  intro hn
  have key : v.p+v.q+v.r+v.s ≤ 1 := by
    rcases four_cases hi with rfl | rfl | rfl | rfl <;> rcases four_cases hj with rfl | rfl | rfl | rfl <;> simp only [V4.get] at ni nj <;> first
      | exact absurd rfl hn
      | exact two_neg h ni nj
      | (have := two_neg (p := v.p) (q := v.r) (r := v.q) (s := v.s) (by grind) (by assumption) (by assumption); omega)
      | (have := two_neg (p := v.p) (q := v.s) (r := v.q) (s := v.r) (by grind) (by assumption) (by assumption); omega)
      | (have := two_neg (p := v.q) (q := v.r) (r := v.p) (s := v.s) (by grind) (by assumption) (by assumption); omega)
      | (have := two_neg (p := v.q) (q := v.s) (r := v.p) (s := v.r) (by grind) (by assumption) (by assumption); omega)
      | (have := two_neg (p := v.r) (q := v.s) (r := v.p) (s := v.q) (by grind) (by assumption) (by assumption); omega)
      | (have := two_neg (p := v.p) (q := v.q) (r := v.r) (s := v.s) (by grind) (by assumption) (by assumption); omega)
  omega
theorem sum_odd {v : V4} (h : Qf v) : v.sum % 2 = 1 := by
  unfold Qf at h
  rcases Int.emod_two_eq v.sum with z | z
  · exfalso
    have e : v.sum = 2 * (v.sum / 2) := by omega
    rw [e] at h
    have : 2 * v.sq = 2 * (2 * ((v.sum/2)*(v.sum/2))) + 1 := by grind
    omega
  · exact z
theorem small_of_sq {a : Int} (h : a * a ≤ 1) : -1 ≤ a ∧ a ≤ 1 := by
  constructor
  · apply Classical.byContradiction
    intro c
    have : 0 ≤ (-a-2)*(-a+2) := Int.mul_nonneg (by omega) (by omega)
    have : a*a - 4 = (-a-2)*(-a+2) := by grind
    omega
  · apply Classical.byContradiction
    intro c
    have : 0 ≤ (a-2)*(a+2) := Int.mul_nonneg (by omega) (by omega)
    have : a*a - 4 = (a-2)*(a+2) := by grind
    omega
theorem unit_of_sum {v : V4} (h : Qf v) (hs : v.sum = 1) : IsUnit v := by
  unfold Qf at h
  rw [hs] at h
  obtain ⟨p, q, r, s⟩ := v
  simp only [V4.sq, V4.sum] at h hs
  have a1 := sq_nonneg p
  have a2 := sq_nonneg q
  have a3 := sq_nonneg r
  have a4 := sq_nonneg s
  have b1 := small_of_sq (a := p) (by omega)
  have b2 := small_of_sq (a := q) (by omega)
  have b3 := small_of_sq (a := r) (by omega)
  have b4 := small_of_sq (a := s) (by omega)
  have c1 : p = -1 ∨ p = 0 ∨ p = 1 := by omega
  have c2 : q = -1 ∨ q = 0 ∨ q = 1 := by omega
  have c3 : r = -1 ∨ r = 0 ∨ r = 1 := by omega
  unfold IsUnit
  simp only [V4.mk.injEq]
  rcases c1 with rfl | rfl | rfl <;> rcases c2 with rfl | rfl | rfl <;> rcases c3 with rfl | rfl | rfl <;>
    (have c4 : s = -1 ∨ s = 0 ∨ s = 1 := by omega) <;> rcases c4 with rfl | rfl | rfl <;> omega
theorem IsUnit.sum {v : V4} (h : IsUnit v) : v.sum = 1 := by
  rcases h with rfl | rfl | rfl | rfl <;> rfl
theorem IsUnit.get {v : V4} (h : IsUnit v) {k : Nat} (hk : k < 4) : v.get k = 0 ∨ (v.get k = 1 ∧ v = unitV k) := by
  rcases h with rfl | rfl | rfl | rfl <;> rcases four_cases hk with rfl | rfl | rfl | rfl <;> simp [V4.get, unitV]
theorem unitV_unit (k : Nat) : IsUnit (unitV k) := by
  unfold unitV IsUnit
  split <;> simp
theorem mem_negs {v : V4} {k : Nat} : k ∈ negs v ↔ k < 4 ∧ v.get k < 0 := by
  unfold negs
  rw [List.mem_filter, decide_eq_true_eq]
  constructor
  · rintro ⟨h, g⟩
    refine ⟨?_, g⟩
    simp at h
    omega
  · rintro ⟨h, g⟩
    refine ⟨?_, g⟩
    simp
    omega
theorem nxt_none {v : V4} (h : v.sum ≤ 1) : nxt v = none := if_pos (.inr h)
theorem nxt_some {v : V4} {k : Nat} (h : nxt v = some k) : k < 4 ∧ v.get k < 0 ∧ 1 < v.sum := by
  unfold nxt at h
  split at h
  · cases h
  · rename_i c
    have m : k ∈ negs v := List.mem_of_getElem? h
    have q := mem_negs.mp m
    exact ⟨q.1, q.2, by omega⟩
theorem nodup_filter4 (f : Nat → Bool) : ([0,1,2,3].filter f).Nodup := List.Sublist.nodup List.filter_sublist (by decide)
theorem nxt_of {v : V4} (h : Qf v) (hs : 1 < v.sum) {k : Nat} (hk : k < 4) (nk : v.get k < 0) : nxt v = some k := by
  have m : k ∈ negs v := mem_negs.mpr ⟨hk, nk⟩
  have all : ∀ j ∈ negs v, j = k := fun j hj => one_neg h hs (mem_negs.mp hj).1 hk (mem_negs.mp hj).2 nk
  have nd : (negs v).Nodup := nodup_filter4 _
  have e : negs v = [k] := by
    match hn : negs v with
    | [] => rw [hn] at m; cases m
    | [a] =>
      have := all a (by rw [hn]; simp)
      rw [this]
    | a :: b :: l =>
      have h1 := all a (by rw [hn]; simp)
      have h2 := all b (by rw [hn]; simp)
      rw [hn, h1, h2] at nd
      simp at nd
  unfold nxt
  rw [e, if_neg (by simp; omega)]
  rfl
/-- the way down ends within n exchanges, where T holds -/
inductive Ends (T : V4 → Prop) : Nat → V4 → Prop
  | stop {n : Nat} {v : V4} : nxt v = none → T v → Ends T n v
  | step {n : Nat} {v : V4} {k : Nat} : nxt v = some k → Ends T n (beh v k) → Ends T (n+1) v
theorem Ends.mono {T : V4 → Prop} {n : Nat} {v : V4} (h : Ends T n v) : ∀ {m : Nat}, n ≤ m → Ends T m v := by
  induction h with
  | stop a b => exact fun _ => .stop a b
  | step a _ ih =>
    intro m hm
    match m, hm with
    | m+1, hm => exact .step a (ih (by omega))
theorem Ends.weaken {T S : V4 → Prop} {n : Nat} {v : V4} (h : Ends T n v) (f : ∀ v, T v → S v) : Ends S n v := by
  induction h with
  | stop a b => exact .stop a (f _ b)
  | step a _ ih => exact .step a ih
theorem Ends.beh {T : V4 → Prop} (hT : ∀ v, Qf v → nxt v = none → T v → ∀ j, j < 4 → Ends T 1 (beh v j)) {n : Nat} {v : V4} (h : Ends T n v) (hq : Qf v) {j : Nat} (hj : j < 4) : Ends T (n+1) (K64.beh v j) := by
  cases h with
  | stop a b => exact (hT v hq a b j hj).mono (by omega)
  | @step n _ k a t =>
    obtain ⟨hk, nk, hs⟩ := nxt_some a
    by_cases e : j = k
    · subst e
      exact t.mono (by omega)
    · have jn : ¬ v.get j < 0 := fun z => e (one_neg hq hs hj hk z nk)
      by_cases z : v.get j = 0
      · rw [beh_zero hj z]
        exact (Ends.step a t).mono (by omega)
      · refine Ends.step (k := j) (nxt_of (hq.beh j) ?_ hj ?_) ?_
        · rw [sum_beh v hj]; omega
        · rw [get_beh v hj]; omega
        · rw [beh_beh v hj]; exact .step a t
theorem true_beh (v : V4) (hq : Qf v) (hn : nxt v = none) (_ : True) (j : Nat) (hj : j < 4) : Ends (fun _ => True) 1 (beh v j) := by
  cases e : nxt (beh v j) with
  | none => exact .stop e trivial
  | some k =>
    obtain ⟨hk, nk, hs⟩ := nxt_some e
    have e1 := sum_beh v hj
    have e2 := get_beh v hj
    by_cases hv : v.get j < 0
    · have q1 : ¬ 1 < v.sum := fun z => by rw [nxt_of hq z hj hv] at hn; cases hn
      omega
    · by_cases hz : v.get j = 0
      · rw [beh_zero hj hz] at e
        rw [hn] at e
        cases e
      · have : k = j := one_neg (hq.beh j) hs hk hj nk (by omega)
        subst this
        refine .step e ?_
        rw [beh_beh v hj]
        exact .stop hn trivial
theorem unit_beh (v : V4) (_ : Qf v) (hn : nxt v = none) (u : IsUnit v) (j : Nat) (hj : j < 4) : Ends IsUnit 1 (beh v j) := by
  rcases u.get hj with z | ⟨_, rfl⟩
  · rw [beh_zero hj z]
    exact .stop hn u
  · rcases four_cases hj with rfl | rfl | rfl | rfl
    · exact .step (k := 0) (by decide) (.stop (by decide) (by decide))
    · exact .step (k := 1) (by decide) (.stop (by decide) (by decide))
    · exact .step (k := 2) (by decide) (.stop (by decide) (by decide))
    · exact .step (k := 3) (by decide) (.stop (by decide) (by decide))
theorem Ends.sum_pos {n : Nat} {v : V4} (h : Ends IsUnit n v) : 1 ≤ v.sum := by
  cases h with
  | stop a b => rw [b.sum]; omega
  | step a _ => exact Int.le_of_lt (nxt_some a).2.2
/-- exchanges, one after another -/
def behs (v : V4) (w : List Nat) : V4 := w.foldl beh v
theorem Ends.behs {T : V4 → Prop} (hT : ∀ v, Qf v → nxt v = none → T v → ∀ j, j < 4 → Ends T 1 (K64.beh v j)) : ∀ (w : List Nat) {n : Nat} {v : V4}, Ends T n v → Qf v → (∀ k ∈ w, k < 4) → Ends T (n + w.length) (K64.behs v w)
  | [], n, v, h, _, _ => h
  | k :: w, n, v, h, hq, hw => by
    have := Ends.behs hT w (Ends.beh hT h hq (hw k (by simp))) (hq.beh k) (fun x hx => hw x (by simp [hx]))
    show Ends T (n + (k :: w).length) (K64.behs (K64.beh v k) w)
    rw [List.length_cons]
    exact this.mono (by omega)
theorem Qf.behs : ∀ (w : List Nat) {v : V4}, Qf v → Qf (behs v w)
  | [], _, h => h
  | k :: w, _, h => Qf.behs w (h.beh k)
/-- the way down, at most n exchanges: the numbers and what is left -/
def run : Nat → V4 → List Nat × V4
  | 0, v => ([], v)
  | n+1, v => match nxt v with
    | none => ([], v)
    | some k => (k :: (run n (beh v k)).1, (run n (beh v k)).2)
theorem run_none {n : Nat} {v : V4} (h : nxt v = none) : run n v = ([], v) := by
  cases n with
  | zero => rfl
  | succ n => unfold run; rw [h]
theorem run_some {n : Nat} {v : V4} {k : Nat} (h : nxt v = some k) : run (n+1) v = (k :: (run n (beh v k)).1, (run n (beh v k)).2) := by
  show (match nxt v with | none => ([], v) | some k => (k :: (run n (beh v k)).1, (run n (beh v k)).2)) = _
  rw [h]
theorem Ends.run_end {T : V4 → Prop} {n : Nat} {v : V4} (h : Ends T n v) : nxt (run n v).2 = none ∧ T (run n v).2 := by
  induction h with
  | stop a b => rw [run_none a]; exact ⟨a, b⟩
  | step a _ ih => rw [run_some a]; exact ih
theorem run_letters : ∀ (n : Nat) (v : V4), (∀ k ∈ (run n v).1, k < 4) ∧ (run n v).1.length ≤ n
  | 0, v => ⟨(fun k h => nomatch h), Nat.le_refl _⟩
  | n+1, v => by
    cases e : nxt v with
    | none => rw [run_none e]; exact ⟨(fun k h => nomatch h), Nat.zero_le _⟩
    | some k =>
      rw [run_some e]
      have ih := run_letters n (beh v k)
      refine ⟨fun j hj => ?_, by simp; exact ih.2⟩
      rcases List.mem_cons.mp hj with rfl | hj
      · exact (nxt_some e).1
      · exact ih.1 j hj
theorem run_behs : ∀ (n : Nat) (v : V4), behs v (run n v).1 = (run n v).2
  | 0, v => rfl
  | n+1, v => by
    cases e : nxt v with
    | none => rw [run_none e]; rfl
    | some k =>
      rw [run_some e]
      exact run_behs n (beh v k)
/-! ### The bound: curvatures -/
def dot (v b : V4) : Int := v.p*b.p + v.q*b.q + v.r*b.r + v.s*b.s
/-- the curvatures behind an exchange -/
def exb (b : V4) : Nat → V4
  | 0 => ⟨2*(b.q+b.r+b.s) - b.p, b.q, b.r, b.s⟩
  | 1 => ⟨b.p, 2*(b.p+b.r+b.s) - b.q, b.r, b.s⟩
  | 2 => ⟨b.p, b.q, 2*(b.p+b.q+b.s) - b.r, b.s⟩
  | _ => ⟨b.p, b.q, b.r, 2*(b.p+b.q+b.r) - b.s⟩
def Desc (b : V4) : Prop := 2 * b.sq = b.sum * b.sum
theorem Desc.exb {b : V4} (h : Desc b) (k : Nat) : Desc (exb b k) := by
  unfold Desc V4.sq V4.sum at *
  match k with
  | 0 => simp only [K64.exb]; grind
  | 1 => simp only [K64.exb]; grind
  | 2 => simp only [K64.exb]; grind
  | (n+3) => simp only [K64.exb]; grind
theorem dot_beh (v b : V4) (k : Nat) : dot (beh v k) (exb b k) = dot v b := by
  unfold dot
  match k with
  | 0 => simp only [K64.exb, K64.beh]; grind
  | 1 => simp only [K64.exb, K64.beh]; grind
  | 2 => simp only [K64.exb, K64.beh]; grind
  | (n+3) => simp only [K64.exb, K64.beh]; grind
theorem key1 {b1 b2 b3 b4 p q r s : Int} (hb : 2*(b1*b1+b2*b2+b3*b3+b4*b4) = (b1+b2+b3+b4)*(b1+b2+b3+b4)) (hB : 0 < b1+b2+b3+b4)
    (h : 2 * (p*p+q*q+r*r+s*s) = (p+q+r+s)*(p+q+r+s) + 1) (hs : 1 < p+q+r+s) (hp : p < 0) : b2+b3+b4-b1 < 2*(p*b1+q*b2+r*b3+s*b4) := by
  -- z = 2v - (-1,1,1,1)
  obtain ⟨z1, e1⟩ : ∃ z, z = 2*p+1 := ⟨_, rfl⟩
  obtain ⟨z2, e2⟩ : ∃ z, z = 2*q-1 := ⟨_, rfl⟩
  obtain ⟨z3, e3⟩ : ∃ z, z = 2*r-1 := ⟨_, rfl⟩
  obtain ⟨z4, e4⟩ : ∃ z, z = 2*s-1 := ⟨_, rfl⟩
  obtain ⟨B, eB⟩ : ∃ z, z = b1+b2+b3+b4 := ⟨_, rfl⟩
  obtain ⟨Z, eZ⟩ : ∃ z, z = z1+z2+z3+z4 := ⟨_, rfl⟩
  obtain ⟨P, eP⟩ : ∃ z, z = z1*b1+z2*b2+z3*b3+z4*b4 := ⟨_, rfl⟩
  have hP : P = 2*(p*b1+q*b2+r*b3+s*b4) - (b2+b3+b4-b1) := by subst eP e1 e2 e3 e4; grind
  have hZ : 0 < Z := by omega
  rw [← eB] at hB hb
  have hQ : 2*(z1*z1+z2*z2+z3*z3+z4*z4) - Z*Z = 8 + 16*p := by subst eZ e1 e2 e3 e4; grind
  have ident : 16*(B*Z*P) = 2*((2*B*z1+Z*(2*b1-B))*(2*B*z1+Z*(2*b1-B)) + (2*B*z2+Z*(2*b2-B))*(2*B*z2+Z*(2*b2-B)) + (2*B*z3+Z*(2*b3-B))*(2*B*z3+Z*(2*b3-B)) + (2*B*z4+Z*(2*b4-B))*(2*B*z4+Z*(2*b4-B)))
      - 4*(B*B)*(2*(z1*z1+z2*z2+z3*z3+z4*z4) - Z*Z) := by
    clear hQ hP h hs hp hB hZ
    subst eP
    grind
  have n1 := sq_nonneg (2*B*z1+Z*(2*b1-B))
  have n2 := sq_nonneg (2*B*z2+Z*(2*b2-B))
  have n3 := sq_nonneg (2*B*z3+Z*(2*b3-B))
  have n4 := sq_nonneg (2*B*z4+Z*(2*b4-B))
  rw [hQ] at ident
  have BB : 0 < B*B := Int.mul_pos hB hB
  have t : 0 ≤ (B*B) * (-1 - p) := Int.mul_nonneg (Int.le_of_lt BB) (by omega)
  have t2 : (B*B) * (-1-p) = -(B*B) - B*B*p := by grind
  have t3 : 4*(B*B)*(8+16*p) = 32*(B*B) + 64*(B*B*p) := by grind
  have pos : 0 < B*Z*P := by omega
  have BZ : 0 < B*Z := Int.mul_pos hB hZ
  have : 0 < P := by
    apply Classical.byContradiction
    intro c
    have : B*Z*P ≤ 0 := Int.mul_nonpos_of_nonneg_of_nonpos (Int.le_of_lt BZ) (by omega)
    omega
  omega
theorem key {v b : V4} (hb : Desc b) (hB : 0 < b.sum) (h : Qf v) (hs : 1 < v.sum) {k : Nat} (hk : k < 4) (nk : v.get k < 0) : b.sum - 2 * b.get k < 2 * dot v b := by
  unfold Desc Qf V4.sum V4.sq dot at *
  rcases four_cases hk with rfl | rfl | rfl | rfl <;> simp only [V4.get] at *
  · have := key1 hb hB h hs nk; omega
  · have := key1 (b1 := b.q) (b2 := b.p) (b3 := b.r) (b4 := b.s) (p := v.q) (q := v.p) (r := v.r) (s := v.s) (by grind) (by omega) (by grind) (by omega) nk; omega
  · have := key1 (b1 := b.r) (b2 := b.p) (b3 := b.q) (b4 := b.s) (p := v.r) (q := v.p) (r := v.q) (s := v.s) (by grind) (by omega) (by grind) (by omega) nk; omega
  · have := key1 (b1 := b.s) (b2 := b.p) (b3 := b.q) (b4 := b.r) (p := v.s) (q := v.p) (r := v.q) (s := v.r) (by grind) (by omega) (by grind) (by omega) nk; omega
/-- each two curvatures have a sum above 0 -/
def Pairs (b : V4) : Prop := 1 ≤ b.p + b.q ∧ 1 ≤ b.p + b.r ∧ 1 ≤ b.p + b.s ∧ 1 ≤ b.q + b.r ∧ 1 ≤ b.q + b.s ∧ 1 ≤ b.r + b.s
/-- where the gaps g apart from the last number are at least g, the way down is short -/
theorem ends_pos : ∀ (n : Nat) (v b : V4) (last : Nat) (g : Int), Qf v → Desc b → 0 < b.sum → Pairs b → (∀ j, j < 4 → j ≠ last → g ≤ b.sum - 2 * b.get j) → (last < 4 → 0 ≤ v.get last) → 0 ≤ g → 2 * dot v b ≤ g + 2 * n → Ends (fun _ => True) n v := by
  intro n
  induction n with
  | zero =>
    intro v b last g hq hb hB hp hg hl hg0 hd
    cases e : nxt v with
    | none => exact .stop e trivial
    | some k =>
      exfalso
      obtain ⟨hk, nk, hs⟩ := nxt_some e
      have kl : k ≠ last := fun z => by
        have := hl (z ▸ hk)
        rw [← z] at this
        omega
      have := key hb hB hq hs hk nk
      have := hg k hk kl
      omega
  | succ n ih =>
    intro v b last g hq hb hB hp hg hl hg0 hd
    cases e : nxt v with
    | none => exact .stop e trivial
    | some k =>
      obtain ⟨hk, nk, hs⟩ := nxt_some e
      have kl : k ≠ last := fun z => by
        have := hl (z ▸ hk)
        rw [← z] at this
        omega
      have gk := hg k hk kl
      refine .step e (ih (beh v k) (exb b k) k (g+2) (hq.beh k) (hb.exb k) ?_ ?_ ?_ ?_ (by omega) ?_)
      · rcases four_cases hk with rfl | rfl | rfl | rfl <;> simp only [exb, V4.sum, V4.get] at * <;> omega
      · unfold Pairs at *
        rcases four_cases hk with rfl | rfl | rfl | rfl <;> simp only [exb, V4.sum, V4.get] at * <;> omega
      · intro j hj jk
        unfold Pairs at hp
        rcases four_cases hk with rfl | rfl | rfl | rfl <;> rcases four_cases hj with rfl | rfl | rfl | rfl <;> simp only [exb, V4.sum, V4.get] at * <;> first | omega | exact absurd rfl jk
      · intro _
        rw [get_beh v hk]
        omega
      · rw [dot_beh]
        push_cast at hd
        omega
/-- along a strip (the lines at the first two places) -/
theorem strip01 (c e : Int) (M : Nat) (hc : 1 ≤ c) (hM : c * e ≤ M) : ∀ (K : Nat) (v : V4), Qf v → v.r + v.s = e → -v.r ≤ K * e → -v.s ≤ K * e → Ends (fun _ => True) (K + 1 + M) v := by
  intro K
  induction K with
  | zero =>
    intro v hq he h1 h2
    exact step0 0 v hq he h1 h2 (fun z => absurd z (by omega))
  | succ K ih =>
    intro v hq he h1 h2
    exact step0 (K+1) v hq he h1 h2 (fun _ => ih)
where
  step0 (K : Nat) (v : V4) (hq : Qf v) (he : v.r + v.s = e) (h1 : -v.r ≤ K * e) (h2 : -v.s ≤ K * e)
      (ih : 0 < K → ∀ v : V4, Qf v → v.r + v.s = e → -v.r ≤ (K-1 : Nat) * e → -v.s ≤ (K-1 : Nat) * e → Ends (fun _ => True) (K - 1 + 1 + M) v) : Ends (fun _ => True) (K + 1 + M) v := by
    cases en : nxt v with
    | none => exact .stop en trivial
    | some k =>
      obtain ⟨hk, nk, hs⟩ := nxt_some en
      have hb : Desc ⟨0,0,c,c⟩ := by unfold Desc V4.sq V4.sum; simp only; grind
      have ky := key hb (by simp only [V4.sum]; omega) hq hs hk nk
      have ed : dot v ⟨0,0,c,c⟩ = c * e := by rw [← he]; unfold dot; simp only; grind
      rw [ed] at ky
      simp only [V4.sum] at ky
      have line : ∀ {b' : V4} {k : Nat}, k < 4 → v.get k < 0 → nxt v = some k → exb ⟨0,0,c,c⟩ k = b' → 0 < b'.sum → Pairs b' → (∀ j, j < 4 → j ≠ k → 0 ≤ b'.sum - 2 * b'.get j) → Ends (fun _ => True) (K + 1 + M) v := by
        intro b' k hk nk en eb hB hp hg
        have : K + 1 + M = (K + M) + 1 := by omega
        rw [this]
        refine .step en ((ends_pos M (beh v k) b' k 0 (hq.beh k) (eb ▸ hb.exb k) hB hp hg (fun _ => ?_) (by omega) ?_).mono (by omega))
        · rw [get_beh v hk]; omega
        · rw [← eb, dot_beh, ed]; omega
      rcases four_cases hk with rfl | rfl | rfl | rfl
      · refine line hk nk en rfl ?_ ?_ ?_
        · simp only [exb, V4.sum]; omega
        · unfold Pairs; simp only [exb]; omega
        · intro j hj jk
          rcases four_cases hj with rfl | rfl | rfl | rfl <;> simp only [exb, V4.sum, V4.get] <;> omega
      · refine line hk nk en rfl ?_ ?_ ?_
        · simp only [exb, V4.sum]; omega
        · unfold Pairs; simp only [exb]; omega
        · intro j hj jk
          rcases four_cases hj with rfl | rfl | rfl | rfl <;> simp only [exb, V4.sum, V4.get] <;> omega
      · simp only [V4.get] at nk ky
        have K0 : 0 < K := by
          apply Nat.pos_of_ne_zero
          rintro rfl
          simp at h1
          omega
        have e1 : ((K : Nat) : Int) * e = ((K - 1 : Nat) : Int) * e + e := by
          have : ((K : Nat) : Int) = ((K - 1 : Nat) : Int) + 1 := by omega
          rw [this]; grind
        have e2 : K + 1 + M = (K - 1 + 1 + M) + 1 := by omega
        have en0 : 0 ≤ ((K - 1 : Nat) : Int) * e := by
          refine Int.mul_nonneg (by omega) ?_
          apply Classical.byContradiction
          intro z
          have : c * e ≤ 0 := Int.mul_nonpos_of_nonneg_of_nonpos (by omega) (by omega)
          omega
        rw [e2]
        refine .step en (ih K0 _ (hq.beh 2) ?_ ?_ ?_) <;> simp only [beh] <;> omega
      · simp only [V4.get] at nk ky
        have K0 : 0 < K := by
          apply Nat.pos_of_ne_zero
          rintro rfl
          simp at h2
          omega
        have e1 : ((K : Nat) : Int) * e = ((K - 1 : Nat) : Int) * e + e := by
          have : ((K : Nat) : Int) = ((K - 1 : Nat) : Int) + 1 := by omega
          rw [this]; grind
        have e2 : K + 1 + M = (K - 1 + 1 + M) + 1 := by omega
        have en0 : 0 ≤ ((K - 1 : Nat) : Int) * e := by
          refine Int.mul_nonneg (by omega) ?_
          apply Classical.byContradiction
          intro z
          have : c * e ≤ 0 := Int.mul_nonpos_of_nonneg_of_nonpos (by omega) (by omega)
          omega
        rw [e2]
        refine .step en (ih K0 _ (hq.beh 3) ?_ ?_ ?_) <;> simp only [beh] <;> omega
/-- along a strip (the lines at the first and the third place) -/
theorem strip02 (c e : Int) (M : Nat) (hc : 1 ≤ c) (hM : c * e ≤ M) : ∀ (K : Nat) (v : V4), Qf v → v.q + v.s = e → -v.q ≤ K * e → -v.s ≤ K * e → Ends (fun _ => True) (K + 1 + M) v := by
  intro K
  induction K with
  | zero =>
    intro v hq he h1 h2
    exact step0 0 v hq he h1 h2 (fun z => absurd z (by omega))
  | succ K ih =>
    intro v hq he h1 h2
    exact step0 (K+1) v hq he h1 h2 (fun _ => ih)
where
  step0 (K : Nat) (v : V4) (hq : Qf v) (he : v.q + v.s = e) (h1 : -v.q ≤ K * e) (h2 : -v.s ≤ K * e)
      (ih : 0 < K → ∀ v : V4, Qf v → v.q + v.s = e → -v.q ≤ (K-1 : Nat) * e → -v.s ≤ (K-1 : Nat) * e → Ends (fun _ => True) (K - 1 + 1 + M) v) : Ends (fun _ => True) (K + 1 + M) v := by
    cases en : nxt v with
    | none => exact .stop en trivial
    | some k =>
      obtain ⟨hk, nk, hs⟩ := nxt_some en
      have hb : Desc ⟨0,c,0,c⟩ := by unfold Desc V4.sq V4.sum; simp only; grind
      have ky := key hb (by simp only [V4.sum]; omega) hq hs hk nk
      have ed : dot v ⟨0,c,0,c⟩ = c * e := by rw [← he]; unfold dot; simp only; grind
      rw [ed] at ky
      simp only [V4.sum] at ky
      have line : ∀ {b' : V4} {k : Nat}, k < 4 → v.get k < 0 → nxt v = some k → exb ⟨0,c,0,c⟩ k = b' → 0 < b'.sum → Pairs b' → (∀ j, j < 4 → j ≠ k → 0 ≤ b'.sum - 2 * b'.get j) → Ends (fun _ => True) (K + 1 + M) v := by
        intro b' k hk nk en eb hB hp hg
        have : K + 1 + M = (K + M) + 1 := by omega
        rw [this]
        refine .step en ((ends_pos M (beh v k) b' k 0 (hq.beh k) (eb ▸ hb.exb k) hB hp hg (fun _ => ?_) (by omega) ?_).mono (by omega))
        · rw [get_beh v hk]; omega
        · rw [← eb, dot_beh, ed]; omega
      rcases four_cases hk with rfl | rfl | rfl | rfl
      · refine line hk nk en rfl ?_ ?_ ?_
        · simp only [exb, V4.sum]; omega
        · unfold Pairs; simp only [exb]; omega
        · intro j hj jk
          rcases four_cases hj with rfl | rfl | rfl | rfl <;> simp only [exb, V4.sum, V4.get] <;> omega
      · simp only [V4.get] at nk ky
        have K0 : 0 < K := by
          apply Nat.pos_of_ne_zero
          rintro rfl
          simp at h1
          omega
        have e1 : ((K : Nat) : Int) * e = ((K - 1 : Nat) : Int) * e + e := by
          have : ((K : Nat) : Int) = ((K - 1 : Nat) : Int) + 1 := by omega
          rw [this]; grind
        have e2 : K + 1 + M = (K - 1 + 1 + M) + 1 := by omega
        have en0 : 0 ≤ ((K - 1 : Nat) : Int) * e := by
          refine Int.mul_nonneg (by omega) ?_
          apply Classical.byContradiction
          intro z
          have : c * e ≤ 0 := Int.mul_nonpos_of_nonneg_of_nonpos (by omega) (by omega)
          omega
        rw [e2]
        refine .step en (ih K0 _ (hq.beh 1) ?_ ?_ ?_) <;> simp only [beh] <;> omega
      · refine line hk nk en rfl ?_ ?_ ?_
        · simp only [exb, V4.sum]; omega
        · unfold Pairs; simp only [exb]; omega
        · intro j hj jk
          rcases four_cases hj with rfl | rfl | rfl | rfl <;> simp only [exb, V4.sum, V4.get] <;> omega
      · simp only [V4.get] at nk ky
        have K0 : 0 < K := by
          apply Nat.pos_of_ne_zero
          rintro rfl
          simp at h2
          omega
        have e1 : ((K : Nat) : Int) * e = ((K - 1 : Nat) : Int) * e + e := by
          have : ((K : Nat) : Int) = ((K - 1 : Nat) : Int) + 1 := by omega
          rw [this]; grind
        have e2 : K + 1 + M = (K - 1 + 1 + M) + 1 := by omega
        have en0 : 0 ≤ ((K - 1 : Nat) : Int) * e := by
          refine Int.mul_nonneg (by omega) ?_
          apply Classical.byContradiction
          intro z
          have : c * e ≤ 0 := Int.mul_nonpos_of_nonneg_of_nonpos (by omega) (by omega)
          omega
        rw [e2]
        refine .step en (ih K0 _ (hq.beh 3) ?_ ?_ ?_) <;> simp only [beh] <;> omega
end K64


namespace K64
/-! ### Circles and fours -/
structure Ci where
  (b c x y : Int)
deriving DecidableEq
def Ci.ok (C : Ci) : Prop := C.x*C.x + C.y*C.y - C.b*C.c = 1
instance (C : Ci) : Decidable C.ok := by unfold Ci.ok; infer_instance
def dbl (A C : Ci) : Int := 2*(A.x*C.x + A.y*C.y) - (A.b*C.c + C.b*A.c)
def Outw (A C : Ci) : Prop := A.b + C.b > 0 ∨ (A.b + C.b = 0 ∧ A.c + C.c > 0)
def Touch (A C : Ci) : Prop := dbl A C = -2 ∧ Outw A C
structure Fo where
  (a b c d : Ci)
deriving DecidableEq
def Fo.get (F : Fo) : Nat → Ci
  | 0 => F.a | 1 => F.b | 2 => F.c | _ => F.d
def Fo.list (F : Fo) : List Ci := [F.a, F.b, F.c, F.d]
def Fo.map (L : Ci → Ci) (F : Fo) : Fo := ⟨L F.a, L F.b, L F.c, L F.d⟩
def Fo.bs (F : Fo) : V4 := ⟨F.a.b, F.b.b, F.c.b, F.d.b⟩
/-- the other circle -/
def oth (F : Fo) (k : Nat) : Ci := ⟨2*(F.a.b+F.b.b+F.c.b+F.d.b) - 3*(F.get k).b, 2*(F.a.c+F.b.c+F.c.c+F.d.c) - 3*(F.get k).c, 2*(F.a.x+F.b.x+F.c.x+F.d.x) - 3*(F.get k).x, 2*(F.a.y+F.b.y+F.c.y+F.d.y) - 3*(F.get k).y⟩
def Fo.set (F : Fo) (k : Nat) (C : Ci) : Fo := match k with
  | 0 => ⟨C, F.b, F.c, F.d⟩ | 1 => ⟨F.a, C, F.c, F.d⟩ | 2 => ⟨F.a, F.b, C, F.d⟩ | _ => ⟨F.a, F.b, F.c, C⟩
def exF (F : Fo) (k : Nat) : Fo := F.set k (oth F k)
def dV (F : Fo) (C : Ci) : V4 := ⟨dbl F.a C, dbl F.b C, dbl F.c C, dbl F.d C⟩
def eV (F : Fo) (C : Ci) : V4 := ⟨2 * dbl F.a C - (dV F C).sum, 2 * dbl F.b C - (dV F C).sum, 2 * dbl F.c C - (dV F C).sum, 2 * dbl F.d C - (dV F C).sum⟩
def Whole (e : V4) : Prop := e.p % 8 = 0 ∧ e.q % 8 = 0 ∧ e.r % 8 = 0 ∧ e.s % 8 = 0
instance (e : V4) : Decidable (Whole e) := by unfold Whole; infer_instance
def V4.eighth (e : V4) : V4 := ⟨e.p / 8, e.q / 8, e.r / 8, e.s / 8⟩
def parts (F : Fo) (C : Ci) : Option V4 := if Whole (eV F C) then some (eV F C).eighth else none
theorem eV_ex (F : Fo) (C : Ci) (k : Nat) : eV (exF F k) C = beh (eV F C) k := by
  unfold eV dV V4.sum dbl exF
  match k with
  | 0 => simp only [beh, Fo.set, oth, Fo.get, V4.mk.injEq]; refine ⟨?_, ?_, ?_, ?_⟩ <;> grind
  | 1 => simp only [beh, Fo.set, oth, Fo.get, V4.mk.injEq]; refine ⟨?_, ?_, ?_, ?_⟩ <;> grind
  | 2 => simp only [beh, Fo.set, oth, Fo.get, V4.mk.injEq]; refine ⟨?_, ?_, ?_, ?_⟩ <;> grind
  | (n+3) => simp only [beh, Fo.set, oth, Fo.get, V4.mk.injEq]; refine ⟨?_, ?_, ?_, ?_⟩ <;> grind
theorem whole_beh {e : V4} (k : Nat) (h : Whole e) : Whole (beh e k) ∧ (beh e k).eighth = beh e.eighth k := by
  unfold Whole at *
  match k with
  | 0 => simp only [beh, V4.eighth, V4.mk.injEq]; omega
  | 1 => simp only [beh, V4.eighth, V4.mk.injEq]; omega
  | 2 => simp only [beh, V4.eighth, V4.mk.injEq]; omega
  | (n+3) => simp only [beh, V4.eighth, V4.mk.injEq]; omega
theorem parts_ex (F : Fo) (C : Ci) {k : Nat} (hk : k < 4) : parts (exF F k) C = (parts F C).map (fun v => beh v k) := by
  unfold parts
  rw [eV_ex]
  by_cases h : Whole (eV F C)
  · obtain ⟨h1, h2⟩ := whole_beh k h
    rw [if_pos h, if_pos h1, h2]
    rfl
  · have : ¬ Whole (beh (eV F C) k) := fun z => h (by
      have := (whole_beh k z).1
      rwa [beh_beh _ hk] at this)
    rw [if_neg h, if_neg this]
    rfl
/-- v tells a circle -/
def lin (v : V4) (F : Fo) : Ci := ⟨v.p*F.a.b+v.q*F.b.b+v.r*F.c.b+v.s*F.d.b, v.p*F.a.c+v.q*F.b.c+v.r*F.c.c+v.s*F.d.c, v.p*F.a.x+v.q*F.b.x+v.r*F.c.x+v.s*F.d.x, v.p*F.a.y+v.q*F.b.y+v.r*F.c.y+v.s*F.d.y⟩
def Ci.smul (n : Int) (C : Ci) : Ci := ⟨n*C.b, n*C.c, n*C.x, n*C.y⟩
def Frame (F : Fo) : Prop := ∀ C, lin (eV F C) F = Ci.smul 8 C
theorem lin_ex (v : V4) (F : Fo) (k : Nat) : lin (beh v k) (exF F k) = lin v F := by
  unfold lin exF
  match k with
  | 0 => simp only [beh, Fo.set, oth, Fo.get, Ci.mk.injEq]; refine ⟨?_, ?_, ?_, ?_⟩ <;> grind
  | 1 => simp only [beh, Fo.set, oth, Fo.get, Ci.mk.injEq]; refine ⟨?_, ?_, ?_, ?_⟩ <;> grind
  | 2 => simp only [beh, Fo.set, oth, Fo.get, Ci.mk.injEq]; refine ⟨?_, ?_, ?_, ?_⟩ <;> grind
  | (n+3) => simp only [beh, Fo.set, oth, Fo.get, Ci.mk.injEq]; refine ⟨?_, ?_, ?_, ?_⟩ <;> grind
theorem Frame.ex {F : Fo} (h : Frame F) (k : Nat) : Frame (exF F k) := fun C => by
  rw [eV_ex, lin_ex, h C]
theorem Frame.parts {F : Fo} (h : Frame F) {C : Ci} {v : V4} (hp : K64.parts F C = some v) : lin v F = C := by
  unfold K64.parts at hp
  split at hp
  · rename_i w
    cases hp
    have e := h C
    unfold Whole at w
    obtain ⟨w1, w2, w3, w4⟩ := w
    unfold lin Ci.smul V4.eighth at *
    obtain ⟨cb, cc, cx, cy⟩ := C
    simp only [Ci.mk.injEq] at *
    have a1 : (eV F ⟨cb,cc,cx,cy⟩).p = 8 * ((eV F ⟨cb,cc,cx,cy⟩).p / 8) := by omega
    have a2 : (eV F ⟨cb,cc,cx,cy⟩).q = 8 * ((eV F ⟨cb,cc,cx,cy⟩).q / 8) := by omega
    have a3 : (eV F ⟨cb,cc,cx,cy⟩).r = 8 * ((eV F ⟨cb,cc,cx,cy⟩).r / 8) := by omega
    have a4 : (eV F ⟨cb,cc,cx,cy⟩).s = 8 * ((eV F ⟨cb,cc,cx,cy⟩).s / 8) := by omega
    generalize (eV F ⟨cb,cc,cx,cy⟩).p / 8 = v1 at *
    generalize (eV F ⟨cb,cc,cx,cy⟩).q / 8 = v2 at *
    generalize (eV F ⟨cb,cc,cx,cy⟩).r / 8 = v3 at *
    generalize (eV F ⟨cb,cc,cx,cy⟩).s / 8 = v4 at *
    rw [a1, a2, a3, a4] at e
    obtain ⟨e1, e2, e3, e4⟩ := e
    refine ⟨?_, ?_, ?_, ?_⟩
    · have : 8 * (v1*F.a.b+v2*F.b.b+v3*F.c.b+v4*F.d.b) = 8*cb := by rw [← e1]; grind
      omega
    · have : 8 * (v1*F.a.c+v2*F.b.c+v3*F.c.c+v4*F.d.c) = 8*cc := by rw [← e2]; grind
      omega
    · have : 8 * (v1*F.a.x+v2*F.b.x+v3*F.c.x+v4*F.d.x) = 8*cx := by rw [← e3]; grind
      omega
    · have : 8 * (v1*F.a.y+v2*F.b.y+v3*F.c.y+v4*F.d.y) = 8*cy := by rw [← e4]; grind
      omega
  · cases hp
theorem Frame.qf {F : Fo} (h : Frame F) {C : Ci} (hC : C.ok) {v : V4} (hp : K64.parts F C = some v) : Qf v := by
  have e := h C
  unfold K64.parts at hp
  split at hp
  · rename_i w
    cases hp
    -- sum of e_i d_i = 16
    have t : (eV F C).p * dbl F.a C + (eV F C).q * dbl F.b C + (eV F C).r * dbl F.c C + (eV F C).s * dbl F.d C = 16 := by
      have l : (eV F C).p * dbl F.a C + (eV F C).q * dbl F.b C + (eV F C).r * dbl F.c C + (eV F C).s * dbl F.d C = dbl (lin (eV F C) F) C := by
        generalize eV F C = u
        unfold dbl lin
        simp only
        grind
      rw [l, e]
      unfold Ci.ok at hC
      unfold dbl Ci.smul
      simp only
      grind
    have s1 : (eV F C).p = 2 * dbl F.a C - (dbl F.a C + dbl F.b C + dbl F.c C + dbl F.d C) := rfl
    have s2 : (eV F C).q = 2 * dbl F.b C - (dbl F.a C + dbl F.b C + dbl F.c C + dbl F.d C) := rfl
    have s3 : (eV F C).r = 2 * dbl F.c C - (dbl F.a C + dbl F.b C + dbl F.c C + dbl F.d C) := rfl
    have s4 : (eV F C).s = 2 * dbl F.d C - (dbl F.a C + dbl F.b C + dbl F.c C + dbl F.d C) := rfl
    unfold Whole at w
    unfold Qf V4.sq V4.sum V4.eighth
    generalize dbl F.a C = d1 at *
    generalize dbl F.b C = d2 at *
    generalize dbl F.c C = d3 at *
    generalize dbl F.d C = d4 at *
    have a1 : (eV F C).p = 8 * ((eV F C).p / 8) := by omega
    have a2 : (eV F C).q = 8 * ((eV F C).q / 8) := by omega
    have a3 : (eV F C).r = 8 * ((eV F C).r / 8) := by omega
    have a4 : (eV F C).s = 8 * ((eV F C).s / 8) := by omega
    simp only
    generalize (eV F C).p / 8 = v1 at *
    generalize (eV F C).q / 8 = v2 at *
    generalize (eV F C).r / 8 = v3 at *
    generalize (eV F C).s / 8 = v4 at *
    rw [a1, a2, a3, a4] at t
    rw [a1] at s1
    rw [a2] at s2
    rw [a3] at s3
    rw [a4] at s4
    have t1 : d1 = 4*v1 - 2*(v1+v2+v3+v4) := by omega
    have t2 : d2 = 4*v2 - 2*(v1+v2+v3+v4) := by omega
    have t3 : d3 = 4*v3 - 2*(v1+v2+v3+v4) := by omega
    have t4 : d4 = 4*v4 - 2*(v1+v2+v3+v4) := by omega
    subst t1 t2 t3 t4
    have q : 16 * (2 * (v1*v1+v2*v2+v3*v3+v4*v4)) = 16 * ((v1+v2+v3+v4)*(v1+v2+v3+v4) + 1) := by grind
    omega
  · cases hp
/-! ### Fours stay fours -/
def Valid (F : Fo) : Prop := (∀ k, k < 4 → (F.get k).ok) ∧ ∀ i j, i < 4 → j < 4 → i ≠ j → Touch (F.get i) (F.get j)
theorem dbl_comm (A C : Ci) : dbl A C = dbl C A := by unfold dbl; grind
theorem Outw.symm {A C : Ci} (h : Outw A C) : Outw C A := by unfold Outw at *; omega
theorem Touch.symm {A C : Ci} (h : Touch A C) : Touch C A := ⟨(dbl_comm C A).trans h.1, h.2.symm⟩
theorem Valid.of {F : Fo} (h1 : F.a.ok) (h2 : F.b.ok) (h3 : F.c.ok) (h4 : F.d.ok) (t12 : Touch F.a F.b) (t13 : Touch F.a F.c) (t14 : Touch F.a F.d) (t23 : Touch F.b F.c) (t24 : Touch F.b F.d) (t34 : Touch F.c F.d) : Valid F := by
  refine ⟨fun k hk => ?_, fun i j hi hj n => ?_⟩
  · rcases four_cases hk with rfl | rfl | rfl | rfl <;> assumption
  · rcases four_cases hi with rfl | rfl | rfl | rfl <;> rcases four_cases hj with rfl | rfl | rfl | rfl <;> first
      | exact absurd rfl n
      | assumption
      | (apply Touch.symm; assumption)
/-- two null vectors: the one points outward if the other one does and they do not part -/
theorem null_out {b c x y b' c' x' y' : Int} (h1 : x*x+y*y = b*c) (h2 : x'*x'+y'*y' = b'*c') (o : b > 0 ∨ (b = 0 ∧ c > 0)) (h : 2*(x*x'+y*y') - (b*c'+b'*c) < 0) : b' > 0 ∨ (b' = 0 ∧ c' > 0) := by
  apply Classical.byContradiction
  intro n
  have n1 := sq_nonneg x
  have n2 := sq_nonneg y
  have n3 := sq_nonneg x'
  have n4 := sq_nonneg y'
  have b0 : 0 ≤ b := by omega
  have c0 : 0 ≤ c := by
    apply Classical.byContradiction
    intro z
    have bp : 0 < b := by omega
    have : b * c < 0 := Int.mul_neg_of_pos_of_neg bp (by omega)
    omega
  have b'0 : b' ≤ 0 := by omega
  have c'0 : c' ≤ 0 := by
    apply Classical.byContradiction
    intro z
    have bn : b' < 0 := by omega
    have : b' * c' < 0 := Int.mul_neg_of_neg_of_pos bn (by omega)
    omega
  have p1 : 0 ≤ b * (-c') := Int.mul_nonneg b0 (by omega)
  have p2 : 0 ≤ (-b') * c := Int.mul_nonneg (by omega) c0
  obtain ⟨t, et⟩ : ∃ t, t = x*x'+y*y' := ⟨_, rfl⟩
  obtain ⟨u, eu⟩ : ∃ u, u = b * (-c') + (-b') * c := ⟨_, rfl⟩
  have hu : 0 ≤ u := by omega
  have hlt : u < -2*t := by
    rw [← et] at h
    have : b*c' = -(b * (-c')) := by grind
    have : b'*c = -((-b') * c) := by grind
    omega
  have q1 : 0 < (-2*t-u)*(-2*t+u) := Int.mul_pos (by omega) (by omega)
  have q2 : u*u = 4*((b*c)*(b'*c')) + (b*c' - b'*c)*(b*c'-b'*c) := by subst eu; grind
  have q3 : t*t + (x*y'-y*x')*(x*y'-y*x') = (b*c)*(b'*c') := by rw [← h1, ← h2]; subst et; grind
  have q4 := sq_nonneg (b*c' - b'*c)
  have q5 := sq_nonneg (x*y'-y*x')
  have q6 : (-2*t-u)*(-2*t+u) = 4*(t*t) - u*u := by grind
  omega
theorem null_sum {A C : Ci} (h1 : A.ok) (h2 : C.ok) (h : dbl A C = -2) : (A.x+C.x)*(A.x+C.x) + (A.y+C.y)*(A.y+C.y) = (A.b+C.b)*(A.c+C.c) := by
  unfold Ci.ok dbl at *
  grind
/-- a circle that touches A and C by doubles, and A and C touch: it points outward with A -/
theorem outw_of {A C N : Ci} (hA : A.ok) (hC : C.ok) (hN : N.ok) (t : Touch A C) (d1 : dbl N A = -2) (d2 : dbl N C = -2) : Outw N A := by
  have z1 := null_sum hA hC t.1
  have z2 := null_sum hN hA d1
  refine null_out z1 z2 t.2 ?_
  have := t.1
  unfold Ci.ok dbl at *
  grind
theorem oth_ok {F : Fo} (h : Valid F) {k : Nat} (hk : k < 4) : (oth F k).ok := by
  obtain ⟨h1, h2⟩ := h
  have o1 := h1 0 (by decide)
  have o2 := h1 1 (by decide)
  have o3 := h1 2 (by decide)
  have o4 := h1 3 (by decide)
  have t12 := (h2 0 1 (by decide) (by decide) (by decide)).1
  have t13 := (h2 0 2 (by decide) (by decide) (by decide)).1
  have t14 := (h2 0 3 (by decide) (by decide) (by decide)).1
  have t23 := (h2 1 2 (by decide) (by decide) (by decide)).1
  have t24 := (h2 1 3 (by decide) (by decide) (by decide)).1
  have t34 := (h2 2 3 (by decide) (by decide) (by decide)).1
  unfold Ci.ok dbl at *
  rcases four_cases hk with rfl | rfl | rfl | rfl <;> simp only [oth, Fo.get] at * <;> grind
theorem oth_dbl {F : Fo} (h : Valid F) {k j : Nat} (hk : k < 4) (hj : j < 4) (n : j ≠ k) : dbl (oth F k) (F.get j) = -2 := by
  obtain ⟨h1, h2⟩ := h
  have o1 := h1 0 (by decide)
  have o2 := h1 1 (by decide)
  have o3 := h1 2 (by decide)
  have o4 := h1 3 (by decide)
  have t12 := (h2 0 1 (by decide) (by decide) (by decide)).1
  have t13 := (h2 0 2 (by decide) (by decide) (by decide)).1
  have t14 := (h2 0 3 (by decide) (by decide) (by decide)).1
  have t23 := (h2 1 2 (by decide) (by decide) (by decide)).1
  have t24 := (h2 1 3 (by decide) (by decide) (by decide)).1
  have t34 := (h2 2 3 (by decide) (by decide) (by decide)).1
  clear h1 h2
  unfold Ci.ok dbl at *
  rcases four_cases hk with rfl | rfl | rfl | rfl <;> rcases four_cases hj with rfl | rfl | rfl | rfl <;> first
    | exact absurd rfl n
    | (simp only [oth, Fo.get] at *; grind)
theorem set_get (F : Fo) (C : Ci) {k j : Nat} (hk : k < 4) (hj : j < 4) : (F.set k C).get j = if j = k then C else F.get j := by
  rcases four_cases hk with rfl | rfl | rfl | rfl <;> rcases four_cases hj with rfl | rfl | rfl | rfl <;> rfl
theorem two_others {k : Nat} (j : Nat) (hk : k < 4) (hj : j < 4) (n : j ≠ k) : ∃ m, m < 4 ∧ m ≠ k ∧ m ≠ j := by
  rcases four_cases hk with rfl | rfl | rfl | rfl <;> rcases four_cases hj with rfl | rfl | rfl | rfl <;> first
    | exact absurd rfl n
    | exact ⟨0, by decide, by decide, by decide⟩ | exact ⟨1, by decide, by decide, by decide⟩ | exact ⟨2, by decide, by decide, by decide⟩ | exact ⟨3, by decide, by decide, by decide⟩
theorem oth_touch {F : Fo} (h : Valid F) {k j : Nat} (hk : k < 4) (hj : j < 4) (n : j ≠ k) : Touch (oth F k) (F.get j) := by
  refine ⟨oth_dbl h hk hj n, ?_⟩
  obtain ⟨m, hm, mk, mj⟩ := two_others j hk hj n
  exact outw_of (h.1 j hj) (h.1 m hm) (oth_ok h hk) (h.2 j m hj hm (Ne.symm mj)) (oth_dbl h hk hj n) (oth_dbl h hk hm mk)
theorem Valid.ex {F : Fo} (h : Valid F) {k : Nat} (hk : k < 4) : Valid (exF F k) := by
  refine ⟨fun j hj => ?_, fun i j hi hj n => ?_⟩
  · unfold exF
    rw [set_get F _ hk hj]
    split
    · exact oth_ok h hk
    · exact h.1 j hj
  · unfold exF
    rw [set_get F _ hk hi, set_get F _ hk hj]
    by_cases e1 : i = k
    · have e2 : j ≠ k := fun z => n (e1.trans z.symm)
      rw [if_pos e1, if_neg e2]
      exact oth_touch h hk hj e2
    · rw [if_neg e1]
      by_cases e2 : j = k
      · rw [if_pos e2]
        exact (oth_touch h hk hi e1).symm
      · rw [if_neg e2]
        exact h.2 i j hi hj n
theorem eV_own {F : Fo} (h : Valid F) {k : Nat} (hk : k < 4) : parts F (F.get k) = some (unitV k) := by
  obtain ⟨h1, h2⟩ := h
  have sf : ∀ C : Ci, C.ok → dbl C C = 2 := fun C hC => by unfold Ci.ok dbl at *; grind
  have t12 := (h2 0 1 (by decide) (by decide) (by decide)).1
  have t13 := (h2 0 2 (by decide) (by decide) (by decide)).1
  have t14 := (h2 0 3 (by decide) (by decide) (by decide)).1
  have t23 := (h2 1 2 (by decide) (by decide) (by decide)).1
  have t24 := (h2 1 3 (by decide) (by decide) (by decide)).1
  have t34 := (h2 2 3 (by decide) (by decide) (by decide)).1
  have o1 := sf _ (h1 0 (by decide))
  have o2 := sf _ (h1 1 (by decide))
  have o3 := sf _ (h1 2 (by decide))
  have o4 := sf _ (h1 3 (by decide))
  have u12 := dbl_comm F.b F.a
  have u13 := dbl_comm F.c F.a
  have u14 := dbl_comm F.d F.a
  have u23 := dbl_comm F.c F.b
  have u24 := dbl_comm F.d F.b
  have u34 := dbl_comm F.d F.c
  simp only [Fo.get] at t12 t13 t14 t23 t24 t34 o1 o2 o3 o4
  rw [t12] at u12
  rw [t13] at u13
  rw [t14] at u14
  rw [t23] at u23
  rw [t24] at u24
  rw [t34] at u34
  have key : eV F (F.get k) = match k with | 0 => ⟨8,0,0,0⟩ | 1 => ⟨0,8,0,0⟩ | 2 => ⟨0,0,8,0⟩ | _ => ⟨0,0,0,8⟩ := by
    unfold eV dV V4.sum
    rcases four_cases hk with rfl | rfl | rfl | rfl <;> simp only [Fo.get]
    · rw [o1, u12, u13, u14]; rfl
    · rw [t12, o2, u23, u24]; rfl
    · rw [t13, t23, o3, u34]; rfl
    · rw [t14, t24, t34, o4]; rfl
  unfold parts
  rw [key]
  rcases four_cases hk with rfl | rfl | rfl | rfl <;> rfl
/-- exchanged at a word -/
def exFs (F : Fo) (w : List Nat) : Fo := w.foldl exF F
theorem Valid.exs : ∀ (w : List Nat) {F : Fo}, Valid F → (∀ k ∈ w, k < 4) → Valid (exFs F w)
  | [], _, h, _ => h
  | k :: w, _, h, hw => Valid.exs w (h.ex (hw k (by simp))) (fun x hx => hw x (by simp [hx]))
theorem Frame.exs : ∀ (w : List Nat) {F : Fo}, Frame F → Frame (exFs F w)
  | [], _, h => h
  | k :: w, _, h => Frame.exs w (h.ex k)
theorem parts_exs : ∀ (w : List Nat) (F : Fo) (C : Ci), (∀ k ∈ w, k < 4) → parts (exFs F w) C = (parts F C).map (fun v => behs v w)
  | [], F, C, _ => by
    show parts F C = _
    cases parts F C <;> rfl
  | k :: w, F, C, hw => by
    show parts (exFs (exF F k) w) C = _
    rw [parts_exs w _ C (fun x hx => hw x (by simp [hx])), parts_ex F C (hw k (by simp))]
    cases parts F C <;> rfl
theorem unit_qf (k : Nat) : Qf (unitV k) := by
  unfold unitV Qf
  split <;> decide
/-- a circle of the heap is reached -/
theorem heap_reach : ∀ (w : List Nat) {F : Fo} {k : Nat}, Valid F → (∀ j ∈ w, j < 4) → k < 4 → ∃ v, parts F ((exFs F w).get k) = some v ∧ Ends IsUnit w.length v ∧ Qf v
  | [], F, k, h, _, hk => ⟨_, eV_own h hk, .stop (by unfold unitV; split <;> decide) (unitV_unit k), unit_qf k⟩
  | j :: w, F, k, h, hw, hk => by
    have hj := hw j (by simp)
    obtain ⟨v, hv, he, hq⟩ := heap_reach w (h.ex hj) (fun x hx => hw x (by simp [hx])) hk
    refine ⟨beh v j, ?_, Ends.beh unit_beh he hq hj, hq.beh j⟩
    show parts F ((exFs (exF F j) w).get k) = _
    rw [parts_ex F _ hj] at hv
    cases e : parts F ((exFs (exF F j) w).get k) with
    | none => rw [e] at hv; cases hv
    | some u =>
      rw [e] at hv
      cases hv
      show some u = some (beh (beh u j) j)
      rw [beh_beh u hj]
/-! ### The opposite -/
def Ci.opp (C : Ci) : Ci := ⟨0 - C.b, 0 - C.c, 0 - C.x, 0 - C.y⟩
theorem opp_ok {C : Ci} (h : C.ok) : C.opp.ok := by unfold Ci.ok Ci.opp at *; simp only; grind
theorem eV_opp (F : Fo) (C : Ci) : eV F C.opp = (eV F C).neg := by
  unfold eV dV V4.sum dbl Ci.opp V4.neg
  simp only [V4.mk.injEq]
  refine ⟨?_, ?_, ?_, ?_⟩ <;> grind
theorem parts_opp {F : Fo} {C : Ci} {v : V4} (h : parts F C = some v) : parts F C.opp = some v.neg := by
  unfold parts at *
  rw [eV_opp]
  split at h
  · rename_i w
    cases h
    unfold Whole at w
    have : Whole (eV F C).neg := by unfold Whole V4.neg; simp only; omega
    rw [if_pos this]
    unfold V4.eighth V4.neg
    simp only [Option.some.injEq, V4.mk.injEq]
    omega
  · cases h
theorem opp_absent {n : Nat} {v : V4} (h : Ends IsUnit n v) : nxt v.neg = none ∧ ¬ IsUnit v.neg := by
  have s := h.sum_pos
  have e : v.neg.sum = - v.sum := by unfold V4.neg V4.sum; simp only; omega
  exact ⟨nxt_none (by omega), fun u => by have := u.sum; omega⟩
end K64


namespace K64
/-! ### Laid elsewhere -/
def rotC (C : Ci) : Ci := ⟨C.b, C.c, 0 - C.y, C.x⟩
def rotC' (C : Ci) : Ci := ⟨C.b, C.c, C.y, 0 - C.x⟩
def flipC (C : Ci) : Ci := ⟨C.b, C.c, 0 - C.x, C.y⟩
def movC (s t : Int) (C : Ci) : Ci := ⟨C.b, C.c + 2*(C.x*s + C.y*t) + C.b*(s*s+t*t), C.x + C.b*s, C.y + C.b*t⟩
structure Iso (L L' : Ci → Ci) : Prop where
  dbl : ∀ A C, dbl (L A) (L C) = K64.dbl A C
  b : ∀ C, (L C).b = C.b
  back : ∀ C, L (L' C) = C
  forth : ∀ C, L' (L C) = C
  lin : ∀ v F, K64.lin v (Fo.map L F) = L (K64.lin v F)
  smul : ∀ n C, L (Ci.smul n C) = Ci.smul n (L C)
  out : ∀ A C, A.ok → C.ok → K64.dbl A C = -2 → Outw A C → Outw (L A) (L C)
theorem ok_iff (C : Ci) : C.ok ↔ dbl C C = 2 := by
  unfold Ci.ok dbl
  constructor <;> intro h <;> grind
theorem Iso.ok {L L' : Ci → Ci} (h : Iso L L') {C : Ci} (hC : C.ok) : (L C).ok := by
  rw [ok_iff] at *
  rw [h.dbl, hC]
theorem Iso.comp {L L' M M' : Ci → Ci} (h : Iso L L') (g : Iso M M') : Iso (fun C => M (L C)) (fun C => L' (M' C)) where
  dbl A C := by rw [g.dbl, h.dbl]
  b C := by rw [g.b, h.b]
  back C := by rw [h.back, g.back]
  forth C := by rw [g.forth, h.forth]
  lin v F := by
    have : Fo.map (fun C => M (L C)) F = Fo.map M (Fo.map L F) := rfl
    rw [this, g.lin, h.lin]
  smul n C := by rw [h.smul, g.smul]
  out A C a c d o := g.out _ _ (h.ok a) (h.ok c) (by rw [h.dbl, d]) (h.out A C a c d o)
theorem iso_id : Iso (fun C => C) (fun C => C) := ⟨fun _ _ => rfl, fun _ => rfl, fun _ => rfl, fun _ => rfl, fun _ _ => rfl, fun _ _ => rfl, fun _ _ _ _ _ o => o⟩
theorem iso_rot : Iso rotC rotC' where
  dbl A C := by unfold dbl rotC; simp only; grind
  b C := rfl
  back C := by obtain ⟨b, c, x, y⟩ := C; simp only [rotC, rotC', Ci.mk.injEq, true_and, and_true]; omega
  forth C := by obtain ⟨b, c, x, y⟩ := C; simp only [rotC, rotC', Ci.mk.injEq, true_and]; omega
  lin v F := by unfold K64.lin Fo.map rotC; simp only [Ci.mk.injEq]; refine ⟨?_, ?_, ?_, ?_⟩ <;> grind
  smul n C := by unfold Ci.smul rotC; simp only [Ci.mk.injEq]; refine ⟨?_, ?_, ?_, ?_⟩ <;> grind
  out A C _ _ _ o := o
theorem iso_flip : Iso flipC flipC where
  dbl A C := by unfold dbl flipC; simp only; grind
  b C := rfl
  back C := by obtain ⟨b, c, x, y⟩ := C; simp only [flipC, Ci.mk.injEq, true_and, and_true]; omega
  forth C := by obtain ⟨b, c, x, y⟩ := C; simp only [flipC, Ci.mk.injEq, true_and, and_true]; omega
  lin v F := by unfold K64.lin Fo.map flipC; simp only [Ci.mk.injEq]; refine ⟨?_, ?_, ?_, ?_⟩ <;> grind
  smul n C := by unfold Ci.smul flipC; simp only [Ci.mk.injEq]; refine ⟨?_, ?_, ?_, ?_⟩ <;> grind
  out A C _ _ _ o := o
theorem iso_mov (s t : Int) : Iso (movC s t) (movC (-s) (-t)) where
  dbl A C := by unfold dbl movC; simp only; grind
  b C := rfl
  back C := by unfold movC; cases C; simp only [Ci.mk.injEq]; refine ⟨?_, ?_, ?_, ?_⟩ <;> grind
  forth C := by unfold movC; cases C; simp only [Ci.mk.injEq]; refine ⟨?_, ?_, ?_, ?_⟩ <;> grind
  lin v F := by unfold K64.lin Fo.map movC; simp only [Ci.mk.injEq]; refine ⟨?_, ?_, ?_, ?_⟩ <;> grind
  smul n C := by unfold Ci.smul movC; simp only [Ci.mk.injEq]; refine ⟨?_, ?_, ?_, ?_⟩ <;> grind
  out A C a c d o := by
    have z := null_sum a c d
    unfold Outw at *
    rcases o with o | ⟨o1, o2⟩
    · exact .inl o
    · refine .inr ⟨o1, ?_⟩
      rw [o1] at z
      have n1 := sq_nonneg (A.x+C.x)
      have n2 := sq_nonneg (A.y+C.y)
      have z1 : (A.x+C.x)*(A.x+C.x) = 0 := by omega
      have z2 : (A.y+C.y)*(A.y+C.y) = 0 := by omega
      have x0 : A.x + C.x = 0 := by rcases Int.mul_eq_zero.mp z1 with h | h <;> exact h
      have y0 : A.y + C.y = 0 := by rcases Int.mul_eq_zero.mp z2 with h | h <;> exact h
      have e : (movC s t A).c + (movC s t C).c = (A.c + C.c) + 2*((A.x+C.x)*s + (A.y+C.y)*t) + (A.b+C.b)*(s*s+t*t) := by unfold movC; simp only; grind
      rw [e, x0, y0, o1]
      omega
theorem fget_map (L : Ci → Ci) (F : Fo) (k : Nat) : (Fo.map L F).get k = L (F.get k) := by
  match k with
  | 0 => rfl
  | 1 => rfl
  | 2 => rfl
  | (n+3) => rfl
theorem Valid.map {L L' : Ci → Ci} (h : Iso L L') {F : Fo} (v : Valid F) : Valid (Fo.map L F) := by
  refine ⟨fun k hk => ?_, fun i j hi hj n => ?_⟩
  · rw [fget_map]; exact h.ok (v.1 k hk)
  · rw [fget_map, fget_map]
    have t := v.2 i j hi hj n
    exact ⟨(h.dbl _ _).trans t.1, h.out _ _ (v.1 i hi) (v.1 j hj) t.1 t.2⟩
theorem eV_map {L L' : Ci → Ci} (h : Iso L L') (F : Fo) (C : Ci) : eV (Fo.map L F) C = eV F (L' C) := by
  have e : ∀ A, K64.dbl (L A) C = K64.dbl A (L' C) := fun A => by rw [← h.dbl A, h.back]
  unfold eV dV Fo.map
  simp only [e]
theorem parts_map {L L' : Ci → Ci} (h : Iso L L') (F : Fo) (C : Ci) : parts (Fo.map L F) C = parts F (L' C) := by
  unfold parts
  rw [eV_map h]
theorem Frame.map {L L' : Ci → Ci} (h : Iso L L') {F : Fo} (v : Frame F) : Frame (Fo.map L F) := fun C => by
  rw [eV_map h, h.lin, v (L' C), h.smul, h.back]
/-! ### the order -/
def Fo.turn (F : Fo) : Fo := ⟨F.b, F.c, F.d, F.a⟩
def Fo.rev (F : Fo) : Fo := ⟨F.d, F.c, F.b, F.a⟩
def V4.turn (v : V4) : V4 := ⟨v.q, v.r, v.s, v.p⟩
def V4.rev (v : V4) : V4 := ⟨v.s, v.r, v.q, v.p⟩
theorem Valid.turn {F : Fo} (h : Valid F) : Valid F.turn := by
  obtain ⟨h1, h2⟩ := h
  exact .of (h1 1 (by decide)) (h1 2 (by decide)) (h1 3 (by decide)) (h1 0 (by decide)) (h2 1 2 (by decide) (by decide) (by decide)) (h2 1 3 (by decide) (by decide) (by decide)) (h2 1 0 (by decide) (by decide) (by decide))
    (h2 2 3 (by decide) (by decide) (by decide)) (h2 2 0 (by decide) (by decide) (by decide)) (h2 3 0 (by decide) (by decide) (by decide))
theorem Valid.rev {F : Fo} (h : Valid F) : Valid F.rev := by
  obtain ⟨h1, h2⟩ := h
  exact .of (h1 3 (by decide)) (h1 2 (by decide)) (h1 1 (by decide)) (h1 0 (by decide)) (h2 3 2 (by decide) (by decide) (by decide)) (h2 3 1 (by decide) (by decide) (by decide)) (h2 3 0 (by decide) (by decide) (by decide))
    (h2 2 1 (by decide) (by decide) (by decide)) (h2 2 0 (by decide) (by decide) (by decide)) (h2 1 0 (by decide) (by decide) (by decide))
theorem eV_turn (F : Fo) (C : Ci) : eV F.turn C = (eV F C).turn := by
  unfold eV dV V4.sum Fo.turn V4.turn
  simp only [V4.mk.injEq]
  omega
theorem eV_rev (F : Fo) (C : Ci) : eV F.rev C = (eV F C).rev := by
  unfold eV dV V4.sum Fo.rev V4.rev
  simp only [V4.mk.injEq]
  omega
theorem parts_turn (F : Fo) (C : Ci) : parts F.turn C = (parts F C).map V4.turn := by
  unfold parts
  rw [eV_turn]
  by_cases h : Whole (eV F C)
  · have : Whole (eV F C).turn := by unfold Whole V4.turn at *; simp only; omega
    rw [if_pos h, if_pos this]
    rfl
  · have : ¬ Whole (eV F C).turn := by unfold Whole V4.turn at *; simp only; omega
    rw [if_neg h, if_neg this]
    rfl
theorem parts_rev (F : Fo) (C : Ci) : parts F.rev C = (parts F C).map V4.rev := by
  unfold parts
  rw [eV_rev]
  by_cases h : Whole (eV F C)
  · have : Whole (eV F C).rev := by unfold Whole V4.rev at *; simp only; omega
    rw [if_pos h, if_pos this]
    rfl
  · have : ¬ Whole (eV F C).rev := by unfold Whole V4.rev at *; simp only; omega
    rw [if_neg h, if_neg this]
    rfl
theorem Frame.turn {F : Fo} (h : Frame F) : Frame F.turn := fun C => by
  rw [eV_turn, ← h C]
  generalize eV F C = v
  unfold lin Fo.turn V4.turn
  simp only [Ci.mk.injEq]
  omega
theorem Frame.rev {F : Fo} (h : Frame F) : Frame F.rev := fun C => by
  rw [eV_rev, ← h C]
  generalize eV F C = v
  unfold lin Fo.rev V4.rev
  simp only [Ci.mk.injEq]
  omega
/-- an order of the coordinates: place k comes to place f k -/
theorem Ends.order {f : V4 → V4} {g : Nat → Nat} (hg : ∀ k, k < 4 → g k < 4) (h1 : ∀ v k, k < 4 → (f v).get (g k) = v.get k) (hs : ∀ v, (f v).sum = v.sum) (hq : ∀ v, Qf v → Qf (f v))
    (h2 : ∀ v k, k < 4 → K64.beh (f v) (g k) = f (K64.beh v k)) (hb : ∀ j, j < 4 → ∃ k, k < 4 ∧ g k = j) {n : Nat} {v : V4} (h : Ends (fun _ => True) n v) (q : Qf v) : Ends (fun _ => True) n (f v) := by
  induction h with
  | @stop n v a _ =>
    refine .stop ?_ trivial
    cases e : nxt (f v) with
    | none => rfl
    | some j =>
      obtain ⟨hj, nj, sj⟩ := nxt_some e
      obtain ⟨k, hk, rfl⟩ := hb j hj
      rw [h1 v k hk] at nj
      rw [hs] at sj
      rw [nxt_of q sj hk nj] at a
      cases a
  | @step n v k a _ ih =>
    obtain ⟨hk, nk, sk⟩ := nxt_some a
    refine .step (k := g k) (nxt_of (hq v q) (by rw [hs]; exact sk) (hg k hk) (by rw [h1 v k hk]; exact nk)) ?_
    rw [h2 v k hk]
    exact ih (q.beh k)
theorem qf_turn {v : V4} (h : Qf v) : Qf v.turn := by
  unfold Qf V4.sq V4.sum V4.turn at *
  simp only
  grind
theorem qf_rev {v : V4} (h : Qf v) : Qf v.rev := by
  unfold Qf V4.sq V4.sum V4.rev at *
  simp only
  grind
theorem Ends.turn {n : Nat} {v : V4} (h : Ends (fun _ => True) n v) (q : Qf v) : Ends (fun _ => True) n v.turn := by
  refine Ends.order (f := V4.turn) (g := fun k => if k = 0 then 3 else k - 1) ?_ ?_ ?_ (fun v => qf_turn) ?_ ?_ h q
  · intro k hk; show (if k = 0 then 3 else k - 1) < 4; split <;> omega
  · intro v k hk; rcases four_cases hk with rfl | rfl | rfl | rfl <;> rfl
  · intro v; unfold V4.turn V4.sum; simp only; omega
  · intro v k hk; rcases four_cases hk with rfl | rfl | rfl | rfl <;> rfl
  · intro j hj; rcases four_cases hj with rfl | rfl | rfl | rfl
    · exact ⟨1, by decide, rfl⟩
    · exact ⟨2, by decide, rfl⟩
    · exact ⟨3, by decide, rfl⟩
    · exact ⟨0, by decide, rfl⟩
theorem Ends.rev {n : Nat} {v : V4} (h : Ends (fun _ => True) n v) (q : Qf v) : Ends (fun _ => True) n v.rev := by
  refine Ends.order (f := V4.rev) (g := fun k => 3 - k) ?_ ?_ ?_ (fun v => qf_rev) ?_ ?_ h q
  · intro k hk; show 3 - k < 4; omega
  · intro v k hk; rcases four_cases hk with rfl | rfl | rfl | rfl <;> rfl
  · intro v; unfold V4.rev V4.sum; simp only; omega
  · intro v k hk; rcases four_cases hk with rfl | rfl | rfl | rfl <;> rfl
  · intro j hj; rcases four_cases hj with rfl | rfl | rfl | rfl
    · exact ⟨3, by decide, rfl⟩
    · exact ⟨2, by decide, rfl⟩
    · exact ⟨1, by decide, rfl⟩
    · exact ⟨0, by decide, rfl⟩
/-! ### The given fours -/
def gen (n : Int) : Fo := ⟨⟨0-n, 0, 1, 0⟩, ⟨n+1, 0, -1, 0⟩, ⟨n*(n+1), 4, 0-2*n-1, 0⟩, ⟨n*(n+1)+1, 4, 0-2*n-1, 2⟩⟩
def giv4 : Fo := ⟨⟨-3, 0, 1, 0⟩, ⟨5, 0, -1, 0⟩, ⟨8, 2, -4, 1⟩, ⟨8, 2, -4, -1⟩⟩
def giv5 : Fo := ⟨⟨0, 2, 0, 1⟩, ⟨0, 2, 0, -1⟩, ⟨1, -1, 0, 0⟩, ⟨1, 3, 2, 0⟩⟩
def giv6 : Fo := ⟨⟨0, 1, 0, 1⟩, ⟨0, 1, 0, -1⟩, ⟨2, 0, 1, 0⟩, ⟨2, 4, 3, 0⟩⟩
/-- the given four of a number -/
def giv (m : Int) : Fo :=
  if m % 7 = 4 then giv4 else if m % 7 = 5 then giv5 else if m % 7 = 6 then giv6 else if m % 7 = 0 then gen 0 else if m % 7 = 1 then gen 1 else if m % 7 = 2 then gen 2 else gen (1 + m / 7 % 40)
theorem giv_cases (m : Int) : giv m = giv4 ∨ giv m = giv5 ∨ giv m = giv6 ∨ ∃ n : Int, 0 ≤ n ∧ n ≤ 40 ∧ giv m = gen n := by
  unfold giv
  split
  · exact .inl rfl
  · split
    · exact .inr (.inl rfl)
    · split
      · exact .inr (.inr (.inl rfl))
      · refine .inr (.inr (.inr ?_))
        split
        · exact ⟨0, by omega, by omega, rfl⟩
        · split
          · exact ⟨1, by omega, by omega, rfl⟩
          · split
            · exact ⟨2, by omega, by omega, rfl⟩
            · exact ⟨_, by omega, by omega, rfl⟩
theorem valid_gen {n : Int} (h : 0 ≤ n) : Valid (gen n) := by
  have h2 : 0 ≤ n*n := sq_nonneg n
  refine .of ?_ ?_ ?_ ?_ ⟨?_, ?_⟩ ⟨?_, ?_⟩ ⟨?_, ?_⟩ ⟨?_, ?_⟩ ⟨?_, ?_⟩ ⟨?_, ?_⟩ <;> simp only [gen, Ci.ok, dbl, Outw] <;> grind
theorem valid_giv (m : Int) : Valid (giv m) := by
  rcases giv_cases m with h | h | h | ⟨n, h0, _, h⟩ <;> rw [h]
  · refine .of ?_ ?_ ?_ ?_ ?_ ?_ ?_ ?_ ?_ ?_ <;> (unfold giv4; simp only [Ci.ok, Touch, dbl, Outw]; omega)
  · refine .of ?_ ?_ ?_ ?_ ?_ ?_ ?_ ?_ ?_ ?_ <;> (unfold giv5; simp only [Ci.ok, Touch, dbl, Outw]; omega)
  · refine .of ?_ ?_ ?_ ?_ ?_ ?_ ?_ ?_ ?_ ?_ <;> (unfold giv6; simp only [Ci.ok, Touch, dbl, Outw]; omega)
  · exact valid_gen h0
theorem frame_gen (n : Int) : Frame (gen n) := fun C => by
  unfold lin eV dV V4.sum dbl gen Ci.smul
  simp only [Ci.mk.injEq]
  refine ⟨?_, ?_, ?_, ?_⟩ <;> grind
theorem frame_giv (m : Int) : Frame (giv m) := by
  rcases giv_cases m with h | h | h | ⟨n, h0, _, h⟩ <;> rw [h]
  · intro C
    unfold lin eV dV V4.sum dbl giv4 Ci.smul
    simp only [Ci.mk.injEq]
    omega
  · intro C
    unfold lin eV dV V4.sum dbl giv5 Ci.smul
    simp only [Ci.mk.injEq]
    omega
  · intro C
    unfold lin eV dV V4.sum dbl giv6 Ci.smul
    simp only [Ci.mk.injEq]
    omega
  · exact frame_gen n
/-! ### The bound -/
/-- not too far, not too small -/
def Near (C : Ci) : Prop := C.b ≤ 1641 ∧ (1 ≤ C.b → C.x ≤ 81 + C.b * 2018 ∧ -C.x ≤ 81 + C.b * 2018 ∧ C.y ≤ 81 + C.b * 2018 ∧ -C.y ≤ 81 + C.b * 2018)
/-- where all gaps are at least 0, nothing is led to a curvature below 1 -/
theorem ends_low {v b : V4} (hq : Qf v) (hb : Desc b) (hB : 0 < b.sum) (hg : ∀ j, j < 4 → 0 ≤ b.sum - 2 * b.get j) (hd : dot v b ≤ 0) {n : Nat} : Ends (fun _ => True) n v := by
  cases e : nxt v with
  | none => exact .stop e trivial
  | some k =>
    exfalso
    obtain ⟨hk, nk, hs⟩ := nxt_some e
    have := key hb hB hq hs hk nk
    have := hg k hk
    omega
theorem Frame.dot {F : Fo} (h : Frame F) {C : Ci} {v : V4} (hp : K64.parts F C = some v) : K64.dot v F.bs = C.b := by
  have e := h.parts hp
  have : (lin v F).b = C.b := by rw [e]
  exact this
theorem mem_parts {F : Fo} {C : Ci} {v : V4} (h : parts F C = some v) : (eV F C).p = 8 * v.p ∧ (eV F C).q = 8 * v.q ∧ (eV F C).r = 8 * v.r ∧ (eV F C).s = 8 * v.s := by
  unfold parts at h
  split at h
  · rename_i w
    cases h
    unfold Whole at w
    unfold V4.eighth
    simp only
    omega
  · cases h
instance (b : V4) : Decidable (Desc b) := by unfold Desc; infer_instance
theorem ends_giv (m : Int) {C : Ci} (hC : C.ok) (hn : Near C) {v : V4} (hp : parts (giv m) C = some v) : Ends (fun _ => True) 4000 v := by
  have fr := frame_giv m
  have hq := fr.qf hC hp
  have hd := fr.dot hp
  have em := mem_parts hp
  obtain ⟨n1, n2⟩ := hn
  rcases giv_cases m with h | h | h | ⟨n, h0, h40, h⟩ <;> rw [h] at hd em
  · refine (ends_pos 1641 v giv4.bs 4 0 hq (by decide) (by decide) (by unfold Pairs; decide) (fun j hj _ => ?_) (fun z => absurd z (by decide)) (by omega) (by omega)).mono (by omega)
    rcases four_cases hj with rfl | rfl | rfl | rfl <;> decide
  · by_cases hb : 1 ≤ C.b
    · obtain ⟨x1, x2, y1, y2⟩ := n2 hb
      unfold K64.dot Fo.bs giv5 at hd
      unfold eV dV V4.sum dbl giv5 at em
      simp only at hd em
      refine (strip01 1 C.b 1641 (by omega) (by omega) 1050 v hq ?_ ?_ ?_).mono (by omega) <;> omega
    · refine ends_low hq (b := giv5.bs) (by decide) (by decide) (fun j hj => ?_) (by omega)
      rcases four_cases hj with rfl | rfl | rfl | rfl <;> decide
  · by_cases hb : 1 ≤ C.b
    · obtain ⟨x1, x2, y1, y2⟩ := n2 hb
      unfold K64.dot Fo.bs giv6 at hd
      unfold eV dV V4.sum dbl giv6 at em
      simp only at hd em
      refine (strip01 2 (v.r + v.s) 1641 (by omega) (by omega) 2060 v hq rfl ?_ ?_).mono (by omega) <;> omega
    · refine ends_low hq (b := giv6.bs) (by decide) (by decide) (fun j hj => ?_) (by omega)
      rcases four_cases hj with rfl | rfl | rfl | rfl <;> decide
  · by_cases hz : n = 0
    · subst hz
      by_cases hb : 1 ≤ C.b
      · obtain ⟨x1, x2, y1, y2⟩ := n2 hb
        unfold K64.dot Fo.bs gen at hd
        unfold eV dV V4.sum dbl gen at em
        simp only at hd em
        refine (strip02 1 C.b 1641 (by omega) (by omega) 1050 v hq ?_ ?_ ?_).mono (by omega) <;> omega
      · refine ends_low hq (b := (gen 0).bs) (by decide) (by decide) (fun j hj => ?_) (by omega)
        rcases four_cases hj with rfl | rfl | rfl | rfl <;> decide
    · have nn : 0 ≤ n*n := sq_nonneg n
      have n1 : n ≤ n*n := by
        have : 0 ≤ n * (n-1) := Int.mul_nonneg h0 (by omega)
        grind
      refine (ends_pos 1641 v (gen n).bs 4 0 hq ?_ ?_ ?_ (fun j hj _ => ?_) (fun z => absurd z (by decide)) (by omega) (by omega)).mono (by omega)
      · unfold Desc V4.sq V4.sum Fo.bs gen; simp only; grind
      · unfold V4.sum Fo.bs gen; simp only; grind
      · unfold Pairs Fo.bs gen; simp only; grind
      · rcases four_cases hj with rfl | rfl | rfl | rfl <;> unfold V4.sum Fo.bs gen V4.get <;> simp only <;> grind
/-! ### A circle of another four, laid elsewhere -/
def rotN : Nat → Ci → Ci
  | 0, C => C
  | n+1, C => rotC (rotN n C)
def rotN' : Nat → Ci → Ci
  | 0, C => C
  | n+1, C => rotN' n (rotC' C)
def flipB (f : Bool) (C : Ci) : Ci := if f then flipC C else C
def laidC (k : Nat) (f : Bool) (s t : Int) (C : Ci) : Ci := movC s t (flipB f (rotN k C))
def laidC' (k : Nat) (f : Bool) (s t : Int) (C : Ci) : Ci := rotN' k (flipB f (movC (-s) (-t) C))
theorem iso_rotN : ∀ k, Iso (rotN k) (rotN' k)
  | 0 => iso_id
  | k+1 => (iso_rotN k).comp iso_rot
theorem iso_flipB (f : Bool) : Iso (flipB f) (flipB f) := by
  cases f
  · exact iso_id
  · exact iso_flip
theorem iso_laid (k : Nat) (f : Bool) (s t : Int) : Iso (laidC k f s t) (laidC' k f s t) := ((iso_rotN k).comp (iso_flipB f)).comp (iso_mov s t)
def Box (M : Int) (C : Ci) : Prop := C.x ≤ M ∧ -C.x ≤ M ∧ C.y ≤ M ∧ -C.y ≤ M
theorem box_rotN {M : Int} : ∀ (k : Nat) {C : Ci}, Box M C → Box M (rotN k C)
  | 0, _, h => h
  | k+1, _, h => by
    have := box_rotN k h
    show Box M (rotC (rotN k _))
    generalize rotN k _ = D at this
    simp only [Box, rotC] at *
    omega
theorem box_rotN' {M : Int} : ∀ (k : Nat) {C : Ci}, Box M C → Box M (rotN' k C)
  | 0, _, h => h
  | k+1, C, h => by
    refine box_rotN' k ?_
    unfold Box rotC' at *
    simp only
    omega
theorem box_flipB {M : Int} (f : Bool) {C : Ci} (h : Box M C) : Box M (flipB f C) := by
  cases f
  · exact h
  · unfold flipB flipC Box at *
    simp only [if_true]
    omega
theorem box_mov {M s t N : Int} {C : Ci} (h : Box M C) (hb : 1 ≤ C.b) (s1 : s ≤ N) (s2 : -s ≤ N) (t1 : t ≤ N) (t2 : -t ≤ N) : Box (M + C.b * N) (movC s t C) := by
  unfold Box movC at *
  simp only
  have a1 : C.b * s ≤ C.b * N := Int.mul_le_mul_of_nonneg_left s1 (by omega)
  have a2 : C.b * (-s) ≤ C.b * N := Int.mul_le_mul_of_nonneg_left s2 (by omega)
  have a3 : C.b * t ≤ C.b * N := Int.mul_le_mul_of_nonneg_left t1 (by omega)
  have a4 : C.b * (-t) ≤ C.b * N := Int.mul_le_mul_of_nonneg_left t2 (by omega)
  have b1 : C.b * (-s) = -(C.b * s) := by grind
  have b2 : C.b * (-t) = -(C.b * t) := by grind
  omega
theorem giv_small (m : Int) {i : Nat} (hi : i < 4) : ((giv m).get i).b ≤ 1641 ∧ Box 81 ((giv m).get i) := by
  unfold Box
  rcases giv_cases m with h | h | h | ⟨n, h0, h40, h⟩ <;> rw [h]
  · rcases four_cases hi with rfl | rfl | rfl | rfl <;> decide
  · rcases four_cases hi with rfl | rfl | rfl | rfl <;> decide
  · rcases four_cases hi with rfl | rfl | rfl | rfl <;> decide
  · have : n * (n+1) ≤ 40 * 41 := by
      have a : n * (n+1) ≤ n * 41 := Int.mul_le_mul_of_nonneg_left (by omega) h0
      omega
    rcases four_cases hi with rfl | rfl | rfl | rfl <;> simp only [gen, Fo.get] <;> omega
/-- the four is a given one, laid, exchanged, in an order -/
inductive Drawn : Nat → Fo → Int → (Ci → Ci) → Prop
  | laid (m : Int) (k : Nat) (f : Bool) (s t : Int) (hs : s ≤ 1009 ∧ -s ≤ 1009) (ht : t ≤ 1009 ∧ -t ≤ 1009) : Drawn 0 (Fo.map (laidC k f s t) (giv m)) m (laidC' k f s t)
  | ex {n : Nat} {F : Fo} {m : Int} {L : Ci → Ci} {k : Nat} : Drawn n F m L → k < 4 → Drawn (n+1) (exF F k) m L
  | turn {n : Nat} {F : Fo} {m : Int} {L : Ci → Ci} : Drawn n F m L → Drawn n F.turn m L
  | rev {n : Nat} {F : Fo} {m : Int} {L : Ci → Ci} : Drawn n F m L → Drawn n F.rev m L
theorem Drawn.valid {n : Nat} {F : Fo} {m : Int} {L : Ci → Ci} (h : Drawn n F m L) : Valid F ∧ Frame F := by
  induction h with
  | laid m k f s t => exact ⟨(valid_giv m).map (iso_laid k f s t), (frame_giv m).map (iso_laid k f s t)⟩
  | ex _ hk ih => exact ⟨ih.1.ex hk, ih.2.ex _⟩
  | turn _ ih => exact ⟨ih.1.turn, ih.2.turn⟩
  | rev _ ih => exact ⟨ih.1.rev, ih.2.rev⟩
theorem Drawn.ends {n : Nat} {F : Fo} {m : Int} {L : Ci → Ci} (h : Drawn n F m L) {m' : Int} {i k' : Nat} {f' : Bool} {s' t' : Int} (hi : i < 4) (hs : s' ≤ 1009 ∧ -s' ≤ 1009) (ht : t' ≤ 1009 ∧ -t' ≤ 1009) :
    ∀ {v : V4}, parts F (laidC k' f' s' t' ((giv m').get i)) = some v → Ends (fun _ => True) (4000 + n) v := by
  have hok : (laidC k' f' s' t' ((giv m').get i)).ok := (iso_laid k' f' s' t').ok ((valid_giv m').1 i hi)
  induction h with
  | laid m k f s t hs2 ht2 =>
    intro v hv
    rw [parts_map (iso_laid k f s t)] at hv
    obtain ⟨g1, g2⟩ := giv_small m' hi
    have hok' : (laidC' k f s t (laidC k' f' s' t' ((giv m').get i))).ok := by
      have z := (iso_laid k f s t).dbl (laidC' k f s t (laidC k' f' s' t' ((giv m').get i))) (laidC' k f s t (laidC k' f' s' t' ((giv m').get i)))
      rw [(iso_laid k f s t).back] at z
      rw [ok_iff] at *
      rw [← z, hok]
    have hb' : (laidC' k f s t (laidC k' f' s' t' ((giv m').get i))).b = ((giv m').get i).b := by
      have z := (iso_laid k f s t).b (laidC' k f s t (laidC k' f' s' t' ((giv m').get i)))
      rw [(iso_laid k f s t).back] at z
      rw [← z, (iso_laid k' f' s' t').b]
    refine (ends_giv m hok' ⟨by rw [hb']; exact g1, fun hb => ?_⟩ hv).mono (by omega)
    rw [hb'] at hb
    have e1 : (flipB f' (rotN k' ((giv m').get i))).b = ((giv m').get i).b := ((iso_rotN k').comp (iso_flipB f')).b _
    have x1 : Box 81 (flipB f' (rotN k' ((giv m').get i))) := box_flipB f' (box_rotN k' g2)
    have x2 := box_mov x1 (by rw [e1]; exact hb) hs.1 hs.2 ht.1 ht.2
    rw [e1] at x2
    have e2 : (laidC k' f' s' t' ((giv m').get i)).b = ((giv m').get i).b := (iso_laid k' f' s' t').b _
    have x3 := box_mov (s := -s) (t := -t) x2 (by show 1 ≤ (laidC k' f' s' t' ((giv m').get i)).b; rw [e2]; exact hb) hs2.2 (by omega) ht2.2 (by omega)
    have e3 : (movC s' t' (flipB f' (rotN k' ((giv m').get i)))).b = ((giv m').get i).b := e2
    rw [e3] at x3
    have x4 : Box _ (laidC' k f s t (laidC k' f' s' t' ((giv m').get i))) := box_rotN' k (box_flipB f x3)
    unfold Box at x4
    rw [hb']
    omega
  | @ex n F m L k d hk ih =>
    intro v hv
    rw [parts_ex F _ hk] at hv
    cases e : parts F (laidC k' f' s' t' ((giv m').get i)) with
    | none => rw [e] at hv; cases hv
    | some u =>
      rw [e] at hv
      cases hv
      exact Ends.beh true_beh (ih e) (d.valid.2.qf hok e) hk
  | @turn n F m L d ih =>
    intro v hv
    rw [parts_turn F] at hv
    cases e : parts F (laidC k' f' s' t' ((giv m').get i)) with
    | none => rw [e] at hv; cases hv
    | some u =>
      rw [e] at hv
      cases hv
      exact (ih e).turn (d.valid.2.qf hok e)
  | @rev n F m L d ih =>
    intro v hv
    rw [parts_rev F] at hv
    cases e : parts F (laidC k' f' s' t' ((giv m').get i)) with
    | none => rw [e] at hv; cases hv
    | some u =>
      rw [e] at hv
      cases hv
      exact (ih e).rev (d.valid.2.qf hok e)
end K64


namespace K64
/-! ### The coordinates as a list; the sorted list; what is told of a circle -/
def V4.list (v : V4) : List Int := [v.p, v.q, v.r, v.s]
theorem perm_sum {l m : List Int} (h : l.Perm m) : l.sum = m.sum := by
  induction h with
  | nil => rfl
  | cons x _ ih => rw [List.sum_cons, List.sum_cons, ih]
  | swap x y l => rw [List.sum_cons, List.sum_cons, List.sum_cons, List.sum_cons]; omega
  | trans _ _ h1 h2 => exact h1.trans h2
theorem sorted_unit {v : V4} {l : List Int} (hp : l.Perm v.list) (hs : l.Pairwise (· ≤ ·)) : decide (l = [0,0,0,1]) = decide (IsUnit v) := by
  have len : l.length = 4 := hp.length_eq
  match l, len with
  | [a, b, c, d], _ =>
    have hsum := perm_sum hp
    have m1 : ∀ x : Int, (x = a ∨ x = b ∨ x = c ∨ x = d) ↔ (x = v.p ∨ x = v.q ∨ x = v.r ∨ x = v.s) := fun x => by
      have := hp.mem_iff (a := x)
      simpa [V4.list] using this
    obtain ⟨p, q, r, s⟩ := v
    simp only [V4.list, List.sum_cons, List.sum_nil] at hsum m1
    simp only [List.pairwise_cons, List.mem_cons, List.not_mem_nil, or_false, forall_eq_or_imp, forall_eq, and_true, List.Pairwise.nil] at hs
    have key : ([a, b, c, d] : List Int) = [0,0,0,1] ↔ IsUnit ⟨p, q, r, s⟩ := by
      unfold IsUnit
      simp only [V4.mk.injEq, List.cons.injEq, and_true]
      constructor
      · rintro ⟨rfl, rfl, rfl, rfl⟩
        have z : ∀ x : Int, (x = p ∨ x = q ∨ x = r ∨ x = s) → x = 0 ∨ x = 1 := fun x hx => by
          have := (m1 x).mpr hx
          omega
        clear hs m1
        have z1 := z p (.inl rfl)
        have z2 := z q (.inr (.inl rfl))
        have z3 := z r (.inr (.inr (.inl rfl)))
        have z4 := z s (.inr (.inr (.inr rfl)))
        clear z
        omega
      · intro h
        have z : ∀ x : Int, (x = a ∨ x = b ∨ x = c ∨ x = d) → x = 0 ∨ x = 1 := fun x hx => by
          have := (m1 x).mp hx
          clear hs hsum m1
          rcases h with ⟨rfl, rfl, rfl, rfl⟩ | ⟨rfl, rfl, rfl, rfl⟩ | ⟨rfl, rfl, rfl, rfl⟩ | ⟨rfl, rfl, rfl, rfl⟩ <;> omega
        have z1 := z a (.inl rfl)
        have z2 := z b (.inr (.inl rfl))
        have z3 := z c (.inr (.inr (.inl rfl)))
        have z4 := z d (.inr (.inr (.inr rfl)))
        have hs2 : a + (b + (c + (d + 0))) = 1 := by
          rw [hsum]
          clear z z1 z2 z3 z4 hs m1 hsum
          rcases h with ⟨rfl, rfl, rfl, rfl⟩ | ⟨rfl, rfl, rfl, rfl⟩ | ⟨rfl, rfl, rfl, rfl⟩ | ⟨rfl, rfl, rfl, rfl⟩ <;> rfl
        obtain ⟨⟨s1, s2, s3⟩, ⟨s4, s5⟩, s6⟩ := hs
        clear z m1 hsum h s2 s3 s5
        omega
    rw [decide_eq_decide]
    exact key
def ix : V4 → Nat := fun v => if v.p = 1 then 0 else if v.q = 1 then 1 else if v.r = 1 then 2 else 3
theorem ix_lt (v : V4) : ix v < 4 := by unfold ix; split <;> (try split) <;> (try split) <;> omega
theorem unit_ix {v : V4} (h : IsUnit v) : v = unitV (ix v) := by
  rcases h with rfl | rfl | rfl | rfl <;> rfl
theorem unit_nxt {v : V4} (h : IsUnit v) : nxt v = none := nxt_none (by rw [h.sum]; omega)
/-- the search: the exchanges, and the number where the circle stands -/
def srch (o : Option V4) : List Nat × Option Nat := match o with
  | none => ([], none)
  | some v => ((run 20000 v).1, if IsUnit (run 20000 v).2 then some (ix (run 20000 v).2) else none)
theorem srch_some (v : V4) : srch (some v) = ((run 20000 v).1, if IsUnit (run 20000 v).2 then some (ix (run 20000 v).2) else none) := rfl
def chkGo (v : V4) : List Nat → Bool
  | [] => !decide (IsUnit v) && decide (nxt v = none)
  | k :: w => if IsUnit v ∨ nxt v ≠ some k then false else chkGo (beh v k) w
def chkAbs (o : Option V4) (w : List Nat) : Bool := match o with
  | none => decide (w = [])
  | some v => chkGo v w
end K64


namespace K64
open PySem PySem.Spec PyProof.Rows L2
/-! ### The text by places -/
def top (i : Nat) : Stmt := PySem.Challenge.pw_fourtouch_k64_whole_places_as_texts.main.body.getD i (.Pass ⟨0, 0, 0, 0⟩)
abbrev s_is_circle : Stmt := top 11
abbrev s_check_circle : Stmt := top 12
abbrev s_double : Stmt := top 13
abbrev s_are_outward : Stmt := top 14
abbrev s_touch : Stmt := top 15
abbrev s_check_word : Stmt := top 18
abbrev s_four_at : Stmt := top 20
abbrev s_fours_along : Stmt := top 21
abbrev s_eighths : Stmt := top 23
abbrev s_whole_coordinates : Stmt := top 24
abbrev s_is_unit : Stmt := top 25
abbrev s_next_number : Stmt := top 26
abbrev s_exchanged : Stmt := top 27
abbrev s_search : Stmt := top 28
abbrev s_address_of : Stmt := top 29
abbrev s_absence : Stmt := top 30
abbrev s_check_absence : Stmt := top 31
abbrev s_check_number : Stmt := top 34
abbrev s_line_of : Stmt := top 38
abbrev s_are_letters : Stmt := top 39
abbrev s_letters_of : Stmt := top 40
abbrev s_place_text : Stmt := top 41
abbrev s_check_place_text : Stmt := top 42
abbrev s_l_row : Stmt := top 44
abbrev s_l_numbers : Stmt := top 45
abbrev s_l_given : Stmt := top 46
abbrev s_l_moved : Stmt := top 47
abbrev s_l_laid : Stmt := top 48
abbrev s_l_other : Stmt := top 49
abbrev s_l_fallen : Stmt := top 50
abbrev s_l_four : Stmt := top 51
abbrev s_l_double : Stmt := top 52
abbrev s_l_sign : Stmt := top 53
abbrev s_l_opposite : Stmt := top 54
abbrev s_l_parts : Stmt := top 55
abbrev s_l_next : Stmt := top 56
abbrev s_l_behind : Stmt := top 57
abbrev s_l_due : Stmt := top 58
abbrev s_l_shows : Stmt := top 59
abbrev s_l_refused : Stmt := top 60
abbrev s_l_changed : Stmt := top 61
abbrev s_law : Stmt := top 62
abbrev m_init : Stmt := inClass (top 35) 0
abbrev m_curvatures : Stmt := inClass (top 35) 1
abbrev m_circle : Stmt := inClass (top 35) 2
abbrev m_number_of : Stmt := inClass (top 35) 3
abbrev m_other : Stmt := inClass (top 35) 4
abbrev m_exchanged : Stmt := inClass (top 35) 5
abbrev m_is_root : Stmt := inClass (top 35) 6
abbrev m_is_strip : Stmt := inClass (top 35) 7
abbrev m_with_order : Stmt := inClass (top 35) 8
abbrev m_ordered : Stmt := inClass (top 35) 9
abbrev m_has_same : Stmt := inClass (top 35) 10
abbrev i_paper : Stmt := inClass (top 7) 0
/-! ### A def as it stands, a def that keeps its promise -/
structure DefAt (K : PySem.W.Frag) (mg : Str → Option Value) (x : Str) (st : Stmt) (f : Addr) (ps : List Str) : Prop where
  fn : ∃ fd, Fun K x x st f fd ∧ Binds K fd ps []
  gl : mg x = some (.ref f)
structure Okd (P : Program) (w : World) (K : PySem.W.Frag) (mg : Str → Option Value) (base : Heap) (CX : CXT) (k : Nat) (x : Str) (f : Addr) (ps : List Str) (sp : Sp) : Prop where
  ok : ∃ fd, FnOk P w K mg base CX k f fd ps sp ∧ Binds K fd ps []
  kp : PySem.W.keepIn K (.ref f) = true
  gl : mg x = some (.ref f)
structure MethAt (K : PySem.W.Frag) (C : Addr) (m q : Str) (st : Stmt) (f : Addr) (ps : List Str) : Prop where
  fn : ∃ fd, Fun K m q st f fd ∧ Binds K fd ps []
  me : Meth K C m f
structure Okm (P : Program) (w : World) (K : PySem.W.Frag) (mg : Str → Option Value) (base : Heap) (CX : CXT) (k : Nat) (C : Addr) (m : Str) (f : Addr) (ps : List Str) (sp : Sp) : Prop where
  ok : ∃ fd, FnOk P w K mg base CX k f fd ps sp ∧ Binds K fd ps []
  me : Meth K C m f
section
variable {P : Program} {w : World} {K : PySem.W.Frag} {mg : Str → Option Value} {base : Heap} {x q : Str} {st : Stmt} {f C : Addr} {N ps : List Str} {k : Nat} {sp : Sp}
theorem DefAt.ok (D : DefAt K mg x st f ps) (S : FnScope N ps (defScope st)) (len : ∀ vs H Q E, sp vs H Q E → vs.length = ps.length)
    (hbody : ∀ (cdv : Value) (A : Around) (outer : List Env) (s : Shared) (H : Hp) (vs : List V) (Q : VK) (E : XK), Room k (A.deeper (envOfC x (defScope st) s.heap.objs.size f cdv)) → sp vs H Q E →
      ∃ t, PSs (cxOf CX0 P w K mg base N x (defScope st) f cdv A outer s H E).nox (defBody st) t ∧ t { nx := fun _ H' => Q .non H', rt := Q } (start N vs) H) : Okd P w K mg base CX0 (k + 1) x f ps sp := by
  obtain ⟨fd, F, b⟩ := D.fn
  exact ⟨⟨fd, F.ok S len hbody, b⟩, F.kp, D.gl⟩
theorem DefAt.okX (D : DefAt K mg x st f ps) (S : FnScope N ps (defScope st)) (len : ∀ vs H Q E, sp vs H Q E → vs.length = ps.length)
    (hbody : ∀ (cdv : Value) (A : Around) (outer : List Env) (s : Shared) (H : Hp) (vs : List V) (Q : VK) (E : XK), Room k (A.deeper (envOfC x (defScope st) s.heap.objs.size f cdv)) → sp vs H Q E →
      ∃ t, PSs (cxOf (L2.CX P w) P w K mg base N x (defScope st) f cdv A outer s H E) (defBody st) t ∧ t { nx := fun _ H' => Q .non H', rt := Q } (start N vs) H) : Okd P w K mg base (L2.CX P w) (k + 1) x f ps sp := by
  obtain ⟨fd, F, b⟩ := D.fn
  exact ⟨⟨fd, F.okX S len hbody, b⟩, F.kp, D.gl⟩
theorem MethAt.ok (D : MethAt K C x q st f ps) (S : FnScope N ps (defScope st)) (len : ∀ vs H Q E, sp vs H Q E → vs.length = ps.length)
    (hbody : ∀ (cdv : Value) (A : Around) (outer : List Env) (s : Shared) (H : Hp) (vs : List V) (Q : VK) (E : XK), Room k (A.deeper (envOfC q (defScope st) s.heap.objs.size f cdv)) → sp vs H Q E →
      ∃ t, PSs (cxOf CX0 P w K mg base N q (defScope st) f cdv A outer s H E).nox (defBody st) t ∧ t { nx := fun _ H' => Q .non H', rt := Q } (start N vs) H) : Okm P w K mg base CX0 (k + 1) C x f ps sp := by
  obtain ⟨fd, F, b⟩ := D.fn
  exact ⟨⟨fd, F.ok S len hbody, b⟩, D.me⟩
end
/-- f(e, ..) of a def that keeps its promise -/
theorem pe_c {X : Cx} {CX : CXT} {k : Nat} {x : Str} {f : Addr} {ps : List Str} {sp : Sp} {e : Expr} {es : List Expr} {t : TA} {E : XK} {p pos : Pos} (O : Okd X.prog X.w X.K X.mg X.base CX k x f ps sp) (hr : Room k X.A) (hx : Passes CX X E) (ha : PA X (e :: es) t)
    (hg : Gl X x := by rfl) (hdb : (x == ("__debug__" : Str)) = false := by decide) (he : starEach (e :: es) X.env = (false, eval e X.env) :: starEach es X.env := by rfl) (hpl : (backTo pos (starEach es X.env)).any (·.1) = false := by rfl) :
    PE X (.Call (.Name x p) (e :: es) [] pos) (tCall sp [] E t) := by
  obtain ⟨fd, F, b⟩ := O.ok
  exact pe_call F hr hg O.gl O.kp b .nil hx ha hdb he hpl
/-- o.m(e, ..) -/
theorem pe_m {X : Cx} {CX : CXT} {k : Nat} {C : Addr} {m : Str} {f : Addr} {ps : List Str} {sp : Sp} {o e : Expr} {es : List Expr} {ta : TE} {t : TA} {E : XK} {apos pos : Pos} {pl : Sem Bool} (he : PE X o ta) (c : Cls X.K C) (O : Okm X.prog X.w X.K X.mg X.base CX k C m f ps sp) (hr : Room k X.A) (hx : Passes CX X E) (ha : PA X (e :: es) t)
    (hst : starEach (e :: es) X.env = (false, eval e X.env) :: starEach es X.env := by rfl) (hpl : (backTo pos (starEach es X.env)).any (·.1) = false := by rfl)
    (ht : eval (.Call (.Attribute o m apos) (e :: es) [] pos) X.env = (do
      let ov ← eval o X.env
      standAt apos.atName
      let (f, first) ← holding [ov] (getMethod ov m pl)
      callWith pos f first (backTo pos (starEach (e :: es) X.env)) (backToKw pos (keywordEach [] X.env))) := by rfl) :
    PE X (.Call (.Attribute o m apos) (e :: es) [] pos) (tMeth C m sp [] E ta t) := by
  obtain ⟨fd, F, b⟩ := O.ok
  exact pe_meth he c O.me F hr b .nil hx ha hst hpl ht
/-! ### What the top has written -/
structure Ad where
  is_circle : Addr
  check_circle : Addr
  double : Addr
  are_outward : Addr
  touch : Addr
  check_word : Addr
  four_at : Addr
  fours_along : Addr
  eighths : Addr
  whole_coordinates : Addr
  is_unit : Addr
  next_number : Addr
  exchanged : Addr
  search : Addr
  address_of : Addr
  absence : Addr
  check_absence : Addr
  check_number : Addr
  line_of : Addr
  are_letters : Addr
  letters_of : Addr
  place_text : Addr
  check_place_text : Addr
  l_row : Addr
  l_numbers : Addr
  l_given : Addr
  l_moved : Addr
  l_laid : Addr
  l_other : Addr
  l_fallen : Addr
  l_four : Addr
  l_double : Addr
  l_opposite : Addr
  l_parts : Addr
  l_next : Addr
  l_behind : Addr
  l_due : Addr
  l_shows : Addr
  l_refused : Addr
  l_changed : Addr
  law : Addr
  m_init : Addr
  m_circle : Addr
  m_other : Addr
  m_exchanged : Addr
  cFour : Addr
  cCircle : Addr
  cPaper : Addr
  iPaper : Addr
  cNotation : Addr
  tWords : Addr
  tNumbers : Addr
  tTexts : Addr
structure Txt (K : PySem.W.Frag) (mg : Str → Option Value) (a : Ad) : Prop where
  is_circle : DefAt K mg "is_circle" s_is_circle a.is_circle ["circle"]
  check_circle : DefAt K mg "check_circle" s_check_circle a.check_circle ["circle"]
  double : DefAt K mg "double" s_double a.double ["one", "other"]
  are_outward : DefAt K mg "are_outward" s_are_outward a.are_outward ["one", "other"]
  touch : DefAt K mg "touch" s_touch a.touch ["one", "other"]
  check_word : DefAt K mg "check_word" s_check_word a.check_word ["word"]
  four_at : DefAt K mg "four_at" s_four_at a.four_at ["four", "word"]
  fours_along : DefAt K mg "fours_along" s_fours_along a.fours_along ["four", "word"]
  eighths : DefAt K mg "eighths" s_eighths a.eighths ["four", "circle"]
  whole_coordinates : DefAt K mg "whole_coordinates" s_whole_coordinates a.whole_coordinates ["four", "circle"]
  is_unit : DefAt K mg "is_unit" s_is_unit a.is_unit ["parts"]
  next_number : DefAt K mg "next_number" s_next_number a.next_number ["parts"]
  exchanged : DefAt K mg "exchanged" s_exchanged a.exchanged ["parts", "number"]
  search : DefAt K mg "search" s_search a.search ["four", "circle"]
  address_of : DefAt K mg "address_of" s_address_of a.address_of ["four", "circle"]
  absence : DefAt K mg "absence" s_absence a.absence ["four", "circle"]
  check_absence : DefAt K mg "check_absence" s_check_absence a.check_absence ["four", "circle", "word"]
  check_number : DefAt K mg "check_number" s_check_number a.check_number ["number"]
  line_of : DefAt K mg "line_of" s_line_of a.line_of ["words"]
  are_letters : DefAt K mg "are_letters" s_are_letters a.are_letters ["words"]
  letters_of : DefAt K mg "letters_of" s_letters_of a.letters_of ["words"]
  place_text : DefAt K mg "place_text" s_place_text a.place_text ["four", "circle"]
  check_place_text : DefAt K mg "check_place_text" s_check_place_text a.check_place_text ["four", "circle", "text"]
  l_row : DefAt K mg "_law_row" s_l_row a.l_row ["_law_cell", "_law_many"]
  l_numbers : DefAt K mg "_law_numbers" s_l_numbers a.l_numbers ["_law_script", "_law_many"]
  l_given : DefAt K mg "_law_given" s_l_given a.l_given ["_law_number"]
  l_moved : DefAt K mg "_law_moved" s_l_moved a.l_moved ["_law_circle", "_law_s", "_law_t"]
  l_laid : DefAt K mg "_law_laid" s_l_laid a.l_laid ["_law_numbers_here", "_law_at", "_law_circle"]
  l_other : DefAt K mg "_law_other" s_l_other a.l_other ["_law_circles", "_law_k"]
  l_fallen : DefAt K mg "_law_fallen" s_l_fallen a.l_fallen ["_law_circles", "_law_word"]
  l_four : DefAt K mg "_law_four" s_l_four a.l_four ["_law_numbers_here", "_law_at"]
  l_double : DefAt K mg "_law_double" s_l_double a.l_double ["_law_one", "_law_other_here"]
  l_opposite : DefAt K mg "_law_opposite" s_l_opposite a.l_opposite ["_law_circle"]
  l_parts : DefAt K mg "_law_parts" s_l_parts a.l_parts ["_law_circles", "_law_circle"]
  l_next : DefAt K mg "_law_next" s_l_next a.l_next ["_law_parts_here"]
  l_behind : DefAt K mg "_law_behind" s_l_behind a.l_behind ["_law_parts_here", "_law_k"]
  l_due : DefAt K mg "_law_due" s_l_due a.l_due ["_law_circles", "_law_circle"]
  l_shows : DefAt K mg "_law_shows" s_l_shows a.l_shows ["_law_circles", "_law_circle", "_law_words"]
  l_refused : DefAt K mg "_law_refused" s_l_refused a.l_refused ["_law_four_here", "_law_circle", "_law_text"]
  l_changed : DefAt K mg "_law_changed" s_l_changed a.l_changed ["_law_words", "_law_numbers_here"]
  law : DefAt K mg "law" s_law a.law ["_law_script"]
  m_init : MethAt K a.cFour "__init__" "Four.__init__" m_init a.m_init ["self", "circles"]
  m_circle : MethAt K a.cFour "circle" "Four.circle" m_circle a.m_circle ["self", "number"]
  m_other : MethAt K a.cFour "other" "Four.other" m_other a.m_other ["self", "number"]
  m_exchanged : MethAt K a.cFour "exchanged" "Four.exchanged" m_exchanged a.m_exchanged ["self", "number"]
  four : Cls K a.cFour
  made : Mk K a.cFour a.m_init
  gFour : mg "Four" = some (.ref a.cFour)
  nCircles : NoAttr K a.cFour "circles"
  gWords : mg "LETTERS_words" = some (.ref a.tWords)
  tWords : ∃ dd n sl t1 t2 t3 t4, K.lookup a.tWords = some ⟨.type "tuple", dd, .seq #[.int 1 t1, .int 2 t2, .int 3 t3, .int 4 t4] n, sl⟩
  gNumbers : mg "NUMBERS" = some (.ref a.tNumbers)
  tNumbers : ∃ dd n sl t1 t2 t3 t4, K.lookup a.tNumbers = some ⟨.type "tuple", dd, .seq #[.int 1 t1, .int 2 t2, .int 3 t3, .int 4 t4] n, sl⟩
  gTexts : mg "LETTERS_texts" = some (.ref a.tTexts)
  tTexts : ∃ dd n sl t1 t2 t3 t4, K.lookup a.tTexts = some ⟨.type "tuple", dd, .seq #[.str "1" t1, .str "2" t2, .str "3" t3, .str "4" t4] n, sl⟩
  gCircle : mg "InvalidCircle" = some (.ref a.cCircle)
  xCircle : PySem.W.excIn K a.cCircle [.type "ValueError", .type "Exception", .type "BaseException", .type "object"] "ValueError.__new__" = true
  kCircle : PySem.W.keepIn K (.ref a.cCircle) = true
  bCircle : PySem.W.subIn K (.ref a.cCircle) (.type "BaseException") = some true
  yCircle : PySem.W.typeIn K (.ref a.cCircle) = some (.type "type")
  b_len : mg "len" = none
  b_any : mg "any" = none
  b_all : mg "all" = none
  b_sum : mg "sum" = none
  b_sorted : mg "sorted" = none
  b_enumerate : mg "enumerate" = none
  b_zip : mg "zip" = none
  b_range : mg "range" = none
  b_tuple : mg "tuple" = none
  b_list : mg "list" = none
  b_str : mg "str" = none
  b_int : mg "int" = none
  b_isinstance : mg "isinstance" = none
  b_bool : mg "bool" = none
  b_abs : mg "abs" = none
  b_max : mg "max" = none
  b_ValueError : mg "ValueError" = none
  b_super : mg "super" = none
end K64


namespace K64
open PySem PySem.Spec PyProof.Rows L2
/-! ### Rules that the layer lacks: enumerate of lists and tuples from a start; zip of a list and a tuple -/
theorem meets_enumerate_newB1 {v : Value} {o : Obj} {H : Heap → Prop} (B : Begins v o H) :
    Meets (Builtin.«enumerate.__new__» ⟨[.type "enumerate", v], []⟩) (fun _ R s => H s.heap ∧
      R (.ok (.ret (.ref (s.heap.push o).objs.size))) { s with heap := (s.heap.push o).push { cls := .type "enumerate", data := .fields #[.none, .bool false, .ref s.heap.objs.size, rawInt 0, .none, .none] } }) :=
  .of_wp fun prog w A R s h => by
    obtain ⟨hp, g, d, tk, os⟩ := s; obtain ⟨h1, h⟩ := h
    have hsub := sub_enumerate
    have q1 : ∀ {A' : Around} {E : Value → Shared → Prop} {Q : Value → Shared → Prop}, Q (.ref hp.objs.size) ⟨hp.push o, g, d, tk, os⟩ → wpAny (model prog w) A' (pyIter v) Q E ⟨hp, g, d, tk, os⟩ :=
      fun q => B.iter prog w _ _ ⟨hp, g, d, tk, os⟩ _ h1 q
    wp_walk using q1
    refine wpAny_stack_any fun st => wpAny_pure ?_
    split
    · rename_i c _ _ _ _ _
      cases (c == Value.type "enumerate")
      · wp_walk using q1
        exact ⟨_, rfl, h⟩
      · wp_walk using q1
        exact ⟨_, rfl, h⟩
    · wp_walk using q1
      exact ⟨_, rfl, h⟩
section
variable {prog : Program} {w : World} {A : Around} {E : Value → Shared → Prop} {s : Shared}
theorem enum_begins1 {v : Value} {o : Obj} {H : Heap → Prop} {Q : Value → Shared → Prop} (B : Begins v o H) (h1 : H s.heap)
    (h : ∀ h', IsEnum h' (s.heap.objs.size + 1) s.heap.objs.size 0 .none → h'.get? s.heap.objs.size = some o → h'.objs.size = s.heap.objs.size + 2 →
      (∀ b o, s.heap.get? b = some o → h'.get? b = some o) → Q (.ref (s.heap.objs.size + 1)) { s with heap := h' }) :
    wpAny (model prog w) A (call (.type "enumerate") [v]) Q E s := by
  refine callType_new F.called_enumerate (by decide) (F.typeCall_enumerate_1 _) (F.newCall_enumerate_1 _) (fun obj => F.args_object_init_2 obj _) F.entry_enumerate_new
    (meets_enumerate_newB1 B) ⟨h1, ?_⟩
  have hz : (s.heap.push o).objs.size = s.heap.objs.size + 1 := Heap.size_push ..
  show _ ∧ _
  rw [hz]
  have he : IsEnum ((s.heap.push o).push { cls := .type "enumerate", data := .fields #[.none, .bool false, .ref s.heap.objs.size, rawInt 0, .none, .none] }) (s.heap.objs.size + 1) s.heap.objs.size 0 .none := by
    have := Heap.get?_push_size (s.heap.push o) (o := { cls := .type "enumerate", data := .fields #[.none, .bool false, .ref s.heap.objs.size, rawInt 0, .none, .none] }) rfl
    rw [hz] at this; exact this
  refine ⟨⟨_, he, rfl⟩, h _ he (Heap.get?_push_of_some _ (Heap.get?_push_size _ B.free)) (by rw [Heap.size_push, hz]) fun b o x => Heap.get?_push_of_some _ (Heap.get?_push_of_some _ x)⟩
end
/-! a list (true) or a tuple (false) -/
def SqB (k : Bool) (K : PySem.W.Frag) (H : Hp) (a : Addr) (xs : List V) : Prop := match k with | true => SqL K H a xs | false => SqT K H a xs
def ItB (k : Bool) (h : Heap) (it a : Addr) (i : Nat) : Prop := match k with | true => h.IsListIter it a i | false => h.IsTupleIter it a i
def HsB (k : Bool) (h : Heap) (a : Addr) (its : Array Value) : Prop := match k with | true => h.IsList a its | false => h.IsTuple a its
def obB (k : Bool) (a : Addr) : Obj := match k with | true => { cls := .type "list_iterator", data := .fields #[.ref a, .int 0 0] } | false => { cls := .type "tuple_iterator", data := .fields #[.ref a, .int 0 0] }
theorem begB (k : Bool) (a : Addr) (its : Array Value) : Begins (.ref a) (obB k a) fun h => HsB k h a its := by
  cases k
  · exact begins_tuple a its
  · exact begins_list a its
theorem drawB {prog : Program} {w : World} {A : Around} (k : Bool) (hh : A.handled = none) (it a : Addr) (hne : a ≠ it) (its : Array Value) : Draws prog w A it [it, a] its.size (fun i v => its[i]? = some v) (fun i h => ItB k h it a i ∧ HsB k h a its) := by
  cases k
  · exact Draws.tuple hh it a hne its
  · exact Draws.list hh it a hne its
theorem ItB.start {k : Bool} {h : Heap} {it a : Addr} (e : h.get? it = some (obB k a)) : ItB k h it a 0 := by
  cases k
  · exact ⟨_, e, rfl, rfl⟩
  · exact ⟨_, e, rfl, rfl⟩
theorem ItB.keep {k : Bool} {h h' : Heap} {it a : Addr} {i : Nat} (st : ItB k h it a i) (e : ∀ o, h.get? it = some o → h'.get? it = some o) : ItB k h' it a i := by
  cases k
  · exact Heap.IsTupleIter.at st e
  · exact Heap.IsListIter.at st e
theorem ItB.obj {k : Bool} {h : Heap} {it a : Addr} {i : Nat} (st : ItB k h it a i) : ∃ o, h.get? it = some o ∧ ∀ v, o.data ≠ .cell v := by
  cases k
  · obtain ⟨o, ho, hc, hd⟩ := st
    exact ⟨o, ho, fun v q => by rw [hd] at q; cases q⟩
  · obtain ⟨o, ho, hc, hd⟩ := st
    exact ⟨o, ho, fun v q => by rw [hd] at q; cases q⟩
section
variable {X : Cx} {pins : List (Addr × Obj)} {σ : L2.St} {H : Hp} {s : Shared}
theorem seqB {k : Bool} {a : Addr} {xs : List V} (I : Inv X pins σ H s) (h : SqB k X.K H a xs) : ∃ its : List Value, Vals xs its ∧ HsB k s.heap a its.toArray ∧ a < s.heap.objs.size := by
  cases k
  · obtain ⟨its, rv, p, hz⟩ := I.tuple h
    exact ⟨its, rv, p, p.lt⟩
  · obtain ⟨its, rv, p, hz⟩ := I.list h
    exact ⟨its, rv, p.isList, p.lt⟩
theorem seqB_inj {k : Bool} {a : Addr} {xs ys : List V} (I : Inv X pins σ H s) (h : SqB k X.K H a xs) (h' : SqB k X.K H a ys) : xs = ys := by
  cases k
  · exact I.tuple_inj h h'
  · exact I.list_inj h h'
end
def Ieb (k : Bool) (K : PySem.W.Frag) (a : Addr) (k0 : Int) : It :=
  ⟨fun i H => ∃ (xs : List V) (x : V), SqB k K H a xs ∧ xs[i]? = some x, fun i H v H' => ∃ T x, v = .ref T ∧ H T = none ∧ H' = upd H T (.tup [.int (k0 + (i : Int)), x]) ∧ ∀ xs, SqB k K H a xs → xs[i]? = some x, fun i H => ∃ xs : List V, SqB k K H a xs ∧ xs.length = i⟩
theorem turn_eb {P : Program} {w : World} {K : PySem.W.Frag} {elts : List Expr} {kk : Nat} {tpos : Pos} (k : Bool) (k0 : Int) (a e it : Addr) :
    Turn P w K (.Tuple elts kk tpos) (Ieb k K a k0) [e, it] e (fun i h => (∃ old, IsEnum h e it (k0 + (i : Int)) old) ∧ ItB k h it a i ∧ e ≠ it ∧ a ≠ it ∧ a ≠ e) where
  mem := by simp
  obj := fun i h st b hb => by
    obtain ⟨⟨old, he⟩, hi, _⟩ := st
    have e' : b = e ∨ b = it := by simpa using hb
    rcases e' with z | z
    · rw [z]; exact ⟨_, he, fun v q => nomatch q⟩
    · rw [z]; exact hi.obj
  keep := fun i h h' st kp => let ⟨⟨old, he⟩, hi, hne⟩ := st; ⟨⟨old, kp e (by simp) _ he⟩, hi.keep fun o q => kp it (by simp) o q, hne⟩
  item := by
    intro X hP hw hK hc i pins s σ H E I hf st hg
    subst hP hw hK
    obtain ⟨⟨old, he⟩, hit, hne, hai, hae⟩ := st
    obtain ⟨xs, x, hq, hx⟩ := hg
    obtain ⟨its, rv, p, hal⟩ := seqB I hq
    have hel : e < s.heap.objs.size := Heap.lt_size he
    have hil : it < s.heap.objs.size := by obtain ⟨_, q, _⟩ := hit.obj; exact Heap.lt_size q
    have hlt : i < its.toArray.size := by
      have := (List.getElem?_eq_some_iff.mp hx).1
      have := rv.length
      simp; omega
    refine wpAny_pyNext_enum_itemC (drawB (prog := X.prog) (w := X.w) (A := X.A.in1) k (show X.A.in1.handled = none from I.ok.hd hc) it a hai its.toArray) he ⟨hit, p⟩ hlt hne (by simp [hne, hae.symm]) fun u h' tk hP ho hst' hT hsz hk => ?_
    obtain ⟨u', hu', ru⟩ := rv.get hx
    have eu : u = u' := by
      have z : its[i]? = some u := by simpa using hP
      rw [hu'] at z
      exact (Option.some.inj z).symm
    subst eu
    refine ⟨_, rfl, wpAny_letOwnedTupleGo_enum (s := { s with heap := h', toks := tk + 1 }) ho fun h'' he' sb => ?_⟩
    have hT2 : h''.get? s.heap.objs.size = some { cls := .type "tuple", data := .seq #[.int (k0 + (i : Int)) tk, u] } := (sb.2 _ (Nat.ne_of_gt hel)).trans hT
    have new : ObjOk X.prog X.w (upd H s.heap.objs.size (.tup [.int (k0 + (i : Int)), x])) h'' s.heap.objs.size (.tup [.int (k0 + (i : Int)), x]) :=
      ⟨by show 2 ≤ sizeLine; decide, [.int (k0 + (i : Int)) tk, u], .cons ⟨_, rfl⟩ (.cons ru .nil), ⟨_, hT2, rfl, _, rfl⟩⟩
    have I1 : Inv X pins σ (upd H s.heap.objs.size (.tup [.int (k0 + (i : Int)), x])) { s with heap := h'', toks := tk + 1 } :=
      I.turnedNew (ch := [e, it]) (fun b ob hb q => (sb.2 b (fun z => hb (by simp [z]))).trans (hk b ob (fun z => hb (by simp [z])) (fun z => hb (by simp [z])) q)) hf (Nat.le_refl _) new
    refine ⟨.ref s.heap.objs.size, _, I1, rfl, ⟨_, x, rfl, I.hok.fresh (Nat.le_refl _), rfl, fun ys hy => by rw [seqB_inj I hy hq]; exact hx⟩, ⟨⟨u, ?_⟩, hst'.1.keep fun o q => (sb.2 it (Ne.symm hne)).trans q, hne, hai, hae⟩, fun b hb => ?_⟩
    · have e1 : k0 + ((i + 1 : Nat) : Int) = k0 + (i : Int) + 1 := by omega
      rw [e1]; exact he'
    · have hb' : b < s.heap.objs.size := by
        have e' : b = e ∨ b = it := by simpa using hb
        rcases e' with z | z
        · rw [z]; exact hel
        · rw [z]; exact hil
      rw [upd_ne (Nat.ne_of_lt hb')]
      exact (hf b hb).1
  done := by
    intro X hP hw hK hc i pins s σ H E I hf st hg
    subst hP hw hK
    obtain ⟨⟨old, he⟩, hit, hne, hai, hae⟩ := st
    obtain ⟨xs, hq, hx⟩ := hg
    obtain ⟨its, rv, p, hal⟩ := seqB I hq
    obtain ⟨f0, f1, f2, f3, f4, f5⟩ := hf it (by simp)
    have hl := rv.length
    have en : i = its.toArray.size := by simp; omega
    refine wpAny_pyNext_enum_endD (drawB (prog := X.prog) (w := X.w) (A := X.A.in1) k (show X.A.in1.handled = none from I.ok.hd hc) it a hai its.toArray) he (by rw [← en]; exact ⟨hit, p⟩) fun h' eb => ⟨rfl, I.turned (t' := s.toks) (fun b o hb q => eb b o hb q) f0 f1 f3 f4 f5⟩
  self := fun A i s Q E st h => let ⟨⟨_, he⟩, _⟩ := st; wpAny_pyIter_enum he h
def iEb (k : Bool) (K : PySem.W.Frag) (ta : TA) : TI := fun σ H R => ta σ H fun vs H1 => ∃ a xs k0, vs = [.ref a, .int k0] ∧ -(2 ^ 63) ≤ k0 ∧ k0 < 2 ^ 63 ∧ SqB k K H1 a xs ∧ R (Ieb k K a k0) H1
theorem pi_eb (k : Bool) {X : Cx} {e e2 : Expr} {ta : TA} {p pos tpos : Pos} {elts : List Expr} {kk : Nat} (hg : Gl X "enumerate") (hm : X.mg "enumerate" = none) (ha : PA X [e, e2] ta)
    (hs : starEach [e, e2] X.env = (false, eval e X.env) :: starEach [e2] X.env := by rfl) (hpl : (backTo pos (starEach [e2] X.env)).any (·.1) = false := by rfl) :
    PI X (.Tuple elts kk tpos) (.Call (.Name "enumerate" p) [e, e2] [] pos) (iEb k X.K ta) := by
  refine ⟨fun pins s σ H R I h => ?_⟩
  refine Call_ (ld_blt I hg hm boot_enumerate (PyProof.Rows.callWith_type1 (thn (ha.run pos pins s σ H _ I h) fun us s1 ⟨vs, H1, I1, r1, q1⟩ => ?_) hs hpl))
  obtain ⟨a, xs, k0, ex, k1, k2, hq, q⟩ := q1
  subst ex
  cases r1 with
  | cons r rr =>
    cases rr with
    | cons r' rr =>
      cases rr
      cases r
      obtain ⟨t, rfl⟩ := r'
      obtain ⟨its, rv, p', hal⟩ := seqB I1 hq
      refine enum_begins (begB k a its.toArray) p' k1 k2 fun h' he ho hsz hk => wpAny_pyIter_enum he ?_
      have I2 : Inv X pins σ H1 { s1 with heap := h' } := I1.kept (t' := s1.toks) hk
      refine ⟨s1.heap.objs.size + 1, [s1.heap.objs.size + 1, s1.heap.objs.size], _, _, H1, rfl, I2, turn_eb k k0 a (s1.heap.objs.size + 1) s1.heap.objs.size, ⟨⟨.none, by simpa using he⟩, ItB.start ho, Nat.succ_ne_self _, Nat.ne_of_lt hal, Nat.ne_of_lt (Nat.lt_succ_of_lt hal)⟩, fun b hb => ?_, q⟩
      have e' : b = s1.heap.objs.size + 1 ∨ b = s1.heap.objs.size := by simpa using hb
      have hle : s1.heap.objs.size ≤ b := by
        rcases e' with z | z
        · rw [z]; exact Nat.le_add_right _ _
        · rw [z]; exact Nat.le_refl _
      exact I1.fpOk hle (I1.hok.fresh hle)
def iEb1 (k : Bool) (K : PySem.W.Frag) (ta : TA) : TI := fun σ H R => ta σ H fun vs H1 => ∃ a xs, vs = [.ref a] ∧ SqB k K H1 a xs ∧ R (Ieb k K a 0) H1
theorem pi_eb1 (k : Bool) {X : Cx} {e : Expr} {ta : TA} {p pos tpos : Pos} {elts : List Expr} {kk : Nat} (hg : Gl X "enumerate") (hm : X.mg "enumerate" = none) (ha : PA X [e] ta) (hs : starEach [e] X.env = [(false, eval e X.env)] := by rfl) :
    PI X (.Tuple elts kk tpos) (.Call (.Name "enumerate" p) [e] [] pos) (iEb1 k X.K ta) := by
  refine ⟨fun pins s σ H R I h => ?_⟩
  refine Call_ (ld_blt I hg hm boot_enumerate (PyProof.Rows.callWith_type1 (thn (ha.run pos pins s σ H _ I h) fun us s1 ⟨vs, H1, I1, r1, q1⟩ => ?_) hs rfl))
  obtain ⟨a, xs, ex, hq, q⟩ := q1
  subst ex
  cases r1 with
  | cons r rr =>
    cases rr
    cases r
    obtain ⟨its, rv, p', hal⟩ := seqB I1 hq
    refine enum_begins1 (begB k a its.toArray) p' fun h' he ho hsz hk => wpAny_pyIter_enum he ?_
    have I2 : Inv X pins σ H1 { s1 with heap := h' } := I1.kept (t' := s1.toks) hk
    refine ⟨s1.heap.objs.size + 1, [s1.heap.objs.size + 1, s1.heap.objs.size], _, _, H1, rfl, I2, turn_eb k 0 a (s1.heap.objs.size + 1) s1.heap.objs.size, ⟨⟨.none, by simpa using he⟩, ItB.start ho, Nat.succ_ne_self _, Nat.ne_of_lt hal, Nat.ne_of_lt (Nat.lt_succ_of_lt hal)⟩, fun b hb => ?_, q⟩
    have e' : b = s1.heap.objs.size + 1 ∨ b = s1.heap.objs.size := by simpa using hb
    have hle : s1.heap.objs.size ≤ b := by
      rcases e' with z | z
      · rw [z]; exact Nat.le_add_right _ _
      · rw [z]; exact Nat.le_refl _
    exact I1.fpOk hle (I1.hok.fresh hle)
def YEn (k0 : Int) (xs : List V) : Nat → Hp → V → Hp → Prop := fun i H v H' => ∃ T x, v = .ref T ∧ H T = none ∧ H' = upd H T (.tup [.int (k0 + (i : Int)), x]) ∧ xs[i]? = some x
theorem walk_eb {k : Bool} {K : PySem.W.Frag} {a : Addr} {k0 : Int} {xs : List V} : Walk (Ieb k K a k0) xs.length (fun H => SqB k K H a xs) (YEn k0 xs) :=
  ⟨fun i _ hi q => ⟨xs, xs[i], q, by simp [hi]⟩, fun _ q => ⟨xs, q, rfl⟩, fun _ _ _ _ _ q ⟨T, x, e1, e2, e3, e4⟩ => ⟨T, x, e1, e2, e3, e4 xs q⟩⟩
/-! zip of two, each a list or a tuple -/
def Izb (k l : Bool) (K : PySem.W.Frag) (a b : Addr) : It :=
  ⟨fun i H => ∃ (xs ys : List V) (x y : V), SqB k K H a xs ∧ SqB l K H b ys ∧ xs[i]? = some x ∧ ys[i]? = some y,
    fun i H v H' => ∃ T x y, v = .ref T ∧ H T = none ∧ H' = upd H T (.tup [x, y]) ∧ (∀ xs, SqB k K H a xs → xs[i]? = some x) ∧ ∀ ys, SqB l K H b ys → ys[i]? = some y,
    fun i H => ∃ xs ys : List V, SqB k K H a xs ∧ SqB l K H b ys ∧ xs.length = i ∧ ys.length = i⟩
theorem turn_zb {P : Program} {w : World} {K : PySem.W.Frag} {elts : List Expr} {kk : Nat} {tpos : Pos} (k l : Bool) {a b z TI TO i1 i2 : Addr} (D : ZipSep2 z TI TO i1 i2 [i1, a] [i2, b]) (h12 : i1 ≠ i2) (ha2 : a ≠ i1) (hb2 : b ≠ i2) :
    Turn P w K (.Tuple elts kk tpos) (Izb k l K a b) [z, TI, TO, i1, i2] z (fun i h => IsZip h z TI TO .none ∧ IsTupOf2 h TI (.ref i1) (.ref i2) ∧ (∃ x y, IsTupOf2 h TO x y) ∧ ItB k h i1 a i ∧ ItB l h i2 b i) where
  mem := by simp
  obj := fun i h st c hc => by
    obtain ⟨hz, hTI, ⟨x, y, hTO⟩, h1, h2⟩ := st
    have e' : c = z ∨ c = TI ∨ c = TO ∨ c = i1 ∨ c = i2 := by simpa using hc
    rcases e' with q | q | q | q | q
    · rw [q]; exact ⟨_, hz, fun v q => nomatch q⟩
    · rw [q]; exact ⟨_, hTI, fun v q => nomatch q⟩
    · rw [q]; exact ⟨_, hTO, fun v q => nomatch q⟩
    · rw [q]; exact h1.obj
    · rw [q]; exact h2.obj
  keep := fun i h h' st kp => by
    obtain ⟨hz, hTI, ⟨x, y, hTO⟩, h1, h2⟩ := st
    exact ⟨kp z (by simp) _ hz, kp TI (by simp) _ hTI, ⟨x, y, kp TO (by simp) _ hTO⟩, h1.keep fun o q => kp i1 (by simp) o q, h2.keep fun o q => kp i2 (by simp) o q⟩
  item := by
    intro X hP hw hK hc i pins s σ H E I hf st hg
    subst hP hw hK
    obtain ⟨hz, hTI, ⟨x0, y0, hTO⟩, h1, h2⟩ := st
    obtain ⟨xs, ys, x, y, hqx, hqy, hx, hy⟩ := hg
    obtain ⟨its, rv, p, _⟩ := seqB I hqx
    obtain ⟨its2, rv2, p2, _⟩ := seqB I hqy
    have hzl : z < s.heap.objs.size := Heap.lt_size hz
    have lt1 : i < its.toArray.size := by
      have := (List.getElem?_eq_some_iff.mp hx).1
      have := rv.length
      simp; omega
    have lt2 : i < its2.toArray.size := by
      have := (List.getElem?_eq_some_iff.mp hy).1
      have := rv2.length
      simp; omega
    refine wpAny_pyNext_zipD2_item D (drawB (prog := X.prog) (w := X.w) (A := X.A.in1) k (show X.A.in1.handled = none from I.ok.hd hc) i1 a ha2 its.toArray) (drawB (prog := X.prog) (w := X.w) (A := X.A.in1) l (show X.A.in1.handled = none from I.ok.hd hc) i2 b hb2 its2.toArray) hz hTI hTO ⟨h1, p⟩ ⟨h2, p2⟩ lt1 lt2 fun u u2 h' tk hP1 hP2 z' TO' h1' h2' hT hsz hk => ?_
    obtain ⟨v1, hv1, ru⟩ := rv.get hx
    obtain ⟨v2, hv2, ru2⟩ := rv2.get hy
    have eu : u = v1 := by
      have z : its[i]? = some u := by simpa using hP1
      rw [hv1] at z
      exact (Option.some.inj z).symm
    have eu2 : u2 = v2 := by
      have z : its2[i]? = some u2 := by simpa using hP2
      rw [hv2] at z
      exact (Option.some.inj z).symm
    subst eu eu2
    refine ⟨_, rfl, wpAny_letOwnedTupleGo_zip (s := { s with heap := h', toks := tk }) z' fun h'' z'' sb => ?_⟩
    have hT2 : h''.get? s.heap.objs.size = some { cls := .type "tuple", data := .seq #[u, u2] } := (sb.2 _ (Nat.ne_of_gt hzl)).trans hT
    have new : ObjOk X.prog X.w (upd H s.heap.objs.size (.tup [x, y])) h'' s.heap.objs.size (.tup [x, y]) :=
      ⟨by show 2 ≤ sizeLine; decide, [u, u2], .cons ru (.cons ru2 .nil), ⟨_, hT2, rfl, _, rfl⟩⟩
    have I1 : Inv X pins σ (upd H s.heap.objs.size (.tup [x, y])) { s with heap := h'', toks := tk } :=
      I.turnedNew (t' := tk) (ch := [z, TI, TO, i1, i2]) (fun c o hb q => (sb.2 c (fun q' => hb (by simp [q']))).trans (hk c o (fun q' => hb (by simp [q'])) (fun q' => hb (by simp [q'])) (fun q' => hb (by simp [q'])) (fun q' => hb (by simp [q'])) q)) hf (Nat.le_refl _) new
    refine ⟨.ref s.heap.objs.size, _, I1, rfl, ⟨_, x, y, rfl, I.hok.fresh (Nat.le_refl _), rfl, fun l' hl => by rw [seqB_inj I hl hqx]; exact hx, fun l' hl => by rw [seqB_inj I hl hqy]; exact hy⟩, ⟨z'', ?_, ⟨u, u2, ?_⟩, ?_, ?_⟩, fun c hcm => ?_⟩
    · exact (sb.2 _ D.TIz).trans (hk _ _ D.TIz D.TITO D.TIi1 D.TIi2 hTI)
    · exact (sb.2 _ D.TOz).trans TO'
    · exact h1'.1.keep fun o q => (sb.2 _ D.zi1.symm).trans q
    · exact h2'.1.keep fun o q => (sb.2 _ D.zi2.symm).trans q
    · have hlt : c < s.heap.objs.size := by
        have e' : c = z ∨ c = TI ∨ c = TO ∨ c = i1 ∨ c = i2 := by simpa using hcm
        rcases e' with q | q | q | q | q
        · rw [q]; exact hzl
        · rw [q]; exact Heap.lt_size hTI
        · rw [q]; exact Heap.lt_size hTO
        · rw [q]; obtain ⟨_, e1, _⟩ := h1.obj; exact Heap.lt_size e1
        · rw [q]; obtain ⟨_, e2, _⟩ := h2.obj; exact Heap.lt_size e2
      rw [upd_ne (Nat.ne_of_lt hlt)]
      exact (hf c hcm).1
  done := by
    intro X hP hw hK hc i pins s σ H E I hf st hg
    subst hP hw hK
    obtain ⟨hz, hTI, ⟨x0, y0, hTO⟩, h1, h2⟩ := st
    obtain ⟨xs, ys, hqx, hqy, e1, e2⟩ := hg
    obtain ⟨its, rv, p, _⟩ := seqB I hqx
    obtain ⟨its2, rv2, p2, _⟩ := seqB I hqy
    have l1 := rv.length
    have l2 := rv2.length
    exact wpAny_pyNext_zipD2_end D (drawB (prog := X.prog) (w := X.w) (A := X.A.in1) k (show X.A.in1.handled = none from I.ok.hd hc) i1 a ha2 its.toArray) (drawB (prog := X.prog) (w := X.w) (A := X.A.in1) l (show X.A.in1.handled = none from I.ok.hd hc) i2 b hb2 its2.toArray) hz hTI hTO ⟨h1, p⟩ ⟨h2, p2⟩ (by simp; omega) (by simp; omega) (.inl (by simp; omega)) fun h' tk hk => ⟨rfl, I.turnedL (t' := tk) (ch := [z, TI, TO, i1, i2]) (fun c o hb q =>
      hk c o (fun q' => hb (by simp [q'])) (fun q' => hb (by simp [q'])) (fun q' => hb (by simp [q'])) (fun q' => hb (by simp [q'])) q) hf⟩
  self := fun A i s Q E st h => wpAny_pyIter_zip st.1 h
def iZb (k l : Bool) (K : PySem.W.Frag) (ta : TA) : TI := fun σ H R => ta σ H fun vs H1 => ∃ a b xs ys, vs = [.ref a, .ref b] ∧ SqB k K H1 a xs ∧ SqB l K H1 b ys ∧ R (Izb k l K a b) H1
theorem pi_zb (k l : Bool) {X : Cx} {e e2 : Expr} {ta : TA} {p pos tpos : Pos} {elts : List Expr} {kk : Nat} (hg : Gl X "zip") (hm : X.mg "zip" = none) (ha : PA X [e, e2] ta)
    (hs : starEach [e, e2] X.env = (false, eval e X.env) :: starEach [e2] X.env := by rfl) (hpl : (backTo pos (starEach [e2] X.env)).any (·.1) = false := by rfl) :
    PI X (.Tuple elts kk tpos) (.Call (.Name "zip" p) [e, e2] [] pos) (iZb k l X.K ta) := by
  refine ⟨fun pins s σ H R I h => ?_⟩
  refine Call_ (ld_blt I hg hm PyProof.Rows.boot_zip (PyProof.Rows.callWith_type1 (thn (ha.run pos pins s σ H _ I h) fun us s1 ⟨vs, H1, I1, r1, q1⟩ => ?_) hs hpl))
  obtain ⟨a, b, xs, ys, ex, hqx, hqy, q⟩ := q1
  subst ex
  cases r1 with
  | cons r rr =>
    cases rr with
    | cons r' rr =>
      cases rr
      cases r
      cases r'
      obtain ⟨its, rv, p1, la⟩ := seqB I1 hqx
      obtain ⟨its2, rv2, p2, lb⟩ := seqB I1 hqy
      refine zip_begins2 (begB k a its.toArray) (begB l b its2.toArray) p1 p2 fun h' hz hTI hTO h1 h2 hsz hk => wpAny_pyIter_zip hz ?_
      have I2 : Inv X pins σ H1 { s1 with heap := h' } := I1.kept (t' := s1.toks) hk
      have D : ZipSep2 (s1.heap.objs.size + 4) (s1.heap.objs.size + 2) (s1.heap.objs.size + 3) s1.heap.objs.size (s1.heap.objs.size + 1) [s1.heap.objs.size, a] [s1.heap.objs.size + 1, b] := zip_sep2 (fun c hc => by rw [List.mem_singleton.mp hc]; exact la) (fun c hc => by rw [List.mem_singleton.mp hc]; exact lb)
      refine ⟨s1.heap.objs.size + 4, [s1.heap.objs.size + 4, s1.heap.objs.size + 2, s1.heap.objs.size + 3, s1.heap.objs.size, s1.heap.objs.size + 1], _, _, H1, rfl, I2, turn_zb k l D (Nat.ne_of_lt (Nat.lt_succ_self _)) (Nat.ne_of_lt la) (Nat.ne_of_lt (Nat.lt_succ_of_lt lb)), ⟨hz, hTI, ⟨_, _, hTO⟩, ItB.start h1, ItB.start h2⟩, fun c hcm => ?_, q⟩
      have e' : c = s1.heap.objs.size + 4 ∨ c = s1.heap.objs.size + 2 ∨ c = s1.heap.objs.size + 3 ∨ c = s1.heap.objs.size ∨ c = s1.heap.objs.size + 1 := by simpa using hcm
      have hle : s1.heap.objs.size ≤ c := by
        rcases e' with z | z | z | z | z
        · rw [z]; exact Nat.le_add_right _ _
        · rw [z]; exact Nat.le_add_right _ _
        · rw [z]; exact Nat.le_add_right _ _
        · rw [z]; exact Nat.le_refl _
        · rw [z]; exact Nat.le_add_right _ _
      exact I1.fpOk hle (I1.hok.fresh hle)
theorem walk_zb {k l : Bool} {K : PySem.W.Frag} {a b : Addr} {xs ys : List V} (hl : xs.length = ys.length) : Walk (Izb k l K a b) xs.length (fun H => SqB k K H a xs ∧ SqB l K H b ys) (YPair (fun i => xs[i]?) (fun i => ys[i]?)) :=
  ⟨fun i _ hi q => ⟨xs, ys, xs[i], ys[i], q.1, q.2, by simp [hi], by simp⟩, fun _ q => ⟨xs, ys, q.1, q.2, rfl, hl.symm⟩, fun _ _ _ _ _ q ⟨T, x, y, e1, e2, e3, e4, e5⟩ => ⟨T, x, y, e1, e2, e3, e4 xs q.1, e5 ys q.2⟩⟩
end K64


namespace K64
open PySem PySem.Spec PyProof.Rows L2
/-! ### Circles on the heap -/
def CiV (C : Ci) : List V := [.int C.b, .int C.c, .int C.x, .int C.y]
/-- a circle as a tuple, as a tuple or a list -/
def CT (H : Hp) (a : Addr) (C : Ci) : Prop := H a = some (.tup (CiV C))
def CS (H : Hp) (a : Addr) (C : Ci) : Prop := H a = some (.tup (CiV C)) ∨ H a = some (.lst (CiV C))
theorem CT.cs {H : Hp} {a : Addr} {C : Ci} (h : CT H a C) : CS H a C := .inl h
theorem CT.ex {H H' : Hp} {a : Addr} {C : Ci} (e : Evl.Ex H H') (h : CT H a C) : CT H' a C := e _ _ h
theorem CS.ex {H H' : Hp} {a : Addr} {C : Ci} (e : Evl.Ex H H') (h : CS H a C) : CS H' a C := h.imp (e _ _) (e _ _)
/-- not too great -/
def BdN (n : Nat) (C : Ci) : Prop := C.b.natAbs < 2 ^ n ∧ C.c.natAbs < 2 ^ n ∧ C.x.natAbs < 2 ^ n ∧ C.y.natAbs < 2 ^ n
def Bd (C : Ci) : Prop := ∃ n : Nat, 0 < n ∧ n ≤ 400000 ∧ BdN n C
theorem ev_mulW {σ : L2.St} {H : Hp} {ta tb : TE} {i j : Int} {a b : Nat} (ha : Evl.Ev ta σ H (.int i)) (hb : Evl.Ev tb σ H (.int j)) (hi : i.natAbs < 2 ^ a) (hj : j.natAbs < 2 ^ b) (h0 : 0 < a) (h1 : 0 < b) (h : a + b ≤ 1000000) :
    Evl.Ev (tOp (rI CMulW fun i j => .int (i * j)) ta tb) σ H (.int (i * j)) := Evl.ev_op ha hb (Evl.rv_I (wide_mul hi hj h0 h1 h))
abbrev rAdd : R2 := rI0 fun i j => .int (i + j)
abbrev rSub : R2 := rI0 fun i j => .int (i - j)
abbrev rMulW : R2 := rI CMulW fun i j => .int (i * j)
abbrev rMul : R2 := rI CMul fun i j => .int (i * j)
theorem ev_mulL {σ : L2.St} {H : Hp} {ta tb : TE} {i j : Int} (ha : Evl.Ev ta σ H (.int i)) (hb : Evl.Ev tb σ H (.int j)) (h : -(2 ^ 64) < i ∧ i < 2 ^ 64) : Evl.Ev (tOp rMul ta tb) σ H (.int (i * j)) := Evl.ev_op ha hb (Evl.rv_I (.inl h))
theorem ev_add {σ : L2.St} {H : Hp} {ta tb : TE} {i j : Int} (ha : Evl.Ev ta σ H (.int i)) (hb : Evl.Ev tb σ H (.int j)) : Evl.Ev (tOp rAdd ta tb) σ H (.int (i + j)) := Evl.ev_op ha hb Evl.rv_I0
theorem ev_sub {σ : L2.St} {H : Hp} {ta tb : TE} {i j : Int} (ha : Evl.Ev ta σ H (.int i)) (hb : Evl.Ev tb σ H (.int j)) : Evl.Ev (tOp rSub ta tb) σ H (.int (i - j)) := Evl.ev_op ha hb Evl.rv_I0
theorem ev_gt {σ : L2.St} {H : Hp} {ta tb : TE} {i j : Int} (ha : Evl.Ev ta σ H (.int i)) (hb : Evl.Ev tb σ H (.int j)) : Evl.Ev (tOp (rI0 fun i j => .bl (decide (j < i))) ta tb) σ H (.bl (decide (j < i))) := Evl.ev_op ha hb Evl.rv_I0
theorem ev_lt {σ : L2.St} {H : Hp} {ta tb : TE} {i j : Int} (ha : Evl.Ev ta σ H (.int i)) (hb : Evl.Ev tb σ H (.int j)) : Evl.Ev (tOp (rI0 fun i j => .bl (decide (i < j))) ta tb) σ H (.bl (decide (i < j))) := Evl.ev_op ha hb Evl.rv_I0
theorem ev_le {σ : L2.St} {H : Hp} {ta tb : TE} {i j : Int} (ha : Evl.Ev ta σ H (.int i)) (hb : Evl.Ev tb σ H (.int j)) : Evl.Ev (tOp (rI0 fun i j => .bl (decide (i ≤ j))) ta tb) σ H (.bl (decide (i ≤ j))) := Evl.ev_op ha hb Evl.rv_I0
theorem ev_ixT {K : PySem.W.Frag} {σ : L2.St} {H : Hp} {ta tb : TE} {p : Addr} {xs : List V} {i : Int} {v : V} (ha : Evl.Ev ta σ H (.ref p)) (hb : Evl.Ev tb σ H (.int i)) (h : H p = some (.tup xs)) (hv : atI xs i = some v) : Evl.Ev (tOp (rIxT K) ta tb) σ H v := Evl.ev_op ha hb (Evl.rv_ixT (SqT.of h) hv)
theorem ev_ixL {K : PySem.W.Frag} {σ : L2.St} {H : Hp} {ta tb : TE} {p : Addr} {xs : List V} {i : Int} {v : V} (ha : Evl.Ev ta σ H (.ref p)) (hb : Evl.Ev tb σ H (.int i)) (h : H p = some (.lst xs)) (hv : atI xs i = some v) : Evl.Ev (tOp (rIxL K) ta tb) σ H v := Evl.ev_op ha hb (Evl.rv_ixL (SqL.of h) hv)
theorem ev_eqI {σ : L2.St} {H : Hp} {ta tb : TE} {i j : Int} (ha : Evl.Ev ta σ H (.int i)) (hb : Evl.Ev tb σ H (.int j)) : Evl.Ev (tOp rEq ta tb) σ H (.bl (decide (i = j))) := by
  have := Evl.ev_op ha hb (Evl.rv_eq (x := .int i) (y := .int j) rfl)
  have e : decide (V.int i = V.int j) = decide (i = j) := by
    by_cases h : i = j
    · subst h; simp
    · have : V.int i ≠ V.int j := fun z => h (V.int.inj z)
      simp [h]
  rw [e] at this
  exact this
section
variable {P : Program} {w : World} {K : PySem.W.Frag} {mg : Str → Option Value} {base : Heap} {a : Ad}
/-! ### is_circle -/
def spIsC : Sp := fun vs H Q _ => ∃ (p : Addr) (C : Ci), vs = [.ref p] ∧ CS H p C ∧ Bd C ∧ ∀ H', Evl.Ex H H' → Q (.bl (decide C.ok)) H'
theorem sc_is_circle : FnScope ["circle", "b", "c", "x", "y"] ["circle"] (defScope s_is_circle) := ⟨rfl, rfl, rfl, by decide +kernel, rfl, by decide +kernel, by decide +kernel⟩
theorem ev_isc {H : Hp} {C : Ci} {p : Addr} (hB : Bd C) : Evl.Ev (tOp rEq (tOp rSub (tOp rAdd (tOp rMulW (tVar 3) (tVar 3)) (tOp rMulW (tVar 4) (tVar 4))) (tOp rMulW (tVar 1) (tVar 2))) (tC (.int 1)))
    [some (.ref p), some (.int C.b), some (.int C.c), some (.int C.x), some (.int C.y)] H (.bl (decide C.ok)) := by
  obtain ⟨n, n0, n1, b1, b2, b3, b4⟩ := hB
  exact ev_eqI (ev_sub (ev_add (ev_mulW (Evl.ev_var rfl) (Evl.ev_var rfl) b3 b3 n0 n0 (by omega)) (ev_mulW (Evl.ev_var rfl) (Evl.ev_var rfl) b4 b4 n0 n0 (by omega))) (ev_mulW (Evl.ev_var rfl) (Evl.ev_var rfl) b1 b2 n0 n0 (by omega))) Evl.ev_c
theorem ok_is_circle (T : Txt K mg a) : Okd P w K mg base CX0 1 "is_circle" a.is_circle ["circle"] spIsC := by
  refine T.is_circle.ok sc_is_circle (fun vs H Q E h => ?_) (fun cdv A outer s H vs Q E hr h => ?_)
  · obtain ⟨p, C, rfl, _⟩ := h
    rfl
  · obtain ⟨p, C, rfl, hC, hB, k⟩ := h
    have nd := sc_is_circle.nd
    rcases hC with hC | hC
    · refine ⟨_, pss_cons (ps_if (pt_cmpR op_ne (pe_callB call_len_seq (by rfl) T.b_len PySem.boot_len (pa_cons (pv 0) pa_nil)) pe_int (nomark _)) (pss_one (ps_ret pe_bl)) pss_nil)
        (pss_cons (ps_asg (pv 0) (pg_tup (by rfl) (pgs_cons (pg_name (i := 1) nd rfl (.inl rfl)) (pgs_cons (pg_name (i := 2) nd rfl (.inl rfl)) (pgs_cons (pg_name (i := 3) nd rfl (.inl rfl)) (pgs_cons (pg_name (i := 4) nd rfl (.inl rfl)) pgs_nil))))))
        (pss_one (ps_ret (pe_cmpR op_eq (pe_op op_sub (pe_op op_add (pe_op op_mulW (pv 3) (pv 3)) (pe_op op_mulW (pv 4) (pv 4))) (pe_op op_mulW (pv 1) (pv 2))) pe_int (nomark _))))), ?_⟩
      refine ⟨_, rfl, p, _, rfl, .inr (SqT.of hC), rfl, _, rfl, iteF ?_⟩
      refine ⟨_, rfl, p, _, rfl, SqT.of hC, rfl, _, _, rfl, _, _, rfl, _, _, rfl, _, _, rfl, rfl, ?_⟩
      exact ev_isc hB H (Evl.Ex.refl H) _ k
    · refine ⟨_, pss_cons (ps_if (pt_cmpR op_ne (pe_callB call_len_seq (by rfl) T.b_len PySem.boot_len (pa_cons (pv 0) pa_nil)) pe_int (nomark _)) (pss_one (ps_ret pe_bl)) pss_nil)
        (pss_cons (ps_asg (pv 0) (pg_lst (by rfl) (pgs_cons (pg_name (i := 1) nd rfl (.inl rfl)) (pgs_cons (pg_name (i := 2) nd rfl (.inl rfl)) (pgs_cons (pg_name (i := 3) nd rfl (.inl rfl)) (pgs_cons (pg_name (i := 4) nd rfl (.inl rfl)) pgs_nil))))))
        (pss_one (ps_ret (pe_cmpR op_eq (pe_op op_sub (pe_op op_add (pe_op op_mulW (pv 3) (pv 3)) (pe_op op_mulW (pv 4) (pv 4))) (pe_op op_mulW (pv 1) (pv 2))) pe_int (nomark _))))), ?_⟩
      refine ⟨_, rfl, p, _, rfl, .inl (SqL.of hC), rfl, _, rfl, iteF ?_⟩
      refine ⟨_, rfl, p, _, rfl, SqL.of hC, rfl, _, _, rfl, _, _, rfl, _, _, rfl, _, _, rfl, rfl, ?_⟩
      exact ev_isc hB H (Evl.Ex.refl H) _ k
end
end K64


namespace K64
open PySem PySem.Spec PyProof.Rows L2
section
variable {P : Program} {w : World} {K : PySem.W.Frag} {mg : Str → Option Value} {base : Heap} {a : Ad}
/-! ### check_circle -/
def spChk : Sp := fun vs H Q _ => ∃ (p : Addr) (C : Ci), vs = [.ref p] ∧ CS H p C ∧ Bd C ∧ C.ok ∧ ∀ H', Evl.Ex H H' → Q .non H'
def spChkX (c : Addr) : Sp := fun vs H Q E => ∃ (p : Addr) (C : Ci), vs = [.ref p] ∧ CS H p C ∧ Bd C ∧ (C.ok → ∀ H', Evl.Ex H H' → Q .non H') ∧ (¬ C.ok → ∀ H', Evl.Ex H H' → E (.ref c) none H')
theorem sc_check_circle : FnScope ["circle"] ["circle"] (defScope s_check_circle) := ⟨rfl, rfl, rfl, by decide +kernel, rfl, by decide +kernel, by decide +kernel⟩
theorem ok_check_circle (T : Txt K mg a) : Okd P w K mg base CX0 2 "check_circle" a.check_circle ["circle"] spChk := by
  refine T.check_circle.ok sc_check_circle (fun vs H Q E h => ?_) (fun cdv A outer s H vs Q E hr h => ?_)
  · obtain ⟨p, C, rfl, _⟩ := h
    rfl
  · obtain ⟨p, C, rfl, hC, hB, ok, k⟩ := h
    refine ⟨_, pss_one (ps_if (pt_not (pt_val (pe_c (ok_is_circle T) hr pass0 (pa_cons (pv 0) pa_nil)))) pss_never pss_nil), ?_⟩
    refine ⟨_, rfl, p, C, rfl, hC, hB, fun H' e => ⟨_, rfl, ?_⟩⟩
    rw [decide_eq_true ok]
    exact iteF (k H' e)
theorem okX_check_circle (T : Txt K mg a) : Okd P w K mg base (L2.CX P w) 2 "check_circle" a.check_circle ["circle"] (spChkX a.cCircle) := by
  refine T.check_circle.okX sc_check_circle (fun vs H Q E h => ?_) (fun cdv A outer s H vs Q E hr h => ?_)
  · obtain ⟨p, C, rfl, _⟩ := h
    rfl
  · obtain ⟨p, C, rfl, hC, hB, k, kx⟩ := h
    refine ⟨_, pss_one (ps_if (pt_not (pt_val (PE.nox (pe_c (ok_is_circle T) hr pass0 (pa_cons (pv 0) pa_nil))))) (pss_one (ps_raise rfl (takes_of rfl rfl rfl rfl) (pmk_own PySem.F.excBase_ValueError T.xCircle T.gCircle T.kCircle (raises_own T.bCircle T.yCircle) rfl))) pss_nil), ?_⟩
    refine ⟨_, rfl, p, C, rfl, hC, hB, fun H' e => ⟨_, rfl, ?_⟩⟩
    by_cases ok : C.ok
    · rw [decide_eq_true ok]
      exact iteF (k ok H' e)
    · rw [decide_eq_false ok]
      exact iteT (kx ok H' e)
/-! ### double -/
def spDbl : Sp := fun vs H Q _ => ∃ (p q : Addr) (A C : Ci), vs = [.ref p, .ref q] ∧ CT H p A ∧ CS H q C ∧ Bd A ∧ Bd C ∧ A.ok ∧ C.ok ∧ ∀ H', Evl.Ex H H' → Q (.int (dbl A C)) H'
theorem sc_double : FnScope ["one", "other", "b", "c", "x", "y", "far_b", "far_c", "far_x", "far_y"] ["one", "other"] (defScope s_double) := ⟨rfl, rfl, rfl, by decide +kernel, rfl, by decide +kernel, by decide +kernel⟩
theorem ev_dbl {H : Hp} {A C : Ci} {p q : Addr} (hA : Bd A) (hC : Bd C) : Evl.Ev (tOp rSub (tOp rMul (tC (.int 2)) (tOp rAdd (tOp rMulW (tVar 4) (tVar 8)) (tOp rMulW (tVar 5) (tVar 9)))) (tOp rAdd (tOp rMulW (tVar 2) (tVar 7)) (tOp rMulW (tVar 6) (tVar 3))))
    [some (.ref p), some (.ref q), some (.int A.b), some (.int A.c), some (.int A.x), some (.int A.y), some (.int C.b), some (.int C.c), some (.int C.x), some (.int C.y)] H (.int (dbl A C)) := by
  obtain ⟨n, n0, n1, b1, b2, b3, b4⟩ := hA
  obtain ⟨m, m0, m1, d1, d2, d3, d4⟩ := hC
  exact ev_sub (ev_mulL Evl.ev_c (ev_add (ev_mulW (Evl.ev_var rfl) (Evl.ev_var rfl) b3 d3 n0 m0 (by omega)) (ev_mulW (Evl.ev_var rfl) (Evl.ev_var rfl) b4 d4 n0 m0 (by omega))) (by decide))
    (ev_add (ev_mulW (Evl.ev_var rfl) (Evl.ev_var rfl) b1 d2 n0 m0 (by omega)) (ev_mulW (Evl.ev_var rfl) (Evl.ev_var rfl) d1 b2 m0 n0 (by omega)))
theorem ok_double (T : Txt K mg a) : Okd P w K mg base CX0 3 "double" a.double ["one", "other"] spDbl := by
  refine T.double.ok sc_double (fun vs H Q E h => ?_) (fun cdv A outer s H vs Q E hr h => ?_)
  · obtain ⟨p, q, A, C, rfl, _⟩ := h
    rfl
  · obtain ⟨p, q, A, C, rfl, hA, hC, bA, bC, okA, okC, k⟩ := h
    have nd := sc_double.nd
    have O := ok_check_circle (P := P) (w := w) (base := base) T
    rcases hC with hC | hC
    · refine ⟨_, pss_cons (ps_expr (pe_c O hr pass0 (pa_cons (pv 0) pa_nil))) (pss_cons (ps_expr (pe_c O hr pass0 (pa_cons (pv 1) pa_nil)))
        (pss_cons (ps_asg (pv 0) (pg_tup (by rfl) (pgs_cons (pg_name (i := 2) nd rfl (.inl rfl)) (pgs_cons (pg_name (i := 3) nd rfl (.inl rfl)) (pgs_cons (pg_name (i := 4) nd rfl (.inl rfl)) (pgs_cons (pg_name (i := 5) nd rfl (.inl rfl)) pgs_nil))))))
        (pss_cons (ps_asg (pv 1) (pg_tup (by rfl) (pgs_cons (pg_name (i := 6) nd rfl (.inl rfl)) (pgs_cons (pg_name (i := 7) nd rfl (.inl rfl)) (pgs_cons (pg_name (i := 8) nd rfl (.inl rfl)) (pgs_cons (pg_name (i := 9) nd rfl (.inl rfl)) pgs_nil))))))
        (pss_one (ps_ret (pe_op op_sub (pe_op op_mul pe_int (pe_op op_add (pe_op op_mulW (pv 4) (pv 8)) (pe_op op_mulW (pv 5) (pv 9)))) (pe_op op_add (pe_op op_mulW (pv 2) (pv 7)) (pe_op op_mulW (pv 6) (pv 3))))))))), ?_⟩
      refine ⟨_, rfl, p, A, rfl, hA.cs, bA, okA, fun H1 e1 => ?_⟩
      refine ⟨_, rfl, q, C, rfl, .inl (e1 _ _ hC), bC, okC, fun H2 e2 => ?_⟩
      refine ⟨_, rfl, p, _, rfl, SqT.of (e2 _ _ (e1 _ _ hA)), rfl, _, _, rfl, _, _, rfl, _, _, rfl, _, _, rfl, rfl, ?_⟩
      refine ⟨_, rfl, q, _, rfl, SqT.of (e2 _ _ (e1 _ _ hC)), rfl, _, _, rfl, _, _, rfl, _, _, rfl, _, _, rfl, rfl, ?_⟩
      exact ev_dbl bA bC H2 (Evl.Ex.refl H2) _ fun H3 e3 => k H3 ((e1.trans e2).trans e3)
    · refine ⟨_, pss_cons (ps_expr (pe_c O hr pass0 (pa_cons (pv 0) pa_nil))) (pss_cons (ps_expr (pe_c O hr pass0 (pa_cons (pv 1) pa_nil)))
        (pss_cons (ps_asg (pv 0) (pg_tup (by rfl) (pgs_cons (pg_name (i := 2) nd rfl (.inl rfl)) (pgs_cons (pg_name (i := 3) nd rfl (.inl rfl)) (pgs_cons (pg_name (i := 4) nd rfl (.inl rfl)) (pgs_cons (pg_name (i := 5) nd rfl (.inl rfl)) pgs_nil))))))
        (pss_cons (ps_asg (pv 1) (pg_lst (by rfl) (pgs_cons (pg_name (i := 6) nd rfl (.inl rfl)) (pgs_cons (pg_name (i := 7) nd rfl (.inl rfl)) (pgs_cons (pg_name (i := 8) nd rfl (.inl rfl)) (pgs_cons (pg_name (i := 9) nd rfl (.inl rfl)) pgs_nil))))))
        (pss_one (ps_ret (pe_op op_sub (pe_op op_mul pe_int (pe_op op_add (pe_op op_mulW (pv 4) (pv 8)) (pe_op op_mulW (pv 5) (pv 9)))) (pe_op op_add (pe_op op_mulW (pv 2) (pv 7)) (pe_op op_mulW (pv 6) (pv 3))))))))), ?_⟩
      refine ⟨_, rfl, p, A, rfl, hA.cs, bA, okA, fun H1 e1 => ?_⟩
      refine ⟨_, rfl, q, C, rfl, .inr (e1 _ _ hC), bC, okC, fun H2 e2 => ?_⟩
      refine ⟨_, rfl, p, _, rfl, SqT.of (e2 _ _ (e1 _ _ hA)), rfl, _, _, rfl, _, _, rfl, _, _, rfl, _, _, rfl, rfl, ?_⟩
      refine ⟨_, rfl, q, _, rfl, SqL.of (e2 _ _ (e1 _ _ hC)), rfl, _, _, rfl, _, _, rfl, _, _, rfl, _, _, rfl, rfl, ?_⟩
      exact ev_dbl bA bC H2 (Evl.Ex.refl H2) _ fun H3 e3 => k H3 ((e1.trans e2).trans e3)
/-! ### are_outward, touch -/
instance (A C : Ci) : Decidable (Outw A C) := by unfold Outw; infer_instance
def spOut : Sp := fun vs H Q _ => ∃ (p q : Addr) (A C : Ci), vs = [.ref p, .ref q] ∧ CT H p A ∧ CT H q C ∧ ∀ H', Evl.Ex H H' → Q (.bl (decide (Outw A C))) H'
theorem sc_are_outward : FnScope ["one", "other", "b"] ["one", "other"] (defScope s_are_outward) := ⟨rfl, rfl, rfl, by decide +kernel, rfl, by decide +kernel, by decide +kernel⟩
theorem ok_are_outward (T : Txt K mg a) : Okd P w K mg base CX0 1 "are_outward" a.are_outward ["one", "other"] spOut := by
  refine T.are_outward.ok sc_are_outward (fun vs H Q E h => ?_) (fun cdv A outer s H vs Q E hr h => ?_)
  · obtain ⟨p, q, A, C, rfl, _⟩ := h
    rfl
  · obtain ⟨p, q, A, C, rfl, hA, hC, k⟩ := h
    have nd := sc_are_outward.nd
    refine ⟨_, pss_cons (ps_set (i := 2) nd rfl (.inl rfl) (pe_op op_add (pe_ix ix_tup (pv 0) pe_int (fun _ _ => rfl)) (pe_ix ix_tup (pv 1) pe_int (fun _ _ => rfl))))
      (pss_one (ps_ret (pe_or (pe_cmpR op_gt (pv 2) pe_int (nomark _)) (pe_one (pe_and (pe_cmpR op_eq (pv 2) pe_int (nomark _)) (pe_one (pe_cmpR op_gt (pe_op op_add (pe_ix ix_tup (pv 0) pe_int (fun _ _ => rfl)) (pe_ix ix_tup (pv 1) pe_int (fun _ _ => rfl))) pe_int (nomark _)))))))), ?_⟩
    refine Evl.q_asg (ev_add (ev_ixT (Evl.ev_var rfl) Evl.ev_c hA rfl) (ev_ixT (Evl.ev_var rfl) Evl.ev_c hC rfl)) fun H1 e1 => ?_
    refine Evl.s_ret (Evl.ev_is (Evl.ev_orV (ev_gt (Evl.ev_var rfl) Evl.ev_c) (fun _ => Evl.ev_andV (ev_eqI (Evl.ev_var rfl) Evl.ev_c) (fun _ => ev_gt (ev_add (ev_ixT (Evl.ev_var rfl) Evl.ev_c (e1 _ _ hA) rfl) (ev_ixT (Evl.ev_var rfl) Evl.ev_c (e1 _ _ hC) rfl)) Evl.ev_c))) ?_) fun H2 e2 => k H2 (e1.trans e2)
    unfold Outw
    simp only [← Bool.decide_or, ← Bool.decide_and]
def spTouch : Sp := fun vs H Q _ => ∃ (p q : Addr) (A C : Ci), vs = [.ref p, .ref q] ∧ CT H p A ∧ CT H q C ∧ Bd A ∧ Bd C ∧ A.ok ∧ C.ok ∧ Touch A C ∧ ∀ H', Evl.Ex H H' → Q (.bl true) H'
theorem sc_touch : FnScope ["one", "other"] ["one", "other"] (defScope s_touch) := ⟨rfl, rfl, rfl, by decide +kernel, rfl, by decide +kernel, by decide +kernel⟩
theorem ok_touch (T : Txt K mg a) : Okd P w K mg base CX0 4 "touch" a.touch ["one", "other"] spTouch := by
  refine T.touch.ok sc_touch (fun vs H Q E h => ?_) (fun cdv A outer s H vs Q E hr h => ?_)
  · obtain ⟨p, q, A, C, rfl, _⟩ := h
    rfl
  · obtain ⟨p, q, A, C, rfl, hA, hC, bA, bC, okA, okC, ⟨t1, t2⟩, k⟩ := h
    refine ⟨_, pss_one (ps_ret (pe_and (pe_cmpR op_eq (pe_c (ok_double T) hr pass0 (pa_cons (pv 0) (pa_cons (pv 1) pa_nil))) (pe_un un_neg pe_int) (nomark _)) (pe_one (pe_c (ok_are_outward T) (hr.mono (by decide)) pass0 (pa_cons (pv 0) (pa_cons (pv 1) pa_nil)))))), ?_⟩
    refine ⟨_, rfl, _, rfl, p, q, A, C, rfl, hA, hC.cs, bA, bC, okA, okC, fun H1 e1 => ?_⟩
    rw [t1]
    refine ⟨_, rfl, rfl, true, rfl, iteT ?_⟩
    refine ⟨_, rfl, _, rfl, p, q, A, C, rfl, e1 _ _ hA, e1 _ _ hC, fun H2 e2 => ?_⟩
    rw [decide_eq_true t2]
    exact k H2 (e1.trans e2)
end
end K64


namespace K64
open PySem PySem.Spec PyProof.Rows L2 Evl
/-! ### Comprehensions that give known values -/
theorem SqB.ex {k : Bool} {K : PySem.W.Frag} {H H' : Hp} {a : Addr} {xs : List V} (e : Ex H H') (h : SqB k K H a xs) : SqB k K H' a xs := by
  cases k
  · exact ex_t e h
  · exact ex_l e h
section
variable {K : PySem.W.Frag} {σ : L2.St} {H H' : Hp} {ta tb te tx tl : TE} {t u : TT} {x y z v : V}
theorem et_yes {b : Bool} (e : b = true) : EvT tYes σ H b := fun H1 _ Q q => by
  subst e
  exact q H1 (Ex.refl H1)
theorem el_is {xs ys : List V} (h : EvL te σ H xs) (e : xs = ys) : EvL te σ H ys := e ▸ h
theorem el_lcT {a : Addr} {xs : List V} {tl : TE} {j : Nat} {vs : List Nat} (f : Nat → Bool) (v : Nat → V) (h : Ev tl σ H (.ref a)) (hx : SqT K H a xs) (hz : xs.length ≤ 40000) (hw : ∀ x, wipe ((wipe σ vs).set j (some x)) vs = wipe σ vs)
    (ht : ∀ (i : Nat) (x : V) H1, Ex H H1 → xs[i]? = some x → EvT t ((wipe σ vs).set j (some x)) H1 (f i)) (he : ∀ (i : Nat) (x : V) H1, Ex H H1 → xs[i]? = some x → f i = true → Ev te ((wipe σ vs).set j (some x)) H1 (v i)) :
    EvL (tLc (iTup K tl) (gName j) t te vs) σ H (given xs.length f v) := fun H0 e Q q => h H0 e _ fun H1 e1 => ⟨a, rfl, ⟨xs, ex_t (e.trans e1) hx⟩, fun Dl hD =>
  lc_tup (xs := xs) (Cw H1 f v Dl) ⟨hD, Ex.new hD, upd_same⟩ (fun i H' _ p => ex_t ((e.trans e1).trans p.2.1) hx) (fun i x H' hi p => ⟨hw x, cw_turn p (by have := (List.getElem?_eq_some_iff.mp hi).1; omega) (ht i x H1 (e.trans e1) hi) (fun hf => he i x H1 (e.trans e1) hi hf)⟩)
    (fun H' p => q Dl H' (fresh_back e1 p.1) (e1.trans p.2.1) p.2.2)⟩
/-- over a new tuple -/
theorem el_lcNU {xs : List V} {tl : TE} {j : Nat} {vs : List Nat} (f : Nat → Bool) (v : Nat → V) (h : EvU tl σ H xs) (hz : xs.length ≤ 40000) (hw : ∀ x, wipe ((wipe σ vs).set j (some x)) vs = wipe σ vs)
    (ht : ∀ (i : Nat) (x : V) H1, Ex H H1 → xs[i]? = some x → EvT t ((wipe σ vs).set j (some x)) H1 (f i)) (he : ∀ (i : Nat) (x : V) H1, Ex H H1 → xs[i]? = some x → f i = true → Ev te ((wipe σ vs).set j (some x)) H1 (v i)) :
    EvL (tLc (iTup K tl) (gName j) t te vs) σ H (given xs.length f v) := fun H0 e Q q => h H0 e _ fun a H1 ha e1 hx => ⟨a, rfl, ⟨xs, st_of hx⟩, fun Dl hD =>
  lc_tup (xs := xs) (Cw H1 f v Dl) ⟨hD, Ex.new hD, upd_same⟩ (fun i H' _ p => st_of (p.2.1 a _ hx)) (fun i x H' hi p => ⟨hw x, cw_turn p (by have := (List.getElem?_eq_some_iff.mp hi).1; omega) (ht i x H1 (e.trans e1) hi) (fun hf => he i x H1 (e.trans e1) hi hf)⟩)
    (fun H' p => q Dl H' (fresh_back e1 p.1) (e1.trans p.2.1) p.2.2)⟩
abbrev gTwo (K : PySem.W.Frag) (i j : Nat) : TG := gTup K 2 (gCons (gName i) (gCons (gName j) gNil))
theorem lcE_core {kd : Bool} {a : Addr} {xs : List V} {k0 : Int} {i j : Nat} {vs : List Nat} (f : Nat → Bool) (v : Nat → V) {H1 : Hp} {Dl : Addr} {Qd : Hp → Prop} (e : Ex H H1) (hx : SqB kd K H a xs) (hz : xs.length ≤ 40000) (hD : H1 Dl = none) (hw : ∀ x y, wipe (((wipe σ vs).set i (some x)).set j (some y)) vs = wipe σ vs)
    (ht : ∀ (n : Nat) (x : V) H1, Ex H H1 → xs[n]? = some x → EvT t (((wipe σ vs).set i (some (.int (k0 + (n : Int))))).set j (some x)) H1 (f n))
    (he : ∀ (n : Nat) (x : V) H1, Ex H H1 → xs[n]? = some x → f n = true → Ev te (((wipe σ vs).set i (some (.int (k0 + (n : Int))))).set j (some x)) H1 (v n))
    (hd : ∀ H', Ex H1 H' → H' Dl = some (.lst (given xs.length f v)) → Qd H') :
    ∃ W : Nat → Nat → Hp → Prop, (∃ m, W 0 m (upd H1 Dl (.lst []))) ∧ ∀ i' m H, W i' m H →
      ((Ieb kd K a k0).stop i' H ∧ Qd H) ∨ ((Ieb kd K a k0).go i' H ∧ ∃ Nx : Hp → Prop, (∀ H', Nx H' → ∃ m', m' < m ∧ W (i' + 1) m' H') ∧ ∀ x H', (Ieb kd K a k0).yld i' H x H' → gTwo K i j x (wipe σ vs) H' fun σ2 H2 => wipe σ2 vs = wipe σ vs ∧ t σ2 H2 fun b H3 =>
        if b = true then te σ2 H3 fun y H4 => ∃ acc, H4 Dl = some (.lst acc) ∧ acc.length < sizeLine ∧ Nx (upd H4 Dl (.lst (acc ++ [y]))) else Nx H3) := by
  refine lc_it walk_eb (Cw H1 f v Dl) ⟨hD, Ex.new hD, upd_same⟩ (fun i H' _ p => SqB.ex (e.trans p.2.1) hx) (fun n x Ha Hb hn p y => ?_) (fun H' p => hd H' p.2.1 p.2.2)
  obtain ⟨T, z, rfl, hT, rfl, hz'⟩ := y
  refine ⟨T, _, rfl, SqT.of upd_same, rfl, _, _, rfl, _, _, rfl, rfl, hw _ _, ?_⟩
  have p' : Cw H1 f v Dl n (upd Ha T (.tup [.int (k0 + (n : Int)), z])) := ⟨p.1, p.2.1.trans (Ex.new hT), (Ex.new hT) _ _ p.2.2⟩
  exact cw_turn p' (by omega) (ht n z H1 e hz') (fun hf => he n z H1 e hz' hf)
theorem el_lcE (kd : Bool) {ta : TA} {a : Addr} {xs : List V} {k0 : Int} {i j : Nat} {vs : List Nat} (f : Nat → Bool) (v : Nat → V) (h : EvA ta σ H [.ref a, .int k0]) (h1 : -(2 ^ 63) ≤ k0 ∧ k0 < 2 ^ 63) (hx : SqB kd K H a xs) (hz : xs.length ≤ 40000) (hw : ∀ x y, wipe (((wipe σ vs).set i (some x)).set j (some y)) vs = wipe σ vs)
    (ht : ∀ (n : Nat) (x : V) H1, Ex H H1 → xs[n]? = some x → EvT t (((wipe σ vs).set i (some (.int (k0 + (n : Int))))).set j (some x)) H1 (f n))
    (he : ∀ (n : Nat) (x : V) H1, Ex H H1 → xs[n]? = some x → f n = true → Ev te (((wipe σ vs).set i (some (.int (k0 + (n : Int))))).set j (some x)) H1 (v n)) :
    EvL (tLc (iEb kd K ta) (gTwo K i j) t te vs) σ H (given xs.length f v) := fun H0 e Q q => h H0 e _ fun H1 e1 => ⟨a, xs, k0, rfl, h1.1, h1.2, SqB.ex (e.trans e1) hx, fun Dl hD =>
  lcE_core f v (e.trans e1) hx hz hD hw ht he fun H' e2 hH => q Dl H' (fresh_back e1 hD) (e1.trans e2) hH⟩
theorem el_lcZ {kd ld : Bool} {ta : TA} {a b : Addr} {xs ys : List V} {i j : Nat} {vs : List Nat} (f : Nat → Bool) (v : Nat → V) (h : EvA ta σ H [.ref a, .ref b]) (hx : SqB kd K H a xs) (hy : SqB ld K H b ys) (hl : xs.length = ys.length) (hz : xs.length ≤ 40000) (hw : ∀ x y, wipe (((wipe σ vs).set i (some x)).set j (some y)) vs = wipe σ vs)
    (ht : ∀ (n : Nat) (x y : V) H1, Ex H H1 → xs[n]? = some x → ys[n]? = some y → EvT t (((wipe σ vs).set i (some x)).set j (some y)) H1 (f n))
    (he : ∀ (n : Nat) (x y : V) H1, Ex H H1 → xs[n]? = some x → ys[n]? = some y → f n = true → Ev te (((wipe σ vs).set i (some x)).set j (some y)) H1 (v n)) :
    EvL (tLc (iZb kd ld K ta) (gTwo K i j) t te vs) σ H (given xs.length f v) := fun H0 e Q q => h H0 e _ fun H1 e1 => ⟨a, b, xs, ys, rfl, SqB.ex (e.trans e1) hx, SqB.ex (e.trans e1) hy, fun Dl hD => by
  refine lc_it (walk_zb hl) (Cw H1 f v Dl) ⟨hD, Ex.new hD, upd_same⟩ (fun i H' _ p => ⟨SqB.ex ((e.trans e1).trans p.2.1) hx, SqB.ex ((e.trans e1).trans p.2.1) hy⟩) (fun n x Ha Hb hn p y => ?_) (fun H' p => q Dl H' (fresh_back e1 p.1) (e1.trans p.2.1) p.2.2)
  obtain ⟨T, z1, z2, rfl, hT, rfl, hz1, hz2⟩ := y
  refine ⟨T, _, rfl, SqT.of upd_same, rfl, _, _, rfl, _, _, rfl, rfl, hw _ _, ?_⟩
  have p' : Cw H1 f v Dl n (upd Ha T (.tup [z1, z2])) := ⟨p.1, p.2.1.trans (Ex.new hT), (Ex.new hT) _ _ p.2.2⟩
  exact cw_turn p' (by omega) (ht n z1 z2 H1 (e.trans e1) hz1 hz2) (fun hf => he n z1 z2 H1 (e.trans e1) hz1 hz2 hf)⟩
/-- tuple(a list), tuple(a tuple) -/
abbrev rTupOf (K : PySem.W.Frag) : List V → Hp → VK → Prop := fun xs H Q => ∃ p ys, xs = [.ref p] ∧ ((SqL K H p ys ∧ ∀ l, H l = none → Q (.ref l) (upd H l (.tup ys))) ∨ (SqT K H p ys ∧ Q (.ref p) H))
theorem eu_tupL {xs : List V} (h : EvL te σ H xs) : EvU (tCB (rTupOf K) (tCons te tNil)) σ H xs := fun H1 e Q q =>
  h H1 e _ fun p H2 hp e2 h2 => ⟨p, xs, rfl, .inl ⟨sq_of h2, fun l hl => q l _ (fresh_back e2 hl) (e2.trans (Ex.new hl)) upd_same⟩⟩
theorem eu_tupL' {p : Addr} {xs : List V} (h : Ev te σ H (.ref p)) (hx : SqL K H p xs) : EvU (tCB (rTupOf K) (tCons te tNil)) σ H xs := fun H1 e Q q =>
  h H1 e _ fun H2 e2 => ⟨p, xs, rfl, .inl ⟨ex_l (e.trans e2) hx, fun l hl => q l _ (fresh_back e2 hl) (e2.trans (Ex.new hl)) upd_same⟩⟩
theorem ev_tupT {p : Addr} {xs : List V} (h : Ev te σ H (.ref p)) (hx : SqT K H p xs) : Ev (tCB (rTupOf K) (tCons te tNil)) σ H (.ref p) := fun H1 e Q q =>
  h H1 e _ fun H2 e2 => ⟨p, xs, rfl, .inr ⟨ex_t (e.trans e2) hx, q H2 e2⟩⟩
theorem ev_allL {bs : List Bool} (h : EvL te σ H (bs.map V.bl)) : Ev (tCB (rAll K) (tCons te tNil)) σ H (.bl (bs.all id)) := fun H1 e Q q =>
  h H1 e _ fun p H2 hp e2 h2 => ⟨p, bs, rfl, sq_of h2, q H2 e2⟩
theorem ev_anyL {bs : List Bool} (h : EvL te σ H (bs.map V.bl)) : Ev (tCB (rAny K) (tCons te tNil)) σ H (.bl (bs.any id)) := fun H1 e Q q =>
  h H1 e _ fun p H2 hp e2 h2 => ⟨p, bs, rfl, sq_of h2, q H2 e2⟩
theorem ev_sumL {ns : List Int} (h : EvL te σ H (ns.map V.int)) : Ev (tCB (rSum K) (tCons te tNil)) σ H (.int ns.sum) := fun H1 e Q q =>
  h H1 e _ fun p H2 hp e2 h2 => ⟨p, ns, rfl, sq_of h2, q H2 e2⟩
theorem ev_sumL' {p : Addr} {ns : List Int} (h : Ev te σ H (.ref p)) (hx : SqL K H p (ns.map V.int)) : Ev (tCB (rSum K) (tCons te tNil)) σ H (.int ns.sum) := fun H1 e Q q =>
  h H1 e _ fun H2 e2 => ⟨p, ns, rfl, ex_l (e.trans e2) hx, q H2 e2⟩
/-- o.f -/
theorem ev_fld {o : Addr} {C dx : Addr} {fs : List (Str × V)} {f : Str} {w : V} (h : Ev te σ H (.ref o)) (ho : H o = some (.ins C dx fs)) (c : Cls K C) (n : NoAttr K C f) (hl : fs.lookup f = some w) : Ev (tFld K te f) σ H w := fun H1 e Q q =>
  h H1 e _ fun H2 e2 => ⟨o, C, dx, fs, w, rfl, e2 _ _ (e _ _ ho), c, n, hl, q H2 e2⟩
/-- t[lo:hi] of a tuple, not the whole -/
theorem eu_slT {tl th : TO} {a : Addr} {xs : List V} {lo hi : Option Int} (h : Ev te σ H (.ref a)) (h1 : EvO tl σ H lo) (h2 : EvO th σ H hi) (hs : SqT K H a xs) (hw : ¬ (HT.sIx xs.length 0 lo = 0 ∧ HT.sIx xs.length xs.length hi = xs.length)) : EvU (tSl (rSlT K) te tl th) σ H (cutV xs lo hi) := fun H1 e _ q =>
  h H1 e _ fun H2 e2 => h1 H2 (e.trans e2) _ fun H3 e3 => h2 H3 ((e.trans e2).trans e3) _ fun H4 e4 =>
    ⟨a, xs, rfl, ex_t (((e.trans e2).trans e3).trans e4) hs, hw, fun p hp => q p _ (fresh_back ((e2.trans e3).trans e4) hp) (((e2.trans e3).trans e4).trans (Ex.new hp)) upd_same⟩
end
end K64


namespace K64
open PySem PySem.Spec PyProof.Rows L2 Evl
/-! ### Fours on the heap -/
def CT4 (H : Hp) (a1 a2 a3 a4 : Addr) (F : Fo) : Prop := CT H a1 F.a ∧ CT H a2 F.b ∧ CT H a3 F.c ∧ CT H a4 F.d
theorem CT4.ex {H H' : Hp} {a1 a2 a3 a4 : Addr} {F : Fo} (e : Ex H H') (h : CT4 H a1 a2 a3 a4 F) : CT4 H' a1 a2 a3 a4 F := ⟨h.1.ex e, h.2.1.ex e, h.2.2.1.ex e, h.2.2.2.ex e⟩
abbrev R4 (a1 a2 a3 a4 : Addr) : List V := [.ref a1, .ref a2, .ref a3, .ref a4]
/-- the i-th address -/
def adr (a1 a2 a3 a4 : Addr) : Nat → Addr | 0 => a1 | 1 => a2 | 2 => a3 | _ => a4
theorem adr_get {a1 a2 a3 a4 : Addr} {i : Nat} {x : V} (h : (R4 a1 a2 a3 a4)[i]? = some x) : i < 4 ∧ x = .ref (adr a1 a2 a3 a4 i) := by
  match i, h with
  | 0, h => exact ⟨by decide, (Option.some.inj h).symm⟩
  | 1, h => exact ⟨by decide, (Option.some.inj h).symm⟩
  | 2, h => exact ⟨by decide, (Option.some.inj h).symm⟩
  | 3, h => exact ⟨by decide, (Option.some.inj h).symm⟩
theorem CT4.at {H : Hp} {a1 a2 a3 a4 : Addr} {F : Fo} (h : CT4 H a1 a2 a3 a4 F) {i : Nat} (hi : i < 4) : CT H (adr a1 a2 a3 a4 i) (F.get i) := by
  rcases four_cases hi with rfl | rfl | rfl | rfl
  · exact h.1
  · exact h.2.1
  · exact h.2.2.1
  · exact h.2.2.2
def BdF (n : Nat) (F : Fo) : Prop := BdN n F.a ∧ BdN n F.b ∧ BdN n F.c ∧ BdN n F.d
theorem BdF.at {n : Nat} {F : Fo} (h : BdF n F) {i : Nat} (hi : i < 4) : BdN n (F.get i) := by
  rcases four_cases hi with rfl | rfl | rfl | rfl
  · exact h.1
  · exact h.2.1
  · exact h.2.2.1
  · exact h.2.2.2
/-- a list of a four's circles; a Four -/
def LFo (H : Hp) (l : Addr) (F : Fo) : Prop := ∃ a1 a2 a3 a4, H l = some (.lst (R4 a1 a2 a3 a4)) ∧ CT4 H a1 a2 a3 a4 F
def ObF (c : Addr) (H : Hp) (o : Addr) (F : Fo) : Prop := ∃ dx t a1 a2 a3 a4, H o = some (.ins c dx [(("circles" : Str), .ref t)]) ∧ H t = some (.tup (R4 a1 a2 a3 a4)) ∧ CT4 H a1 a2 a3 a4 F
theorem LFo.ex {H H' : Hp} {l : Addr} {F : Fo} (e : Ex H H') (h : LFo H l F) : LFo H' l F := by
  obtain ⟨a1, a2, a3, a4, h1, h2⟩ := h
  exact ⟨a1, a2, a3, a4, e _ _ h1, h2.ex e⟩
theorem ObF.ex {c : Addr} {H H' : Hp} {l : Addr} {F : Fo} (e : Ex H H') (h : ObF c H l F) : ObF c H' l F := by
  obtain ⟨dx, t, a1, a2, a3, a4, h0, h1, h2⟩ := h
  exact ⟨dx, t, a1, a2, a3, a4, e _ _ h0, e _ _ h1, h2.ex e⟩
section
variable {P : Program} {w : World} {K : PySem.W.Frag} {mg : Str → Option Value} {base : Heap} {a : Ad}
theorem sq_K4 {K : PySem.W.Frag} {H : Hp} {p : Addr} {v1 v2 v3 v4 : V} {u1 u2 u3 u4 : Value} (h : ∃ dd n sl, K.lookup p = some ⟨.type "tuple", dd, .seq #[u1, u2, u3, u4] n, sl⟩) (r1 : RelV v1 u1) (r2 : RelV v2 u2) (r3 : RelV v3 u3) (r4 : RelV v4 u4) : SqT K H p [v1, v2, v3, v4] := by
  obtain ⟨dd, n, sl, h⟩ := h
  exact .inr ⟨_, _, n, h, rfl, rfl, by show 4 ≤ sizeLine; decide, .cons r1 (.cons r2 (.cons r3 (.cons r4 .nil)))⟩
abbrev N4 : List V := [.int 1, .int 2, .int 3, .int 4]
theorem Txt.sqNumbers (T : Txt K mg a) (H : Hp) : SqT K H a.tNumbers N4 := by
  obtain ⟨dd, n, sl, t1, t2, t3, t4, h⟩ := T.tNumbers
  exact sq_K4 ⟨dd, n, sl, h⟩ ⟨_, rfl⟩ ⟨_, rfl⟩ ⟨_, rfl⟩ ⟨_, rfl⟩
theorem Txt.sqWords (T : Txt K mg a) (H : Hp) : SqT K H a.tWords N4 := by
  obtain ⟨dd, n, sl, t1, t2, t3, t4, h⟩ := T.tWords
  exact sq_K4 ⟨dd, n, sl, h⟩ ⟨_, rfl⟩ ⟨_, rfl⟩ ⟨_, rfl⟩ ⟨_, rfl⟩
theorem Txt.sqTexts (T : Txt K mg a) (H : Hp) : SqT K H a.tTexts [.str "1", .str "2", .str "3", .str "4"] := by
  obtain ⟨dd, n, sl, t1, t2, t3, t4, h⟩ := T.tTexts
  exact sq_K4 ⟨dd, n, sl, h⟩ ⟨_, rfl⟩ ⟨_, rfl⟩ ⟨_, rfl⟩ ⟨_, rfl⟩
/-! ### Four.__init__ -/
def spInit (c : Addr) : Sp := fun vs H Q _ => ∃ (o l dx a1 a2 a3 a4 : Addr) (F : Fo) (n : Nat), vs = [.ref o, .ref l] ∧ H o = some (.ins c dx []) ∧ H l = some (.lst (R4 a1 a2 a3 a4)) ∧ CT4 H a1 a2 a3 a4 F ∧ 0 < n ∧ n ≤ 400000 ∧ BdF n F ∧ Valid F ∧
  ∀ H' t, (∀ b u, b ≠ o → H b = some u → H' b = some u) → H' o = some (.ins c dx [(("circles" : Str), .ref t)]) → H' t = some (.tup (R4 a1 a2 a3 a4)) → Q .non H'
theorem sc_init : FnScope ["self", "circles", "circle", "at", "other"] ["self", "circles"] (defScope m_init) := ⟨rfl, rfl, rfl, by decide +kernel, rfl, by decide +kernel, by decide +kernel⟩
theorem ok_init (T : Txt K mg a) : Okm P w K mg base CX0 5 a.cFour "__init__" a.m_init ["self", "circles"] (spInit a.cFour) := by
  refine T.m_init.ok sc_init (fun vs H Q E h => ?_) (fun cdv A outer s H vs Q E hr h => ?_)
  · obtain ⟨o, l, dx, a1, a2, a3, a4, F, n, rfl, _⟩ := h
    rfl
  · obtain ⟨o, l, dx, a1, a2, a3, a4, F, n, rfl, ho, hl, hC, n0, n1, hB, hV, k⟩ := h
    have nd := sc_init.nd
    have OC := ok_check_circle (P := P) (w := w) (base := base) T
    have OT := ok_touch (P := P) (w := w) (base := base) T
    refine ⟨_, pss_cons (ps_if (pt_cmpR op_ne (pe_callB call_len_seq (by rfl) T.b_len PySem.boot_len (pa_cons (pv 1) pa_nil)) (pe_callB call_len_seq (by rfl) T.b_len PySem.boot_len (pa_cons (pe_glob (v := .ref a.tNumbers) (by rfl) T.gNumbers rfl) pa_nil)) (nomark _)) pss_never pss_nil)
      (pss_cons (ps_for PassesOwn.never rfl (pi_list (pv 1)) (pg_name (i := 2) nd rfl (.inr rfl)) (pss_one (ps_expr (pe_c OC (hr.mono (by decide)) pass0 (pa_cons (pv 2) pa_nil)))))
      (pss_cons (ps_fld (pv 0) (pe_callTy (T := "tuple") (r := rTupOf K) call_tuple_of (by rfl) T.b_tuple (by decide +kernel) (pa_cons (pe_lc (own := [("circle", 2)]) (g := gName 2) (tt := tYes) rfl nd (pi_list (pv 1)) (blkOk_by (N := ["self", "circles", "circle", "at", "other"]) (sc := defScope m_init) (by decide +kernel)) (fun _ _ _ _ _ => pg_name (i := 2) nd rfl (.inl rfl)) (fun _ _ _ _ _ => pts_nil)
          (fun _ _ _ _ _ => pe_callTy (T := "tuple") (r := rTupOf K) call_tuple_of (by rfl) T.b_tuple (by decide +kernel) (pa_cons (pv 2) pa_nil))) pa_nil)) rfl)
      (pss_one (ps_for PassesOwn.never rfl (pi_eb1 false (by rfl) T.b_enumerate (pa_cons (pe_fld (pv 0) rfl) pa_nil)) (pg_tup rfl (pgs_cons (pg_name (i := 3) nd rfl (.inl rfl)) (pgs_cons (pg_name (i := 2) nd rfl (.inr rfl)) pgs_nil)))
        (pss_one (ps_if (pt_not (pt_val (pe_callB (cr_all rfl) (by rfl) T.b_all (by decide +kernel) (pa_cons (pe_lc (own := [("other", 4)]) (g := gName 4) (tt := tYes) rfl nd (pi_tup (pe_slice sl_tup (pe_fld (pv 0) rfl) po_none (po_some (pv 3)))) (blkOk_by (N := ["self", "circles", "circle", "at", "other"]) (sc := defScope m_init) (by decide +kernel)) (fun _ _ _ _ _ => pg_name (i := 4) nd rfl (.inl rfl)) (fun _ _ _ _ _ => pts_nil)
          (fun _ _ _ _ _ => pe_c OT hr pass0 (pa_cons (pv 2) (pa_cons (pv 4) pa_nil)))) pa_nil)))) pss_never pss_nil)))))), ?_⟩
    refine ⟨_, rfl, l, _, rfl, .inl (SqL.of hl), _, _, rfl, .inr (T.sqNumbers H), rfl, _, rfl, iteF ?_⟩
    refine q_forLn (ev_var rfl) (SqL.of hl) (fun i σ' H' => (∃ v, σ' = [some (.ref o), some (.ref l), v, none, none]) ∧ Ex H H') (fun H1 e => ⟨⟨none, rfl⟩, e⟩) (fun i σ' H' _ p => SqL.of (p.2 _ _ hl)) ?_ ?_
    · rintro i x σ' H' hx ⟨⟨v, rfl⟩, e⟩
      obtain ⟨hi, rfl⟩ := adr_get hx
      refine ⟨_, rfl, _, F.get i, rfl, .inl (e _ _ (hC.at hi)), ⟨n, n0, n1, hB.at hi⟩, hV.1 i hi, fun H2 e2 => ⟨⟨_, rfl⟩, e.trans e2⟩⟩
    · rintro σ' H1 ⟨⟨v, rfl⟩, e1⟩
      have tu : EvU (tCB (rTupOf K) (tCons (tLc (iList K (tVar 1)) (gName 2) tYes (tCB (rTupOf K) (tCons (tVar 2) tNil)) [2]) tNil)) [some (.ref o), some (.ref l), v, none, none] H1 (R4 a1 a2 a3 a4) := by
        refine eu_tupL (el_is (el_lcL (xs := R4 a1 a2 a3 a4) (fun _ => true) (fun i => .ref (adr a1 a2 a3 a4 i)) (ev_var rfl) (SqL.of (e1 _ _ hl)) (show 4 ≤ 40000 by decide) (fun _ => rfl) (fun _ _ _ _ _ => et_yes rfl) (fun i x H2 e2 hx _ => ?_)) rfl)
        obtain ⟨hi, rfl⟩ := adr_get hx
        exact ev_tupT (ev_var rfl) (SqT.of (e2 _ _ (e1 _ _ (hC.at hi))))
      refine tu H1 (Ex.refl H1) _ fun t H2 ht e2 h2 => ?_
      refine ⟨_, rfl, o, _, dx, [], rfl, e2 _ _ (e1 _ _ ho), T.four, T.nCircles, (by decide), ?_⟩
      have nto : t ≠ o := fun z => by rw [z, e1 _ _ ho] at ht; cases ht
      have keep : ∀ b u, b ≠ o → H b = some u → (upd H2 o (.ins a.cFour dx (putF "circles" (.ref t) []))) b = some u := fun b u hb hu => by rw [upd_ne hb]; exact e2 _ _ (e1 _ _ hu)
      have ct : ∀ {b : Addr} {C : Ci}, CT H b C → CT (upd H2 o (.ins a.cFour dx (putF "circles" (.ref t) []))) b C := fun {b C} h => keep _ _ (ne_of h ho (by intro z; cases z)) h
      have hC2 : CT4 (upd H2 o (.ins a.cFour dx (putF "circles" (.ref t) []))) a1 a2 a3 a4 F := ⟨ct hC.1, ct hC.2.1, ct hC.2.2.1, ct hC.2.2.2⟩
      have ho2 : (upd H2 o (.ins a.cFour dx (putF "circles" (.ref t) []))) o = some (.ins a.cFour dx [(("circles" : Str), .ref t)]) := upd_same
      have ht2 : (upd H2 o (.ins a.cFour dx (putF "circles" (.ref t) []))) t = some (.tup (R4 a1 a2 a3 a4)) := by rw [upd_ne nto]; exact h2
      generalize upd H2 o (.ins a.cFour dx (putF "circles" (.ref t) [])) = H3 at *
      have lk : List.lookup ("circles" : Str) [(("circles" : Str), V.ref t)] = some (.ref t) := by simp [List.lookup]
      refine ⟨_, rfl, o, _, _, _, _, rfl, ho2, T.four, T.nCircles, lk, t, R4 a1 a2 a3 a4, rfl, SqT.of ht2, ?_⟩
      refine for_it (walk_eb (k := false) (xs := R4 a1 a2 a3 a4)) (fun i σ' H' => (∃ v w, σ' = [some (.ref o), some (.ref l), v, w, none]) ∧ Ex H3 H') ⟨⟨v, none, rfl⟩, Ex.refl _⟩ (fun i σ' H' _ p => SqT.of (p.2 _ _ ht2)) ?_ ?_
      · rintro i x σ' Ha Hb hi ⟨⟨v, w, rfl⟩, e3⟩ ⟨T', z, rfl, hT, rfl, hz⟩
        obtain ⟨hi4, rfl⟩ := adr_get hz
        have e4 : Ex H3 (upd Ha T' (.tup [.int (0 + (i : Int)), .ref (adr a1 a2 a3 a4 i)])) := e3.trans (Ex.new hT)
        refine ⟨T', _, rfl, SqT.of upd_same, rfl, _, _, rfl, _, _, rfl, rfl, ?_⟩
        generalize upd Ha T' (.tup [.int (0 + (i : Int)), .ref (adr a1 a2 a3 a4 i)]) = H4 at *
        have te : EvT (tNot (tTest (tCB (rAll K) (tCons (tLc (iTup K (tSl (rSlT K) (tFld K (tVar 0) "circles") tNoPart (tPart (tVar 3)))) (gName 4) tYes (tCall spTouch [] E0 (tCons (tVar 2) (tCons (tVar 4) tNil))) [4]) tNil))))
            [some (.ref o), some (.ref l), some (.ref (adr a1 a2 a3 a4 i)), some (.int (0 + (i : Int))), none] H4 false := by
          refine et_not (a := true) (et_test (ev_is (ev_allL (bs := List.replicate i true) (el_is (el_lcNU (xs := cutV (R4 a1 a2 a3 a4) none (some (0 + (i : Int)))) (fun _ => true) (fun _ => .bl true) (eu_slT (xs := R4 a1 a2 a3 a4) (ev_fld (ev_var rfl) (e4 _ _ ho2) T.four T.nCircles lk) eo_none (eo_some (ev_var rfl)) (SqT.of (e4 _ _ ht2)) ?_) ?_ (fun _ => rfl) (fun _ _ _ _ _ => et_yes rfl) (fun j x H5 e5 hx _ => ?_)) ?_)) ?_))
          · show ¬ (HT.sIx 4 0 none = 0 ∧ HT.sIx 4 4 (some (0 + (i : Int))) = 4)
            rcases four_cases hi4 with rfl | rfl | rfl | rfl <;> decide
          · exact Nat.le_trans (cutV_length _ _ _) (show 4 ≤ 40000 by decide)
          · have hj : j < i ∧ x = .ref (adr a1 a2 a3 a4 j) := by
              have e0 : cutV (R4 a1 a2 a3 a4) none (some (0 + (i : Int))) = (R4 a1 a2 a3 a4).take i := by
                rcases four_cases hi4 with rfl | rfl | rfl | rfl <;> rfl
              rw [e0, List.getElem?_take] at hx
              split at hx
              · rename_i hlt
                exact ⟨hlt, (adr_get hx).2⟩
              · cases hx
            obtain ⟨hji, rfl⟩ := hj
            have hj4 : j < 4 := by omega
            intro H6 e6 Q' q
            have e56 := (e4.trans e5).trans e6
            exact ⟨_, rfl, _, rfl, _, _, F.get i, F.get j, rfl, e56 _ _ (hC2.at hi4), e56 _ _ (hC2.at hj4), ⟨n, n0, n1, hB.at hi4⟩, ⟨n, n0, n1, hB.at hj4⟩, hV.1 i hi4, hV.1 j hj4, hV.2 i j hi4 hj4 (by omega), fun H7 e7 => q H7 e7⟩
          · rcases four_cases hi4 with rfl | rfl | rfl | rfl <;> rfl
          · rcases four_cases hi4 with rfl | rfl | rfl | rfl <;> rfl
        refine te H4 (Ex.refl _) _ fun H5 e5 => iteF ?_
        exact ⟨⟨_, _, rfl⟩, e4.trans e5⟩
      · rintro σ' H4 ⟨⟨v, w, rfl⟩, e3⟩
        exact k H4 t (fun b u hb hu => e3 _ _ (keep b u hb hu)) (e3 _ _ ho2) (e3 _ _ ht2)
end
end K64


namespace K64
open PySem PySem.Spec PyProof.Rows L2 Evl
theorem lkC (t : Addr) : List.lookup ("circles" : Str) [(("circles" : Str), V.ref t)] = some (.ref t) := by simp [List.lookup]
theorem lkM {m : Str} {t : Addr} (h : (m == ("circles" : Str)) = false) : List.lookup m [(("circles" : Str), V.ref t)] = none := by simp [List.lookup, h]
section
variable {P : Program} {w : World} {K : PySem.W.Frag} {mg : Str → Option Value} {base : Heap} {a : Ad}
/-! ### check_number, circle -/
def spNum : Sp := fun vs H Q _ => ∃ (k : Nat), vs = [.int ((k : Int) + 1)] ∧ k < 4 ∧ ∀ H', Ex H H' → Q .non H'
theorem sc_check_number : FnScope ["number"] ["number"] (defScope s_check_number) := ⟨rfl, rfl, rfl, by decide +kernel, rfl, by decide +kernel, by decide +kernel⟩
theorem ok_check_number (T : Txt K mg a) : Okd P w K mg base CX0 1 "check_number" a.check_number ["number"] spNum := by
  refine T.check_number.ok sc_check_number (fun vs H Q E h => ?_) (fun cdv A outer s H vs Q E hr h => ?_)
  · obtain ⟨k, rfl, _⟩ := h
    rfl
  · obtain ⟨k, rfl, hk, q⟩ := h
    refine ⟨_, pss_one (ps_if (pt_cmpR op_notIn_seq (pv 0) (pe_glob (v := .ref a.tNumbers) (by rfl) T.gNumbers rfl) (by rfl)) pss_never pss_nil), ?_⟩
    refine s_when (b := false) (et_test (ev_op (ev_var rfl) ev_c (by
      have z := rv_niT (H := H) (x := V.int ((k : Int) + 1)) (T.sqNumbers H) rfl rfl
      rcases four_cases hk with rfl | rfl | rfl | rfl <;> exact z))) (fun z => nomatch z) (fun _ H1 e1 => q H1 e1)
def spCircle (c : Addr) : Sp := fun vs H Q _ => ∃ (o : Addr) (F : Fo) (k : Nat), vs = [.ref o, .int ((k : Int) + 1)] ∧ k < 4 ∧ ObF c H o F ∧ ∀ H' p, Ex H H' → CT H' p (F.get k) → Q (.ref p) H'
theorem sc_circle : FnScope ["self", "number"] ["self", "number"] (defScope m_circle) := ⟨rfl, rfl, rfl, by decide +kernel, rfl, by decide +kernel, by decide +kernel⟩
theorem ok_circle (T : Txt K mg a) : Okm P w K mg base CX0 2 a.cFour "circle" a.m_circle ["self", "number"] (spCircle a.cFour) := by
  refine T.m_circle.ok sc_circle (fun vs H Q E h => ?_) (fun cdv A outer s H vs Q E hr h => ?_)
  · obtain ⟨o, F, k, rfl, _⟩ := h
    rfl
  · obtain ⟨o, F, k, rfl, hk, ⟨dx, t, a1, a2, a3, a4, ho, ht, hC⟩, q⟩ := h
    refine ⟨_, pss_cons (ps_expr (pe_c (ok_check_number T) hr pass0 (pa_cons (pv 1) pa_nil))) (pss_one (ps_ret (pe_ix ix_tup (pe_fld (pv 0) rfl) (pe_op op_sub (pv 1) pe_int) (fun _ _ => rfl)))), ?_⟩
    refine ⟨_, rfl, k, rfl, hk, fun H1 e1 => ?_⟩
    refine s_ret (ev_ixT (ev_fld (ev_var rfl) (e1 _ _ ho) T.four T.nCircles (lkC t)) (ev_sub (ev_var rfl) ev_c) (e1 _ _ ht) (v := .ref (adr a1 a2 a3 a4 k)) ?_) fun H2 e2 => q H2 _ (e1.trans e2) ((hC.at hk).ex (e1.trans e2))
    rcases four_cases hk with rfl | rfl | rfl | rfl <;> rfl
/-! ### other, exchanged -/
def oScope : Scope := { kind := .function, names := [(".0", .local), ("part", .cell), ("sum", .globalImplicit), ("self", .free)], isGenerator := false, isCoroutine := false, more := [] }
/-- part by part -/
def Ci.part (C : Ci) : Nat → Int | 0 => C.b | 1 => C.c | 2 => C.x | _ => C.y
theorem part_at {C : Ci} {i : Nat} (hi : i < 4) : atI (CiV C) (i : Int) = some (.int (C.part i)) := by
  rcases four_cases hi with rfl | rfl | rfl | rfl <;> rfl
def Fo.sums (F : Fo) (i : Nat) : Int := ([F.a.part i, F.b.part i, F.c.part i, F.d.part i] : List Int).sum
def spOther (c : Addr) : Sp := fun vs H Q _ => ∃ (o : Addr) (F : Fo) (k : Nat), vs = [.ref o, .int ((k : Int) + 1)] ∧ k < 4 ∧ ObF c H o F ∧ ∀ H' p, Ex H H' → CT H' p (oth F k) → Q (.ref p) H'
theorem sc_other : FnScope ["self", "number", "own", "sums", "part", "circle", "whole", "one"] ["self", "number"] (defScope m_other) := ⟨rfl, rfl, rfl, by decide +kernel, rfl, by decide +kernel, by decide +kernel⟩
theorem ok_other (T : Txt K mg a) : Okm P w K mg base CX0 3 a.cFour "other" a.m_other ["self", "number"] (spOther a.cFour) := by
  refine T.m_other.ok sc_other (fun vs H Q E h => ?_) (fun cdv A outer s H vs Q E hr h => ?_)
  · obtain ⟨o, F, k, rfl, _⟩ := h
    rfl
  · obtain ⟨o, F, k, rfl, hk, ⟨dx, t, a1, a2, a3, a4, ho, ht, hC⟩, q⟩ := h
    have nd := sc_other.nd
    refine ⟨_, pss_cons (ps_set (i := 2) nd rfl (.inl rfl) (pe_m (pv 0) T.four (ok_circle T) hr pass0 (pa_cons (pv 1) pa_nil)))
      (pss_cons (ps_setLc (i := 3) (own := [("part", 4)]) (g := gName 4) (tt := tYes) rfl nd rfl rfl (sw_true rfl rfl rfl (by decide +kernel)) (pi_range1 (by rfl) T.b_range (pa_cons pe_int pa_nil)) (blkOk_by (N := ["self", "number", "own", "sums", "part", "circle", "whole", "one"]) (sc := defScope m_other) (by decide +kernel)) (fun _ _ _ _ _ => pg_name (i := 4) nd rfl (.inr rfl)) (fun _ _ _ _ _ => pts_nil)
        (fun _ _ _ _ _ => pe_callB (id := "sum") (r := rSum K) (cr_sum rfl) (by rfl) T.b_sum (by decide +kernel) (pa_cons (pe_lc (own := [("circle", 5)]) (wi := iTup K (tFld K (tVar 0) "circles")) (g := gName 5) (tt := tYes) rfl nd (pi_tup (pe_fld (pv 0) rfl)) (blkOk_by (N := ["self", "number", "own", "sums", "part", "circle", "whole", "one"]) (sc := relS oScope (defScope m_other)) (by decide +kernel)) (fun _ _ _ _ _ => pg_name (i := 5) nd rfl (.inl rfl)) (fun _ _ _ _ _ => pts_nil)
          (fun _ _ _ _ _ => pe_ix (r := rIxT K) ix_tup (pv 5) (pv 4) (fun _ _ => rfl))) pa_nil)))
      (pss_one (ps_ret (pe_callTy call_tuple_of (by rfl) T.b_tuple (by decide +kernel) (pa_cons (pe_lc (own := [("whole", 6), ("one", 7)]) (g := gTwo K 6 7) (tt := tYes) rfl nd (pi_zb true false (by rfl) T.b_zip (pa_cons (pv 3) (pa_cons (pv 2) pa_nil))) (blkOk_by (N := ["self", "number", "own", "sums", "part", "circle", "whole", "one"]) (sc := defScope m_other) (by decide +kernel))
        (fun _ _ _ _ _ => pg_tup rfl (pgs_cons (pg_name (i := 6) nd rfl (.inl rfl)) (pgs_cons (pg_name (i := 7) nd rfl (.inl rfl)) pgs_nil))) (fun _ _ _ _ _ => pts_nil)
        (fun _ _ _ _ _ => pe_op op_sub (pe_op op_mul pe_int (pe_op op_sub (pv 6) (pv 7))) (pv 7))) pa_nil))))), ?_⟩
    refine ⟨_, rfl, o, dx, _, rfl, ho, lkM (by decide), _, rfl, o, F, k, rfl, hk, ⟨dx, t, a1, a2, a3, a4, ho, ht, hC⟩, fun H1 p e1 hp => ?_⟩
    have sm : EvL (tLc (iRng1 (tCons (tC (.int 4)) tNil)) (gName 4) tYes (tCB (rSum K) (tCons (tLc (iTup K (tFld K (tVar 0) "circles")) (gName 5) tYes (tOp (rIxT K) (tVar 5) (tVar 4)) [5]) tNil)) [4])
        [some (.ref o), some (.int ((k : Int) + 1)), some (.ref p), none, none, none, none, none] H1 ([F.sums 0, F.sums 1, F.sums 2, F.sums 3].map V.int) := by
      refine el_is (el_lcR1 (n := 4) (fun _ => true) (fun i => .int (F.sums i)) (ea_cons ev_c ea_nil) (by decide) (fun _ => rfl) (fun _ _ _ _ => et_yes rfl) (fun i H2 e2 hi _ => ?_)) rfl
      have hi4 : i < 4 := by omega
      refine ev_sumL (ns := [F.a.part i, F.b.part i, F.c.part i, F.d.part i]) (el_is (el_lcT (xs := R4 a1 a2 a3 a4) (fun _ => true) (fun j => .int ((F.get j).part i)) (ev_fld (ev_var rfl) ((e1.trans e2) _ _ ho) T.four T.nCircles (lkC t)) (SqT.of ((e1.trans e2) _ _ ht)) (show 4 ≤ 40000 by decide) (fun _ => rfl) (fun _ _ _ _ _ => et_yes rfl) (fun j x H3 e3 hx _ => ?_)) rfl)
      obtain ⟨hj, rfl⟩ := adr_get hx
      exact ev_ixT (ev_var rfl) (ev_var rfl) (((e1.trans e2).trans e3) _ _ (hC.at hj)) (part_at hi4)
    refine q_asgL sm fun l H2 hl e2 h2 => ?_
    have fin : EvU (tCB (rTupOf K) (tCons (tLc (iZb true false K (tCons (tVar 3) (tCons (tVar 2) tNil))) (gTwo K 6 7) tYes (tOp rSub (tOp rMul (tC (.int 2)) (tOp rSub (tVar 6) (tVar 7))) (tVar 7)) [6, 7]) tNil))
        [some (.ref o), some (.int ((k : Int) + 1)), some (.ref p), some (.ref l), none, none, none, none] H2 (CiV (oth F k)) := by
      refine eu_tupL (el_is (el_lcZ (kd := true) (ld := false) (xs := [F.sums 0, F.sums 1, F.sums 2, F.sums 3].map V.int) (ys := CiV (F.get k)) (fun _ => true) (fun i => .int ((oth F k).part i)) (ea_cons (ev_var rfl) (ea_cons (ev_var rfl) ea_nil)) (SqL.of h2) (SqT.of (e2 _ _ hp)) rfl (show 4 ≤ 40000 by decide) (fun _ _ => rfl) (fun _ _ _ _ _ _ _ => et_yes rfl) (fun i x y H3 e3 hx hy _ => ?_)) ?_)
      · have hi : i < 4 ∧ x = .int (F.sums i) ∧ y = .int ((F.get k).part i) := by
          match i, hx, hy with
          | 0, hx, hy => exact ⟨by decide, (Option.some.inj hx).symm, (Option.some.inj hy).symm⟩
          | 1, hx, hy => exact ⟨by decide, (Option.some.inj hx).symm, (Option.some.inj hy).symm⟩
          | 2, hx, hy => exact ⟨by decide, (Option.some.inj hx).symm, (Option.some.inj hy).symm⟩
          | 3, hx, hy => exact ⟨by decide, (Option.some.inj hx).symm, (Option.some.inj hy).symm⟩
        obtain ⟨hi, rfl, rfl⟩ := hi
        refine ev_is (ev_sub (ev_mulL ev_c (ev_sub (ev_var rfl) (ev_var rfl)) (by decide)) (ev_var rfl)) (congrArg V.int ?_)
        rcases four_cases hi with rfl | rfl | rfl | rfl <;> simp only [Fo.sums, oth, Ci.part, List.sum_cons, List.sum_nil] <;> omega
      · rfl
    exact s_retU fin fun p' H3 hp' e3 h3 => q H3 p' ((e1.trans e2).trans e3) h3
theorem pow3 (n : Nat) : 2 ^ (n + 3) = 8 * 2 ^ n := by rw [Nat.pow_add, Nat.mul_comm]
theorem oth_bd (m : Nat) (p q r s x : Int) (h1 : p.natAbs < m) (h2 : q.natAbs < m) (h3 : r.natAbs < m) (h4 : s.natAbs < m) (hx : x = p ∨ x = q ∨ x = r ∨ x = s) : (2*(p+q+r+s) - 3*x).natAbs < 8 * m := by omega
theorem BdN.oth {n : Nat} {F : Fo} (h : BdF n F) {k : Nat} (hk : k < 4) : BdN (n + 3) (K64.oth F k) := by
  obtain ⟨h1, h2, h3, h4⟩ := h
  have g : ∀ f : Ci → Int, f (F.get k) = f F.a ∨ f (F.get k) = f F.b ∨ f (F.get k) = f F.c ∨ f (F.get k) = f F.d := fun f => by
    rcases four_cases hk with rfl | rfl | rfl | rfl
    · exact .inl rfl
    · exact .inr (.inl rfl)
    · exact .inr (.inr (.inl rfl))
    · exact .inr (.inr (.inr rfl))
  unfold BdN
  rw [pow3 n]
  exact ⟨oth_bd _ _ _ _ _ _ h1.1 h2.1 h3.1 h4.1 (g Ci.b), oth_bd _ _ _ _ _ _ h1.2.1 h2.2.1 h3.2.1 h4.2.1 (g Ci.c), oth_bd _ _ _ _ _ _ h1.2.2.1 h2.2.2.1 h3.2.2.1 h4.2.2.1 (g Ci.x), oth_bd _ _ _ _ _ _ h1.2.2.2 h2.2.2.2 h3.2.2.2 h4.2.2.2 (g Ci.y)⟩
theorem BdN.mono {n m : Nat} {C : Ci} (h : BdN n C) (hm : n ≤ m) : BdN m C := by
  have := Nat.pow_le_pow_right (show 0 < 2 by decide) hm
  exact ⟨Nat.lt_of_lt_of_le h.1 this, Nat.lt_of_lt_of_le h.2.1 this, Nat.lt_of_lt_of_le h.2.2.1 this, Nat.lt_of_lt_of_le h.2.2.2 this⟩
theorem BdF.mono {n m : Nat} {F : Fo} (h : BdF n F) (hm : n ≤ m) : BdF m F := ⟨h.1.mono hm, h.2.1.mono hm, h.2.2.1.mono hm, h.2.2.2.mono hm⟩
theorem BdF.ex {n : Nat} {F : Fo} (h : BdF n F) {k : Nat} (hk : k < 4) : BdF (n + 3) (exF F k) := by
  have o := BdN.oth h hk
  have m := h.mono (show n ≤ n + 3 by omega)
  obtain ⟨h1, h2, h3, h4⟩ := m
  unfold exF
  rcases four_cases hk with rfl | rfl | rfl | rfl
  · exact ⟨o, h2, h3, h4⟩
  · exact ⟨h1, o, h3, h4⟩
  · exact ⟨h1, h2, o, h4⟩
  · exact ⟨h1, h2, h3, o⟩
end
end K64


namespace K64
open PySem PySem.Spec PyProof.Rows L2 Evl
/-- C(e, ..) -/
theorem pe_k {X : Cx} {CX : CXT} {k : Nat} {C : Addr} {x : Str} {f : Addr} {ps : List Str} {sp : Sp} {e : Expr} {es : List Expr} {t : TA} {E : XK} {p pos : Pos} (M : Mk X.K C f) (O : Okm X.prog X.w X.K X.mg X.base CX k C "__init__" f ps sp) (hr : Room (k + 1) X.A) (hm : X.mg x = some (.ref C)) (hx : Passes CX X E) (ha : PA X (e :: es) t)
    (hg : Gl X x := by rfl) (hdb : (x == ("__debug__" : Str)) = false := by decide) (he : starEach (e :: es) X.env = (false, eval e X.env) :: starEach es X.env := by rfl) (hpl : (backTo pos (starEach es X.env)).any (·.1) = false := by rfl) :
    PE X (.Call (.Name x p) (e :: es) [] pos) (tMake C sp [] E t) := by
  obtain ⟨fd, F, b⟩ := O.ok
  exact pe_make M F hr hg hm b .nil hx ha hdb he hpl
theorem r_make {C : Addr} {sp : Sp} {E : XK} {te : TE} {σ : L2.St} {H : Hp} {D : L2.Ends} {xs : List V} (h : EvL te σ H xs)
    (k : ∀ l H2, H l = none → Ex H H2 → H2 l = some (.lst xs) → ∀ x dx, H2 x = none → H2 dx = none → dx ≠ x → sp (.ref x :: ([.ref l] ++ [])) (upd (upd H2 dx (.own x)) x (.ins C dx [])) (fun v H3 => v = .non ∧ D.rt (.ref x) H3) E) :
    tRet (tMake C sp [] E (tCons te tNil)) D σ H := h H (Ex.refl H) _ k
theorem ite_beq {i k : Nat} : decide ((1 : Int) + (i : Int) = (k : Int) + 1) = decide (i = k) := by
  by_cases h : i = k
  · subst h; simp; omega
  · have : ¬ ((1 : Int) + (i : Int) = (k : Int) + 1) := by omega
    simp [h, this]
section
variable {P : Program} {w : World} {K : PySem.W.Frag} {mg : Str → Option Value} {base : Heap} {a : Ad}
/-- a new Four of a list of circles -/
theorem made_four {c x dx l a1 a2 a3 a4 : Addr} {H1 : Hp} {F : Fo} {n : Nat} {Q : VK} {E : XK} (nx : H1 x = none) (nd : H1 dx = none) (hl : H1 l = some (.lst (R4 a1 a2 a3 a4))) (hC : CT4 H1 a1 a2 a3 a4 F) (n0 : 0 < n) (n1 : n ≤ 400000) (hB : BdF n F) (hV : Valid F)
    (k : ∀ H' o, Ex H1 H' → ObF c H' o F → Q (.ref o) H') : spInit c (.ref x :: ([.ref l] ++ [])) (upd (upd H1 dx (.own x)) x (.ins c dx [])) (fun v H2 => v = .non ∧ Q (.ref x) H2) E := by
  have old : ∀ {b : Addr} {u : HO}, H1 b = some u → upd (upd H1 dx (.own x)) x (.ins c dx []) b = some u := fun {b u} h => by
    rw [upd_ne (ne_of_none h nx), upd_ne (ne_of_none h nd)]
    exact h
  refine ⟨x, l, dx, a1, a2, a3, a4, F, n, rfl, upd_same, old hl, ⟨old hC.1, old hC.2.1, old hC.2.2.1, old hC.2.2.2⟩, n0, n1, hB, hV, fun H' t kp ho ht => ⟨rfl, ?_⟩⟩
  have e : Ex H1 H' := fun b u h => kp b u (ne_of_none h nx) (old h)
  exact k H' x e ⟨dx, t, a1, a2, a3, a4, ho, ht, hC.ex e⟩
/-! ### exchanged -/
def spExch (c : Addr) : Sp := fun vs H Q _ => ∃ (o : Addr) (F : Fo) (k n : Nat), vs = [.ref o, .int ((k : Int) + 1)] ∧ k < 4 ∧ ObF c H o F ∧ BdF n F ∧ n + 3 ≤ 400000 ∧ Valid F ∧ ∀ H' p, Ex H H' → ObF c H' p (exF F k) → Q (.ref p) H'
theorem sc_exch : FnScope ["self", "number", "circle", "at", "old"] ["self", "number"] (defScope m_exchanged) := ⟨rfl, rfl, rfl, by decide +kernel, rfl, by decide +kernel, by decide +kernel⟩
theorem ok_exch (T : Txt K mg a) : Okm P w K mg base CX0 7 a.cFour "exchanged" a.m_exchanged ["self", "number"] (spExch a.cFour) := by
  refine T.m_exchanged.ok sc_exch (fun vs H Q E h => ?_) (fun cdv A outer s H vs Q E hr h => ?_)
  · obtain ⟨o, F, k, n, rfl, _⟩ := h
    rfl
  · obtain ⟨o, F, k, n, rfl, hk, ⟨dx, t, a1, a2, a3, a4, ho, ht, hC⟩, hB, hn, hV, q⟩ := h
    have nd := sc_exch.nd
    refine ⟨_, pss_cons (ps_set (i := 2) nd rfl (.inr rfl) (pe_m (pv 0) T.four (ok_other T) (hr.mono (by decide)) pass0 (pa_cons (pv 1) pa_nil)))
      (pss_one (ps_ret (pe_k T.made (ok_init T) hr T.gFour pass0 (pa_cons (pe_lc (own := [("at", 3), ("old", 4)]) (g := gTwo K 3 4) (tt := tYes) rfl nd (pi_eb false (by rfl) T.b_enumerate (pa_cons (pe_fld (pv 0) rfl) (pa_cons pe_int pa_nil))) (blkOk_by (N := ["self", "number", "circle", "at", "old"]) (sc := defScope m_exchanged) (by decide +kernel))
        (fun _ _ _ _ _ => pg_tup rfl (pgs_cons (pg_name (i := 3) nd rfl (.inl rfl)) (pgs_cons (pg_name (i := 4) nd rfl (.inl rfl)) pgs_nil))) (fun _ _ _ _ _ => pts_nil)
        (fun _ _ _ _ _ => pe_ifExp (pt_cmpR op_eq (pv 3) (pv 1) (nomark _)) (pv 2) (pv 4))) pa_nil)))), ?_⟩
    refine ⟨_, rfl, o, dx, _, rfl, ho, lkM (by decide), _, rfl, o, F, k, rfl, hk, ⟨dx, t, a1, a2, a3, a4, ho, ht, hC⟩, fun H1 p e1 hp => ?_⟩
    have ls : EvL (tLc (iEb false K (tCons (tFld K (tVar 0) "circles") (tCons (tC (.int 1)) tNil))) (gTwo K 3 4) tYes (tIf (tTest (tOp rEq (tVar 3) (tVar 1))) (tVar 2) (tVar 4)) [3, 4])
        [some (.ref o), some (.int ((k : Int) + 1)), some (.ref p), none, none] H1 (given 4 (fun _ => true) (fun i => .ref (if i = k then p else adr a1 a2 a3 a4 i))) := by
      refine el_lcE false (xs := R4 a1 a2 a3 a4) (k0 := 1) (fun _ => true) (fun i => .ref (if i = k then p else adr a1 a2 a3 a4 i)) (ea_cons (ev_fld (ev_var rfl) (e1 _ _ ho) T.four T.nCircles (lkC t)) (ea_cons ev_c ea_nil)) (by decide) (SqT.of (e1 _ _ ht)) (show 4 ≤ 40000 by decide) (fun _ _ => rfl) (fun _ _ _ _ _ => et_yes rfl) (fun i x H2 e2 hx _ => ?_)
      obtain ⟨hi, rfl⟩ := adr_get hx
      refine ev_if (b := decide (i = k)) (et_test (ev_is (ev_eqI (ev_var rfl) (ev_var rfl)) (congrArg V.bl ite_beq))) (fun z => ?_) (fun z => ?_)
      · have z := of_decide_eq_true z
        rw [if_pos z]
        exact ev_var rfl
      · have z := of_decide_eq_false z
        rw [if_neg z]
        exact ev_var rfl
    refine r_make ls fun l H2 hl e2 h2 x dx' nx ndx nex => ?_
    have hC2 := hC.ex (e1.trans e2)
    have hp2 := hp.ex e2
    have fin : ∃ b1 b2 b3 b4, (given 4 (fun _ => true) (fun i => V.ref (if i = k then p else adr a1 a2 a3 a4 i))) = R4 b1 b2 b3 b4 ∧ CT4 H2 b1 b2 b3 b4 (exF F k) := by
      rcases four_cases hk with rfl | rfl | rfl | rfl
      · exact ⟨_, _, _, _, rfl, hp2, hC2.2.1, hC2.2.2.1, hC2.2.2.2⟩
      · exact ⟨_, _, _, _, rfl, hC2.1, hp2, hC2.2.2.1, hC2.2.2.2⟩
      · exact ⟨_, _, _, _, rfl, hC2.1, hC2.2.1, hp2, hC2.2.2.2⟩
      · exact ⟨_, _, _, _, rfl, hC2.1, hC2.2.1, hC2.2.2.1, hp2⟩
    obtain ⟨b1, b2, b3, b4, eb, hb⟩ := fin
    rw [eb] at h2
    exact made_four nx ndx h2 hb (by omega) hn (hB.ex hk) (hV.ex hk) fun H3 o' e3 ho' => q H3 o' ((e1.trans e2).trans e3) ho'
end
end K64


namespace K64
open PySem PySem.Spec PyProof.Rows L2 Evl
/-- a word of numbers from 1 on -/
def wV (w : List Nat) : List V := w.map (fun k : Nat => V.int ((k : Int) + 1))
theorem wV_at {w : List Nat} {i : Nat} {x : V} (h : (wV w)[i]? = some x) : ∃ k, w[i]? = some k ∧ x = .int ((k : Int) + 1) := by
  unfold wV at h
  rw [List.getElem?_map] at h
  cases e : w[i]? with
  | none => rw [e] at h; cases h
  | some k => rw [e] at h; exact ⟨k, rfl, (Option.some.inj h).symm⟩
theorem atI_last {α : Type} (xs : List α) (y : α) : atI (xs ++ [y]) (-1) = some y := by
  have e : ixN (xs ++ [y]).length (-1) = some xs.length := by
    rw [List.length_append]
    unfold ixN
    rw [if_neg (by omega), if_pos (by simp; omega)]
    congr 1
    simp
    try omega
  unfold atI
  rw [e]
  simp
theorem exFs_take {w : List Nat} {i k : Nat} (h : w[i]? = some k) (F : Fo) : exFs F (w.take (i + 1)) = exF (exFs F (w.take i)) k := by
  have : w.take (i + 1) = w.take i ++ [k] := by
    rw [List.take_add_one, h]
    rfl
  rw [this]
  unfold exFs
  rw [List.foldl_append]
  rfl
theorem BdF.exs : ∀ (w : List Nat) {n : Nat} {F : Fo}, BdF n F → (∀ k ∈ w, k < 4) → BdF (n + 3 * w.length) (exFs F w)
  | [], n, F, h, _ => h
  | k :: w, n, F, h, hw => by
    have := BdF.exs w (h.ex (hw k (by simp))) (fun x hx => hw x (by simp [hx]))
    refine this.mono ?_
    rw [List.length_cons]
    omega
section
variable {P : Program} {w : World} {K : PySem.W.Frag} {mg : Str → Option Value} {base : Heap} {a : Ad}
theorem ev_isi {σ : L2.St} {H : Hp} {ta : TE} {x : V} {t n : String} {b : Bool} (ha : Ev ta σ H x) (ty : ∀ H', Ex H H' → TyX K H' x (.type t)) (hk : kitB t n = some b) : Ev (tCB (rIsi K) (tCons ta (tCons (tC (.ty n)) tNil))) σ H (.bl b) := fun H1 e Q q =>
  ha H1 e _ fun H2 e2 => ⟨x, .ty n, .type t, .type n, b, rfl, .ty n, ty H2 (e.trans e2), kit_ty hk, q H2 e2⟩
/-! ### check_word -/
def spChkW (K : PySem.W.Frag) : Sp := fun vs H Q _ => ∃ (p : Addr) (w : List Nat), vs = [.ref p] ∧ SqT K H p (wV w) ∧ (∀ k ∈ w, k < 4) ∧ ∀ H', Ex H H' → Q .non H'
theorem sc_check_word : FnScope ["word", "letter"] ["word"] (defScope s_check_word) := ⟨rfl, rfl, rfl, by decide +kernel, rfl, by decide +kernel, by decide +kernel⟩
theorem inN4 {k : Nat} (h : k < 4) : inV (.int ((k : Int) + 1)) N4 = true := by
  rcases four_cases h with rfl | rfl | rfl | rfl <;> decide
theorem ok_check_word (T : Txt K mg a) : Okd P w K mg base CX0 1 "check_word" a.check_word ["word"] (spChkW K) := by
  refine T.check_word.ok sc_check_word (fun vs H Q E h => ?_) (fun cdv A outer s H vs Q E hr h => ?_)
  · obtain ⟨p, w, rfl, _⟩ := h
    rfl
  · obtain ⟨p, w, rfl, hp, hw, q⟩ := h
    have nd := sc_check_word.nd
    refine ⟨_, pss_one (ps_for PassesOwn.never rfl (pi_tup (pv 0)) (pg_name (i := 1) nd rfl (.inl rfl)) (pss_one (ps_if (PW.pt (pw_or (pt_val (pe_callB call_isi (by rfl) T.b_isinstance (by decide +kernel) (pa_cons (pv 1) (pa_cons (pe_bltn (v := .ty "bool") (by rfl) T.b_bool (by decide +kernel) rfl) pa_nil))))
      (pw_or1 (pt_cmpR op_notIn_seq (pv 1) (pe_glob (v := .ref a.tWords) (by rfl) T.gWords rfl) (by rfl))))) pss_never pss_nil))), ?_⟩
    refine s_forT (ev_var rfl) hp (fun i σ' H' => (∃ v, σ' = [some (.ref p), v]) ∧ Ex H H') (fun H1 e => ⟨⟨none, rfl⟩, e⟩) (fun i σ' H' _ h => ex_t h.2 hp) ?_ (fun σ' H' h => q H' h.2)
    rintro i x σ' H' hx ⟨⟨v, rfl⟩, e⟩
    obtain ⟨k, hk, rfl⟩ := wV_at hx
    have k4 := hw k (List.mem_of_getElem? hk)
    refine s_when (b := false || !inV (.int ((k : Int) + 1)) N4) (et_or (et_test (ev_isi (t := "int") (ev_var rfl) (fun _ _ => .base (.int _)) (by decide +kernel))) (fun _ => et_test (ev_op (ev_var rfl) ev_c (rv_niT (T.sqWords H') rfl rfl)))) (fun z => ?_) (fun _ H1 e1 => ⟨⟨_, rfl⟩, e.trans e1⟩)
    rw [inN4 k4] at z
    cases z
/-! ### fours_along, four_at -/
def spAlong (K : PySem.W.Frag) (c : Addr) : Sp := fun vs H Q _ => ∃ (o p : Addr) (F : Fo) (w : List Nat) (n : Nat), vs = [.ref o, .ref p] ∧ ObF c H o F ∧ SqT K H p (wV w) ∧ (∀ k ∈ w, k < 4) ∧ w.length < 90000 ∧ BdF n F ∧ n + 3 * w.length ≤ 400000 ∧ Valid F ∧
  ∀ H' l xs o', Ex H H' → H' l = some (.lst (xs ++ [.ref o'])) → ObF c H' o' (exFs F w) → Q (.ref l) H'
theorem sc_fours_along : FnScope ["four", "word", "found", "letter"] ["four", "word"] (defScope s_fours_along) := ⟨rfl, rfl, rfl, by decide +kernel, rfl, by decide +kernel, by decide +kernel⟩
theorem ok_fours_along (T : Txt K mg a) : Okd P w K mg base CX0 8 "fours_along" a.fours_along ["four", "word"] (spAlong K a.cFour) := by
  refine T.fours_along.ok sc_fours_along (fun vs H Q E h => ?_) (fun cdv A outer s H vs Q E hr h => ?_)
  · obtain ⟨o, p, F, w, n, rfl, _⟩ := h
    rfl
  · obtain ⟨o, p, F, w, n, rfl, ho, hp, hw, hlen, hB, hn, hV, q⟩ := h
    have nd := sc_fours_along.nd
    refine ⟨_, pss_cons (ps_expr (pe_c (ok_check_word T) (hr.mono (by decide)) pass0 (pa_cons (pv 1) pa_nil)))
      (pss_cons (ps_set (i := 2) nd rfl (.inl rfl) (pe_lst (pa_cons (pv 0) pa_nil)))
      (pss_cons (ps_for PassesOwn.never rfl (pi_tup (pv 1)) (pg_name (i := 3) nd rfl (.inl rfl)) (pss_one (ps_expr (pe_bm PySem.F.plainAttrs_list PySem.F.slot_list_append PySem.F.type_list_append mt_append (pv 2)
        (pa_cons (pe_m (pe_ix ix_list (pv 2) (pe_un un_neg pe_int) (fun _ _ => rfl)) T.four (ok_exch T) hr pass0 (pa_cons (pv 3) pa_nil)) pa_nil)))))
      (pss_one (ps_ret (pv 2))))), ?_⟩
    refine ⟨_, rfl, p, w, rfl, hp, hw, fun H1 e1 => ?_⟩
    refine q_asgL (el_lst (ea_cons (ev_var rfl) ea_nil) (show 1 ≤ 100000 by decide)) fun l H2 hl e2 h2 => ?_
    have e12 := e1.trans e2
    refine q_forT (ev_var rfl) (ex_t e12 hp) (fun i σ' H' => (∃ v, σ' = [some (.ref o), some (.ref p), some (.ref l), v]) ∧ Ex H1 H' ∧ ∃ xs o', xs.length = i ∧ H' l = some (.lst (xs ++ [.ref o'])) ∧ ObF a.cFour H' o' (exFs F (w.take i)))
      (fun H3 e3 => ⟨⟨none, rfl⟩, e2.trans e3, [], o, rfl, e3 _ _ h2, ho.ex (e12.trans e3)⟩) (fun i σ' H' _ h => ex_t (e1.trans h.2.1) hp) ?_ ?_
    · rintro i x σ' H' hx ⟨⟨v, rfl⟩, e3, xs, o', hxs, hl', ho'⟩
      obtain ⟨k, hk, rfl⟩ := wV_at hx
      have k4 := hw k (List.mem_of_getElem? hk)
      have hi : i < w.length := (List.getElem?_eq_some_iff.mp hk).1
      have htk : ∀ j ∈ w.take i, j < 4 := fun j hj => hw j (List.mem_of_mem_take hj)
      obtain ⟨dx, t, a1, a2, a3, a4, h0, h1, h2⟩ := id ho'
      have bb := BdF.exs (w.take i) hB htk
      rw [List.length_take, Nat.min_eq_left (Nat.le_of_lt hi)] at bb
      refine ⟨_, rfl, .inl ⟨rfl, _, SqL.of hl'⟩, _, rfl, 1, rfl, l, _, _, _, rfl, rfl, SqL.of hl', atI_last _ _, o', dx, _, rfl, h0, lkM (by decide), _, rfl, o', _, k, n + 3 * i, rfl, k4, ho', bb, by omega, Valid.exs _ hV htk, fun H4 p' e4 hp' => ?_⟩
      refine ⟨l, _, _, rfl, rfl, e4 _ _ hl', (by rw [List.length_append, hxs]; show i + 1 < sizeLine; exact Nat.lt_of_lt_of_le (show i + 1 < 100000 by omega) (by decide)), ?_⟩
      have hlp : l ≠ p' := by
        obtain ⟨dx', t', _, _, _, _, z, _⟩ := hp'
        exact ne_of (e4 _ _ hl') z (by intro y; cases y)
      refine ⟨⟨_, rfl⟩, Ex.mut (e3.trans e4) hl, xs ++ [.ref o'], p', by rw [List.length_append, hxs]; rfl, upd_same, ?_⟩
      rw [exFs_take hk]
      have hp4 := hp'
      obtain ⟨dx', t', b1, b2, b3, b4, z0, z1, z2⟩ := hp'
      have kp : ∀ {b : Addr} {u : HO} {xs' : List V}, H4 b = some u → u ≠ .lst xs' → H4 l = some (.lst xs') → (upd H4 l (.lst (xs ++ [V.ref o'] ++ [V.ref p']))) b = some u := fun {b u xs'} h hu hl4 => by
        rw [upd_ne (ne_of h hl4 hu)]
        exact h
      have hl4 := e4 _ _ hl'
      exact ⟨dx', t', b1, b2, b3, b4, kp z0 (by intro y; cases y) hl4, kp z1 (by intro y; cases y) hl4, kp z2.1 (by intro y; cases y) hl4, kp z2.2.1 (by intro y; cases y) hl4, kp z2.2.2.1 (by intro y; cases y) hl4, kp z2.2.2.2 (by intro y; cases y) hl4⟩
    · rintro σ' H' ⟨⟨v, rfl⟩, e3, xs, o', hxs, hl', ho'⟩
      have ew : w.take (wV w).length = w := by
        unfold wV
        rw [List.length_map, List.take_length]
      rw [ew] at ho'
      exact ⟨_, rfl, q H' l xs o' (e1.trans e3) hl' ho'⟩
def spAt (K : PySem.W.Frag) (c : Addr) : Sp := fun vs H Q _ => ∃ (o p : Addr) (F : Fo) (w : List Nat) (n : Nat), vs = [.ref o, .ref p] ∧ ObF c H o F ∧ SqT K H p (wV w) ∧ (∀ k ∈ w, k < 4) ∧ w.length < 90000 ∧ BdF n F ∧ n + 3 * w.length ≤ 400000 ∧ Valid F ∧
  ∀ H' o', Ex H H' → ObF c H' o' (exFs F w) → Q (.ref o') H'
theorem sc_four_at : FnScope ["four", "word"] ["four", "word"] (defScope s_four_at) := ⟨rfl, rfl, rfl, by decide +kernel, rfl, by decide +kernel, by decide +kernel⟩
theorem ok_four_at (T : Txt K mg a) : Okd P w K mg base CX0 9 "four_at" a.four_at ["four", "word"] (spAt K a.cFour) := by
  refine T.four_at.ok sc_four_at (fun vs H Q E h => ?_) (fun cdv A outer s H vs Q E hr h => ?_)
  · obtain ⟨o, p, F, w, n, rfl, _⟩ := h
    rfl
  · obtain ⟨o, p, F, w, n, rfl, ho, hp, hw, hlen, hB, hn, hV, q⟩ := h
    refine ⟨_, pss_one (ps_ret (pe_ix ix_list (pe_c (ok_fours_along T) hr pass0 (pa_cons (pv 0) (pa_cons (pv 1) pa_nil))) (pe_un un_neg pe_int) (fun _ _ => rfl))), ?_⟩
    refine ⟨_, rfl, _, rfl, o, p, F, w, n, rfl, ho, hp, hw, hlen, hB, hn, hV, fun H1 l xs o' e1 hl ho' => ?_⟩
    exact ⟨1, rfl, l, _, _, _, rfl, rfl, SqL.of hl, atI_last _ _, q H1 o' e1 ho'⟩
end
end K64


namespace K64
open PySem PySem.Spec PyProof.Rows L2 Evl
/-- coordinates as a list on the heap -/
def PL (H : Hp) (p : Addr) (v : V4) : Prop := H p = some (.lst (v.list.map V.int))
theorem PL.ex {H H' : Hp} {p : Addr} {v : V4} (e : Ex H H') (h : PL H p v) : PL H' p v := e _ _ h
def PV (H : Hp) (x : V) (o : Option V4) : Prop := match o with | none => x = .non | some u => ∃ p, x = .ref p ∧ PL H p u
theorem PV.ex {H H' : Hp} {x : V} {o : Option V4} (e : Ex H H') (h : PV H x o) : PV H' x o := by
  cases o with
  | none => exact h
  | some u =>
    obtain ⟨p, h1, h2⟩ := h
    exact ⟨p, h1, h2.ex e⟩
theorem list_at {v : V4} {i : Nat} {x : V} (h : (v.list.map V.int)[i]? = some x) : i < 4 ∧ x = .int (v.get i) := by
  match i, h with
  | 0, h => exact ⟨by decide, (Option.some.inj h).symm⟩
  | 1, h => exact ⟨by decide, (Option.some.inj h).symm⟩
  | 2, h => exact ⟨by decide, (Option.some.inj h).symm⟩
  | 3, h => exact ⟨by decide, (Option.some.inj h).symm⟩
theorem eqv_ints : ∀ (ns ms : List Int), PyData.eqvAll (ns.map PyData.int) (ms.map PyData.int) = decide (ns = ms)
  | [], [] => rfl
  | [], _ :: _ => rfl
  | _ :: _, [] => rfl
  | n :: ns, m :: ms => by
    show (n == m && PyData.eqvAll (ns.map PyData.int) (ms.map PyData.int)) = _
    rw [eqv_ints ns ms]
    by_cases h1 : n = m
    · subst h1
      by_cases h2 : ns = ms
      · subst h2; simp
      · simp [h2]
    · simp [h1]
theorem dp_ints {K : PySem.W.Frag} {H : Hp} : ∀ ns : List Int, DpAll K H (ns.map V.int) (ns.map PyData.int)
  | [] => .nil
  | n :: ns => .cons (.int n) (dp_ints ns)
theorem shaped_ints : ∀ (ns : List Int), ns.length ≤ 4 → SeqAt.shaped (.list (ns.map PyData.int)) = true := by
  intro ns h
  match ns, h with
  | [], _ => rfl
  | [_], _ => rfl
  | [_, _], _ => rfl
  | [_, _, _], _ => rfl
  | [_, _, _, _], _ => rfl
section
variable {P : Program} {w : World} {K : PySem.W.Frag} {mg : Str → Option Value} {base : Heap} {a : Ad}
theorem ev_mod {σ : L2.St} {H : Hp} {ta tb : TE} {i j : Int} (ha : Ev ta σ H (.int i)) (hb : Ev tb σ H (.int j)) (h : 0 < j) : Ev (tOp (rI (fun _ j => 0 < j) fun i j => .int (i % j)) ta tb) σ H (.int (i % j)) := ev_op ha hb (rv_I h)
theorem ev_fdiv {σ : L2.St} {H : Hp} {ta tb : TE} {i j : Int} (ha : Ev ta σ H (.int i)) (hb : Ev tb σ H (.int j)) (h : CDiv i j) : Ev (tOp (rI CDiv fun i j => .int (i / j)) ta tb) σ H (.int (i / j)) := ev_op ha hb (rv_I h)
theorem ev_neI {σ : L2.St} {H : Hp} {ta tb : TE} {i j : Int} (ha : Ev ta σ H (.int i)) (hb : Ev tb σ H (.int j)) : Ev (tOp rNe ta tb) σ H (.bl (!decide (i = j))) := by
  have := ev_op ha hb (rv_ne (x := .int i) (y := .int j) rfl)
  have e : decide (V.int i = V.int j) = decide (i = j) := by
    by_cases h : i = j
    · subst h; simp
    · have : V.int i ≠ V.int j := fun z => h (V.int.inj z)
      simp [h]
  rw [e] at this
  exact this
/-! ### eighths -/
def spEighths (c : Addr) : Sp := fun vs H Q _ => ∃ (o q : Addr) (F : Fo) (C : Ci) (n : Nat), vs = [.ref o, .ref q] ∧ ObF c H o F ∧ CS H q C ∧ 0 < n ∧ n ≤ 400000 ∧ BdF n F ∧ Bd C ∧ Valid F ∧ C.ok ∧ ∀ H' p, Ex H H' → PL H' p (eV F C) → Q (.ref p) H'
theorem sc_eighths : FnScope ["four", "circle", "doubles", "own", "one"] ["four", "circle"] (defScope s_eighths) := ⟨rfl, rfl, rfl, by decide +kernel, rfl, by decide +kernel, by decide +kernel⟩
theorem ok_eighths (T : Txt K mg a) : Okd P w K mg base CX0 4 "eighths" a.eighths ["four", "circle"] (spEighths a.cFour) := by
  refine T.eighths.ok sc_eighths (fun vs H Q E h => ?_) (fun cdv A outer s H vs Q E hr h => ?_)
  · obtain ⟨o, q, F, C, n, rfl, _⟩ := h
    rfl
  · obtain ⟨o, q, F, C, n, rfl, ⟨dx, t, a1, a2, a3, a4, ho, ht, hC⟩, hq, n0, n1, hB, bC, hV, okC, k⟩ := h
    have nd := sc_eighths.nd
    have OD := ok_double (P := P) (w := w) (base := base) T
    refine ⟨_, pss_cons (ps_set (i := 2) nd rfl (.inr rfl) (pe_lc (own := [("own", 3)]) (g := gName 3) (tt := tYes) rfl nd (pi_tup (pe_fld (pv 0) rfl)) (blkOk_by (N := ["four", "circle", "doubles", "own", "one"]) (sc := defScope s_eighths) (by decide +kernel)) (fun _ _ _ _ _ => pg_name (i := 3) nd rfl (.inl rfl)) (fun _ _ _ _ _ => pts_nil)
        (fun _ _ _ _ _ => pe_c OD hr pass0 (pa_cons (pv 3) (pa_cons (pv 1) pa_nil)))))
      (pss_one (ps_ret (pe_lc (own := [("one", 4)]) (g := gName 4) (tt := tYes) rfl nd (pi_list (pv 2)) (blkOk_by (N := ["four", "circle", "doubles", "own", "one"]) (sc := defScope s_eighths) (by decide +kernel)) (fun _ _ _ _ _ => pg_name (i := 4) nd rfl (.inl rfl)) (fun _ _ _ _ _ => pts_nil)
        (fun _ _ _ _ _ => pe_op op_sub (pe_op op_mul pe_int (pv 4)) (pe_callB (id := "sum") (r := rSum K) (cr_sum rfl) (by rfl) T.b_sum (by decide +kernel) (pa_cons (pv 2) pa_nil)))))), ?_⟩
    refine q_asgL (xs := (dV F C).list.map V.int) (el_is (el_lcT (xs := R4 a1 a2 a3 a4) (fun _ => true) (fun i => .int ((dV F C).get i)) (ev_fld (ev_var rfl) ho T.four T.nCircles (lkC t)) (SqT.of ht) (show 4 ≤ 40000 by decide) (fun _ => rfl) (fun _ _ _ _ _ => et_yes rfl) (fun i x H2 e2 hx _ => ?_)) rfl) fun l H1 hl e1 h1 => ?_
    · obtain ⟨hi, rfl⟩ := adr_get hx
      intro H3 e3 Q' q'
      have e23 := e2.trans e3
      refine ⟨_, rfl, _, rfl, _, q, F.get i, C, rfl, e23 _ _ (hC.at hi), hq.ex e23, ⟨n, n0, n1, hB.at hi⟩, bC, hV.1 i hi, okC, fun H4 e4 => ?_⟩
      have ed : dbl (F.get i) C = (dV F C).get i := by rcases four_cases hi with rfl | rfl | rfl | rfl <;> rfl
      rw [ed]
      exact q' H4 e4
    · refine s_retL (xs := (eV F C).list.map V.int) (el_is (el_lcL (xs := (dV F C).list.map V.int) (fun _ => true) (fun i => .int ((eV F C).get i)) (ev_var rfl) (SqL.of h1) (show 4 ≤ 40000 by decide) (fun _ => rfl) (fun _ _ _ _ _ => et_yes rfl) (fun i x H2 e2 hx _ => ?_)) rfl) fun p H2 hp e2 h2 => k H2 p (e1.trans e2) h2
      obtain ⟨hi, rfl⟩ := list_at hx
      refine ev_is (ev_sub (ev_mulL ev_c (ev_var rfl) (by decide)) (ev_sumL' (ns := (dV F C).list) (ev_var rfl) (SqL.of (e2 _ _ h1)))) (congrArg V.int ?_)
      have es : (dV F C).list.sum = (dV F C).sum := by
        unfold V4.list V4.sum
        simp only [List.sum_cons, List.sum_nil]
        omega
      rw [es]
      rcases four_cases hi with rfl | rfl | rfl | rfl <;> rfl
/-! ### whole_coordinates -/
def spWhole (c : Addr) : Sp := fun vs H Q _ => ∃ (o q : Addr) (F : Fo) (C : Ci) (n : Nat), vs = [.ref o, .ref q] ∧ ObF c H o F ∧ CS H q C ∧ 0 < n ∧ n ≤ 400000 ∧ BdF n F ∧ Bd C ∧ Valid F ∧ C.ok ∧ ∀ H' x, Ex H H' → PV H' x (parts F C) → Q x H'
theorem sc_whole : FnScope ["four", "circle", "parts", "one"] ["four", "circle"] (defScope s_whole_coordinates) := ⟨rfl, rfl, rfl, by decide +kernel, rfl, by decide +kernel, by decide +kernel⟩
theorem any_whole (e : V4) : ([!decide (e.p % 8 = 0), !decide (e.q % 8 = 0), !decide (e.r % 8 = 0), !decide (e.s % 8 = 0)] : List Bool).any id = !decide (Whole e) := by
  unfold Whole
  by_cases h1 : e.p % 8 = 0 <;> by_cases h2 : e.q % 8 = 0 <;> by_cases h3 : e.r % 8 = 0 <;> by_cases h4 : e.s % 8 = 0 <;> simp [h1, h2, h3, h4]
theorem ok_whole (T : Txt K mg a) : Okd P w K mg base CX0 5 "whole_coordinates" a.whole_coordinates ["four", "circle"] (spWhole a.cFour) := by
  refine T.whole_coordinates.ok sc_whole (fun vs H Q E h => ?_) (fun cdv A outer s H vs Q E hr h => ?_)
  · obtain ⟨o, q, F, C, n, rfl, _⟩ := h
    rfl
  · obtain ⟨o, q, F, C, n, rfl, ho, hq, n0, n1, hB, bC, hV, okC, k⟩ := h
    have nd := sc_whole.nd
    refine ⟨_, pss_cons (ps_set (i := 2) nd rfl (.inl rfl) (pe_c (ok_eighths T) hr pass0 (pa_cons (pv 0) (pa_cons (pv 1) pa_nil))))
      (pss_cons (ps_if (pt_val (pe_callB (cr_any rfl) (by rfl) T.b_any (by decide +kernel) (pa_cons (pe_lc (own := [("one", 3)]) (g := gName 3) (tt := tYes) rfl nd (pi_list (pv 2)) (blkOk_by (N := ["four", "circle", "parts", "one"]) (sc := defScope s_whole_coordinates) (by decide +kernel)) (fun _ _ _ _ _ => pg_name (i := 3) nd rfl (.inl rfl)) (fun _ _ _ _ _ => pts_nil)
        (fun _ _ _ _ _ => pe_cmpR op_ne (pe_op op_mod (pv 3) pe_int) pe_int (nomark _))) pa_nil))) (pss_one (ps_ret pe_non)) pss_nil)
      (pss_one (ps_ret (pe_lc (own := [("one", 3)]) (g := gName 3) (tt := tYes) rfl nd (pi_list (pv 2)) (blkOk_by (N := ["four", "circle", "parts", "one"]) (sc := defScope s_whole_coordinates) (by decide +kernel)) (fun _ _ _ _ _ => pg_name (i := 3) nd rfl (.inl rfl)) (fun _ _ _ _ _ => pts_nil)
        (fun _ _ _ _ _ => pe_op op_fdiv (pv 3) pe_int))))), ?_⟩
    refine ⟨_, rfl, _, rfl, o, q, F, C, n, rfl, ho, hq, n0, n1, hB, bC, hV, okC, fun H1 p e1 hp => ?_⟩
    refine q_when (b := !decide (Whole (eV F C))) (et_test (ev_is (ev_anyL (bs := [!decide ((eV F C).p % 8 = 0), !decide ((eV F C).q % 8 = 0), !decide ((eV F C).r % 8 = 0), !decide ((eV F C).s % 8 = 0)]) (el_is (el_lcL (xs := (eV F C).list.map V.int) (fun _ => true) (fun i => .bl (!decide ((eV F C).get i % 8 = 0))) (ev_var rfl) (SqL.of hp) (show 4 ≤ 40000 by decide) (fun _ => rfl) (fun _ _ _ _ _ => et_yes rfl) (fun i x H2 e2 hx _ => ?_)) rfl)) (congrArg V.bl (any_whole _)))) (fun z H2 e2 => ?_) (fun z H2 e2 => ?_)
    · obtain ⟨hi, rfl⟩ := list_at hx
      exact ev_neI (ev_mod (ev_var rfl) ev_c (by decide)) ev_c
    · have z : ¬ Whole (eV F C) := by simpa using z
      refine k H2 .non (e1.trans e2) ?_
      unfold parts
      rw [if_neg z]
      rfl
    · have z : Whole (eV F C) := by simpa using z
      refine s_retL (xs := (eV F C).eighth.list.map V.int) (el_is (el_lcL (xs := (eV F C).list.map V.int) (fun _ => true) (fun i => .int ((eV F C).get i / 8)) (ev_var rfl) (SqL.of (e2 _ _ hp)) (show 4 ≤ 40000 by decide) (fun _ => rfl) (fun _ _ _ _ _ => et_yes rfl) (fun i x H3 e3 hx _ => ?_)) rfl) fun p' H3 hp' e3 h3 => k H3 (.ref p') ((e1.trans e2).trans e3) ?_
      · obtain ⟨hi, rfl⟩ := list_at hx
        exact ev_fdiv (ev_var rfl) ev_c ⟨by decide, by decide⟩
      · unfold parts
        rw [if_pos z]
        exact ⟨p', rfl, h3⟩
/-! ### is_unit -/
def spUnit : Sp := fun vs H Q _ => ∃ (p : Addr) (v : V4), vs = [.ref p] ∧ PL H p v ∧ ∀ H', Ex H H' → Q (.bl (decide (IsUnit v))) H'
theorem sc_is_unit : FnScope ["parts"] ["parts"] (defScope s_is_unit) := ⟨rfl, rfl, rfl, by decide +kernel, rfl, by decide +kernel, by decide +kernel⟩
theorem ok_is_unit (T : Txt K mg a) : Okd P w K mg base CX0 1 "is_unit" a.is_unit ["parts"] spUnit := by
  refine T.is_unit.ok sc_is_unit (fun vs H Q E h => ?_) (fun cdv A outer s H vs Q E hr h => ?_)
  · obtain ⟨p, v, rfl, _⟩ := h
    rfl
  · obtain ⟨p, v, rfl, hp, k⟩ := h
    have hu : (A.deeper (envOfC "is_unit" (defScope s_is_unit) s.heap.objs.size a.is_unit cdv)).units + 64 < cLine := by have := hr.un; omega
    refine ⟨_, pss_one (ps_ret (pe_cmpR (op_eqD hu) (pe_callB cr_sorted (by rfl) T.b_sorted (by decide +kernel) (pa_cons (pv 0) pa_nil)) (pe_lst (pa_cons pe_int (pa_cons pe_int (pa_cons pe_int (pa_cons pe_int pa_nil))))) (nomark _))), ?_⟩
    refine ⟨_, rfl, p, v.list, rfl, SqL.of hp, (show 4 < 64 by decide), fun ns l pm srt hl => ?_⟩
    have lsz : (4 : Nat) ≤ sizeLine := by decide
    refine ⟨lsz, fun m hm => ?_⟩
    have nlm : l ≠ m := fun z => by rw [z, upd_same] at hm; cases hm
    have h1 : upd (upd H l (.lst (ns.map V.int))) m (.lst [.int 0, .int 0, .int 0, .int 1]) l = some (.lst (ns.map V.int)) := by rw [upd_ne nlm]; exact upd_same
    have len : ns.length = 4 := pm.length_eq
    refine ⟨.list (ns.map PyData.int), .list (([0,0,0,1] : List Int).map PyData.int), .lst (SqL.of h1) (dp_ints ns), .lst (SqL.of (xs := ([0,0,0,1] : List Int).map V.int) upd_same) (dp_ints _), shaped_ints ns (by omega), by decide +kernel, ?_⟩
    have e : PyData.eqv (.list (ns.map PyData.int)) (.list (([0,0,0,1] : List Int).map PyData.int)) = decide (IsUnit v) := by
      show PyData.eqvAll _ _ = _
      rw [eqv_ints, sorted_unit pm srt]
    show Q (.bl (PyData.eqv (.list (ns.map PyData.int)) (.list (([0,0,0,1] : List Int).map PyData.int)))) _
    rw [e]
    exact k _ ((Ex.new hl).trans (Ex.new hm))
end
end K64


namespace K64
open PySem PySem.Spec PyProof.Rows L2 Evl
def oV (o : Option Nat) : V := match o with | none => .non | some k => .int ((k : Int) + 1)
section
variable {P : Program} {w : World} {K : PySem.W.Frag} {mg : Str → Option Value} {base : Heap} {a : Ad}
/-! ### next_number -/
def spNext : Sp := fun vs H Q _ => ∃ (p : Addr) (v : V4), vs = [.ref p] ∧ PL H p v ∧ ∀ H', Ex H H' → Q (oV (nxt v)) H'
theorem sc_next : FnScope ["parts", "negative", "number", "one"] ["parts"] (defScope s_next_number) := ⟨rfl, rfl, rfl, by decide +kernel, rfl, by decide +kernel, by decide +kernel⟩
theorem negs_given (v : V4) : given 4 (fun i => decide (v.get i < 0)) (fun i => V.int (1 + (i : Int))) = (negs v).map (fun k : Nat => V.int (1 + (k : Int))) := rfl
theorem list_sum (v : V4) : v.list.sum = v.sum := by
  unfold V4.list V4.sum
  simp only [List.sum_cons, List.sum_nil]
  omega
theorem ok_next (T : Txt K mg a) : Okd P w K mg base CX0 1 "next_number" a.next_number ["parts"] spNext := by
  refine T.next_number.ok sc_next (fun vs H Q E h => ?_) (fun cdv A outer s H vs Q E hr h => ?_)
  · obtain ⟨p, v, rfl, _⟩ := h
    rfl
  · obtain ⟨p, v, rfl, hp, k⟩ := h
    have nd := sc_next.nd
    refine ⟨_, pss_cons (ps_setLc (i := 1) (own := [("number", 2), ("one", 3)]) (g := gTwo K 2 3) (tt := tTest (tOp (rI0 fun i j => .bl (decide (i < j))) (tVar 3) (tC (.int 0)))) rfl nd rfl rfl (sw_true rfl rfl rfl (by decide +kernel)) (pi_eb true (by rfl) T.b_enumerate (pa_cons (pv 0) (pa_cons pe_int pa_nil))) (blkOk_by (N := ["parts", "negative", "number", "one"]) (sc := defScope s_next_number) (by decide +kernel))
        (fun _ _ _ _ _ => pg_tup rfl (pgs_cons (pg_name (i := 2) nd rfl (.inl rfl)) (pgs_cons (pg_name (i := 3) nd rfl (.inl rfl)) pgs_nil))) (fun _ _ _ _ _ => pts_one (pt_cmpR op_lt (pv 3) pe_int (nomark _)))
        (fun _ _ _ _ _ => pv 2))
      (pss_cons (ps_if (PW.pt (pw_or (pt_cmpR op_ne (pe_callB call_len_seq (by rfl) T.b_len PySem.boot_len (pa_cons (pv 1) pa_nil)) pe_int (nomark _)) (pw_or1 (pt_cmpR op_le (pe_callB (cr_sum rfl) (by rfl) T.b_sum (by decide +kernel) (pa_cons (pv 0) pa_nil)) pe_int (nomark _))))) (pss_one (ps_ret pe_non)) pss_nil)
      (pss_one (ps_ret (pe_ix ix_list (pv 1) pe_int (fun _ _ => rfl))))), ?_⟩
    refine q_asgL (el_lcE true (xs := v.list.map V.int) (k0 := 1) (fun i => decide (v.get i < 0)) (fun i => .int (1 + (i : Int))) (ea_cons (ev_var rfl) (ea_cons ev_c ea_nil)) (by decide) (SqL.of hp) (show 4 ≤ 40000 by decide) (fun _ _ => rfl) (fun i x H1 e1 hx => ?_) (fun i x H1 e1 hx _ => ev_var rfl)) fun l H1 hl e1 h1 => ?_
    · obtain ⟨hi, rfl⟩ := list_at hx
      exact et_test (ev_lt (ev_var rfl) ev_c)
    · have h1 : H1 l = some (.lst ((negs v).map (fun k : Nat => V.int (1 + (k : Int))))) := h1
      have lb : Ev (tCB (rLenS K) (tCons (tVar 1) tNil)) [some (.ref p), some (.ref l), none, none] H1 (.int ((((negs v).map (fun k : Nat => V.int (1 + (k : Int)))).length : Nat) : Int)) := ev_len (ev_var rfl) (SqL.of h1)
      refine q_when (b := (!decide ((((negs v).map (fun k : Nat => V.int (1 + (k : Int)))).length : Int) = 1)) || decide (v.list.sum ≤ 1)) (et_or (et_test (ev_neI lb ev_c)) (fun _ => et_test (ev_le (ev_sumL' (ns := v.list) (ev_var rfl) (SqL.of (e1 _ _ hp))) ev_c))) (fun z H2 e2 => ?_) (fun z H2 e2 => ?_)
      · have z : (negs v).length ≠ 1 ∨ v.sum ≤ 1 := by
          rw [list_sum, List.length_map] at z
          simp at z
          omega
        have e : nxt v = none := if_pos z
        rw [e] at k
        exact k H2 (e1.trans e2)
      · have z : ¬ ((negs v).length ≠ 1 ∨ v.sum ≤ 1) := by
          rw [list_sum, List.length_map] at z
          simp at z
          omega
        have e : nxt v = (negs v)[0]? := if_neg z
        have l1 : (negs v).length = 1 := by omega
        match hn : negs v, l1 with
        | [j], _ =>
          rw [hn] at e h1
          rw [e] at k
          refine s_ret (v := oV ([j][0]?)) (ev_ixL (ev_var rfl) ev_c (e2 _ _ h1) ?_) fun H3 e3 => k H3 ((e1.trans e2).trans e3)
          show some (V.int (1 + (j : Int))) = some (V.int ((j : Int) + 1))
          rw [Int.add_comm]
/-! ### exchanged -/
def spExP : Sp := fun vs H Q _ => ∃ (p : Addr) (v : V4) (k : Nat), vs = [.ref p, .int ((k : Int) + 1)] ∧ k < 4 ∧ PL H p v ∧ ∀ H' q, H q = none → Ex H H' → PL H' q (beh v k) → Q (.ref q) H'
theorem sc_exP : FnScope ["parts", "number", "one", "at", "old"] ["parts", "number"] (defScope s_exchanged) := ⟨rfl, rfl, rfl, by decide +kernel, rfl, by decide +kernel, by decide +kernel⟩
theorem beh_get (v : V4) {k i : Nat} (hk : k < 4) (hi : i < 4) : (beh v k).get i = if i = k then - v.get k else v.get i + 2 * v.get k := by
  by_cases e : i = k
  · subst e; rw [if_pos rfl, get_beh v hi]
  · rw [if_neg e, get_beh_ne v hk hi e]
theorem ok_exP (T : Txt K mg a) : Okd P w K mg base CX0 1 "exchanged" a.exchanged ["parts", "number"] spExP := by
  refine T.exchanged.ok sc_exP (fun vs H Q E h => ?_) (fun cdv A outer s H vs Q E hr h => ?_)
  · obtain ⟨p, v, k, rfl, _⟩ := h
    rfl
  · obtain ⟨p, v, k, rfl, hk, hp, q⟩ := h
    have nd := sc_exP.nd
    refine ⟨_, pss_cons (ps_set (i := 2) nd rfl (.inr rfl) (pe_ix ix_list (pv 0) (pe_op op_sub (pv 1) pe_int) (fun _ _ => rfl)))
      (pss_one (ps_ret (pe_lc (own := [("at", 3), ("old", 4)]) (g := gTwo K 3 4) (tt := tYes) rfl nd (pi_eb true (by rfl) T.b_enumerate (pa_cons (pv 0) (pa_cons pe_int pa_nil))) (blkOk_by (N := ["parts", "number", "one", "at", "old"]) (sc := defScope s_exchanged) (by decide +kernel))
        (fun _ _ _ _ _ => pg_tup rfl (pgs_cons (pg_name (i := 3) nd rfl (.inl rfl)) (pgs_cons (pg_name (i := 4) nd rfl (.inl rfl)) pgs_nil))) (fun _ _ _ _ _ => pts_nil)
        (fun _ _ _ _ _ => pe_ifExp (pt_cmpR op_eq (pv 3) (pv 1) (nomark _)) (pe_un un_neg (pv 2)) (pe_op op_add (pv 4) (pe_op op_mul pe_int (pv 2))))))), ?_⟩
    refine q_asg (v := .int (v.get k)) (ev_ixL (ev_var rfl) (ev_sub (ev_var rfl) ev_c) hp ?_) fun H1 e1 => ?_
    · rcases four_cases hk with rfl | rfl | rfl | rfl <;> rfl
    · refine s_retL (xs := (beh v k).list.map V.int) (el_is (el_lcE true (xs := v.list.map V.int) (k0 := 1) (fun _ => true) (fun i => .int ((beh v k).get i)) (ea_cons (ev_var rfl) (ea_cons ev_c ea_nil)) (by decide) (SqL.of (e1 _ _ hp)) (show 4 ≤ 40000 by decide) (fun _ _ => rfl) (fun _ _ _ _ _ => et_yes rfl) (fun i x H2 e2 hx _ => ?_)) rfl) fun l H2 hl e2 h2 => q H2 l (fresh_back e1 hl) (e1.trans e2) h2
      obtain ⟨hi, rfl⟩ := list_at hx
      rw [beh_get v hk hi]
      refine ev_if (b := decide (i = k)) (et_test (ev_is (ev_eqI (ev_var rfl) (ev_var rfl)) (congrArg V.bl ite_beq))) (fun z => ?_) (fun z => ?_)
      · rw [if_pos (of_decide_eq_true z)]
        exact ev_un (ev_var rfl) ru_neg
      · rw [if_neg (of_decide_eq_false z)]
        exact ev_add (ev_var rfl) (ev_mulL ev_c (ev_var rfl) (by decide))
end
end K64


namespace K64
open PySem PySem.Spec PyProof.Rows L2 Evl
theorem wV_snoc (w : List Nat) (k : Nat) : wV w ++ [V.int ((k : Int) + 1)] = wV (w ++ [k]) := by unfold wV; rw [List.map_append]; rfl
theorem wV_len (w : List Nat) : (wV w).length = w.length := by unfold wV; rw [List.length_map]
/-- where the search stands: m exchanges are left at most -/
def Stands (o0 o : Option V4) (pre : List Nat) (m : Nat) : Prop := match o with
  | none => o0 = none ∧ pre = []
  | some v => ∃ v0, o0 = some v0 ∧ K64.Ends (fun _ => True) m v ∧ run 20000 v0 = (pre ++ (run m v).1, (run m v).2) ∧ pre.length + m ≤ 20000
theorem rv_isN {H : Hp} {x : V} : RV (fun x y H Q => y = .non ∧ Q (.bl (decide (x = .non))) H) x .non H (.bl (decide (x = .non))) := fun H1 _ _ q => ⟨rfl, q H1 (Ex.refl H1)⟩
theorem rv_notN {H : Hp} {x : V} : RV (fun x y H Q => y = .non ∧ Q (.bl (!decide (x = .non))) H) x .non H (.bl (!decide (x = .non))) := fun H1 _ _ q => ⟨rfl, q H1 (Ex.refl H1)⟩
theorem ev_isN {σ : L2.St} {H : Hp} {ta : TE} {x : V} {b : Bool} (h : Ev ta σ H x) (hb : decide (x = .non) = b) : Ev (tOp (fun x y H Q => y = .non ∧ Q (.bl (decide (x = .non))) H) ta (tC .non)) σ H (.bl b) := hb ▸ ev_op h ev_c rv_isN
theorem ev_notN {σ : L2.St} {H : Hp} {ta : TE} {x : V} {b : Bool} (h : Ev ta σ H x) (hb : (!decide (x = .non)) = b) : Ev (tOp (fun x y H Q => y = .non ∧ Q (.bl (!decide (x = .non))) H) ta (tC .non)) σ H (.bl b) := hb ▸ ev_op h ev_c rv_notN
/-- (tuple(word), x) -/
def WN (H : Hp) (x : V) (r : List Nat × Option Nat) : Prop := ∃ t p, x = .ref t ∧ H t = some (.tup [.ref p, oV r.2]) ∧ H p = some (.tup (wV r.1))
theorem Ends.step_inv {T : V4 → Prop} {m : Nat} {v : V4} {k : Nat} (h : K64.Ends T m v) (e : nxt v = some k) : ∃ m', m = m' + 1 ∧ K64.Ends T m' (K64.beh v k) := by
  cases h with
  | stop a _ => rw [e] at a; cases a
  | step a t => rw [e] at a; cases a; exact ⟨_, rfl, t⟩
section
variable {P : Program} {w : World} {K : PySem.W.Frag} {mg : Str → Option Value} {base : Heap} {a : Ad}
/-- the return of a pair whose first part is a list's tuple -/
theorem s_retWN {σ : L2.St} {H : Hp} {D : L2.Ends} {tw tn : TE} {l : Addr} {w : List Nat} {n : Option Nat} (hl : H l = some (.lst (wV w))) (h : Ev tw σ H (.ref l)) (hn : Ev tn σ H (oV n)) (k : ∀ H' t p, Ex H H' → H' t = some (.tup [.ref p, oV n]) → H' p = some (.tup (wV w)) → D.rt (.ref t) H') :
    tRet (tTup (tCons (tCB (rTupOf K) (tCons tw tNil)) (tCons tn tNil))) D σ H := by
  refine (eu_tupL' (K := K) h (SqL.of hl)) H (Ex.refl H) _ fun p H1 hp e1 h1 => ?_
  refine hn H1 e1 _ fun H2 e2 => ?_
  refine ⟨(by decide : 2 ≤ sizeLine), fun t ht => ?_⟩
  exact k _ t p ((e1.trans e2).trans (Ex.new ht)) upd_same ((Ex.new ht) _ _ (e2 _ _ h1))
/-! ### search -/
def spSearch (c : Addr) : Sp := fun vs H Q _ => ∃ (o q : Addr) (F : Fo) (C : Ci) (n : Nat), vs = [.ref o, .ref q] ∧ ObF c H o F ∧ CS H q C ∧ 0 < n ∧ n ≤ 400000 ∧ BdF n F ∧ Bd C ∧ Valid F ∧ C.ok ∧ (∀ v, parts F C = some v → K64.Ends (fun _ => True) 20000 v) ∧
  ∀ H' x, Ex H H' → WN H' x (srch (parts F C)) → Q x H'
theorem sc_search : FnScope ["four", "circle", "parts", "word", "number"] ["four", "circle"] (defScope s_search) := ⟨rfl, rfl, rfl, by decide +kernel, rfl, by decide +kernel, by decide +kernel⟩
theorem eqV_int (i j : Int) : eqV (.int i) (.int j) = decide (i = j) := by
  unfold eqV
  by_cases h : i = j
  · subst h; simp
  · simp [h]
theorem ok_search (T : Txt K mg a) : Okd P w K mg base CX0 6 "search" a.search ["four", "circle"] (spSearch a.cFour) := by
  refine T.search.ok sc_search (fun vs H Q E h => ?_) (fun cdv A outer s H vs Q E hr h => ?_)
  · obtain ⟨o, q, F, C, n, rfl, _⟩ := h
    rfl
  · obtain ⟨o, q, F, C, n, rfl, ho, hq, n0, n1, hB, bC, hV, okC, hE, k⟩ := h
    have nd := sc_search.nd
    refine ⟨_, pss_cons (ps_expr (pe_c (ok_check_circle T) (hr.mono (by decide)) pass0 (pa_cons (pv 1) pa_nil)))
      (pss_cons (ps_set (i := 2) nd rfl (.inl rfl) (pe_c (ok_whole T) hr pass0 (pa_cons (pv 0) (pa_cons (pv 1) pa_nil))))
      (pss_cons (ps_set (i := 3) nd rfl (.inl rfl) (pe_lst pa_nil))
      (pss_cons (ps_while PassesOwn.never (PW.pt (pw_and (pt_cmpR op_notN (pv 2) pe_non (nomark _)) (pw_and1 (pt_not (pt_val (pe_c (ok_is_unit T) (hr.mono (by decide)) pass0 (pa_cons (pv 2) pa_nil)))))))
        (pss_cons (ps_set (i := 4) nd rfl (.inl rfl) (pe_c (ok_next T) (hr.mono (by decide)) pass0 (pa_cons (pv 2) pa_nil)))
        (pss_cons (ps_if (pt_cmpR op_isN (pv 4) pe_non (nomark _)) (pss_one (ps_ret (pe_tup (pa_cons (pe_callTy (T := "tuple") (r := rTupOf K) call_tuple_of (by rfl) T.b_tuple (by decide +kernel) (pa_cons (pv 3) pa_nil)) (pa_cons pe_non pa_nil))))) pss_nil)
        (pss_cons (ps_expr (pe_bm PySem.F.plainAttrs_list PySem.F.slot_list_append PySem.F.type_list_append mt_append (pv 3) (pa_cons (pv 4) pa_nil)))
        (pss_one (ps_set (i := 2) nd rfl (.inl rfl) (pe_c (ok_exP T) (hr.mono (by decide)) pass0 (pa_cons (pv 2) (pa_cons (pv 4) pa_nil)))))))))
      (pss_one (ps_ret (pe_tup (pa_cons (pe_callTy (T := "tuple") (r := rTupOf K) call_tuple_of (by rfl) T.b_tuple (by decide +kernel) (pa_cons (pv 3) pa_nil)) (pa_cons (pe_ifExp (pt_cmpR op_isN (pv 2) pe_non (nomark _)) pe_non (pe_op op_add (pe_bm PySem.F.plainAttrs_list PySem.F.slot_list_index PySem.F.type_list_index mt_index (pv 2) (pa_cons pe_int pa_nil)) pe_int)) pa_nil)))))))), ?_⟩
    refine ⟨_, rfl, q, C, rfl, hq, bC, okC, fun H1 e1 => ?_⟩
    refine ⟨_, rfl, _, rfl, o, q, F, C, n, rfl, ho.ex e1, hq.ex e1, n0, n1, hB, bC, hV, okC, fun H2 x e2 hx => ?_⟩
    refine q_asgL (el_lst ea_nil (show 0 ≤ 100000 by decide)) fun l H3 hl e3 h3 => ?_
    refine q_while (fun m σ' H' => ∃ x nv pre ov, σ' = [some (.ref o), some (.ref q), some x, some (.ref l), nv] ∧ Ex H2 H' ∧ H' l = some (.lst (wV pre)) ∧ PV H' x ov ∧ x ≠ .ref l ∧ Stands (parts F C) ov pre m) 20000 ⟨x, none, [], parts F C, rfl, e3, h3, hx.ex e3, ?_, ?_⟩ ?_
    · cases hp : parts F C with
      | none =>
        rw [hp] at hx
        intro z
        have hx : x = .non := hx
        rw [hx] at z
        cases z
      | some v =>
        rw [hp] at hx
        obtain ⟨p, rfl, h⟩ := hx
        intro z
        rw [V.ref.inj z] at h
        unfold PL at h
        rw [hl] at h
        cases h
    · cases hp : parts F C with
      | none => exact ⟨rfl, rfl⟩
      | some v => exact ⟨v, rfl, hE v hp, by simp, by simp⟩
    · rintro m σ' H' ⟨x, nv, pre, ov, rfl, e4, hl4, hx4, nxl, st⟩
      cases ov with
      | none =>
        obtain ⟨st1, rfl⟩ := st
        have hx4 : x = .non := hx4
        subst hx4
        refine ⟨false && true, et_and (et_test (ev_notN (ev_var rfl) rfl)) (fun z => nomatch z), (fun z => nomatch z), fun _ H5 e5 => ?_⟩
        refine s_retWN (n := none) (e5 _ _ hl4) (ev_var rfl) (ev_if (b := true) (et_test (ev_isN (ev_var rfl) rfl)) (fun _ => ev_c) (fun z => nomatch z)) fun H6 t p e6 ht hp => ?_
        refine k H6 (.ref t) ((((e1.trans e2).trans e4).trans e5).trans e6) ⟨t, p, rfl, ?_⟩
        rw [st1]
        exact ⟨ht, hp⟩
      | some v =>
        obtain ⟨v0, st0, en, rn, hm⟩ := st
        obtain ⟨p, rfl, hp⟩ := hx4
        refine ⟨true && !decide (IsUnit v), et_and (et_test (ev_notN (ev_var rfl) rfl)) (fun _ => et_not (et_test (fun H5 e5 Q' q' => ⟨_, rfl, p, v, rfl, hp.ex e5, q'⟩))), fun z H5 e5 => ?_, fun z H5 e5 => ?_⟩
        · have nu : ¬ IsUnit v := by simpa using z
          refine ⟨fun σ2 H2' => ∃ m', m' < m ∧ ∃ x nv pre ov, σ2 = [some (.ref o), some (.ref q), some x, some (.ref l), nv] ∧ Ex H2 H2' ∧ H2' l = some (.lst (wV pre)) ∧ PV H2' x ov ∧ x ≠ .ref l ∧ Stands (parts F C) ov pre m', fun σ2 H2' h => h, ?_⟩
          refine ⟨_, rfl, p, v, rfl, hp.ex e5, fun H6 e6 => ?_⟩
          have e46 := (e4.trans e5).trans e6
          have hl6 := (e5.trans e6) _ _ hl4
          cases hn : nxt v with
          | none =>
            refine q_when (b := true) (et_test (ev_isN (ev_var rfl) rfl)) (fun _ H7 e7 => ?_) (fun z => nomatch z)
            refine s_retWN (n := none) (e7 _ _ hl6) (ev_var rfl) ev_c fun H8 t p' e8 ht hp' => ?_
            refine k H8 (.ref t) (((((e1.trans e2).trans e46)).trans e7).trans e8) ⟨t, p', rfl, ?_⟩
            have es : srch (parts F C) = (pre, none) := by
              rw [st0, srch_some, rn, run_none hn]
              simp [nu]
            rw [es]
            exact ⟨ht, hp'⟩
          | some j =>
            obtain ⟨hj, nj, sj⟩ := nxt_some hn
            obtain ⟨m', rfl, en'⟩ := Ends.step_inv en hn
            refine q_when (b := false) (et_test (ev_isN (ev_var rfl) rfl)) (fun z => nomatch z) (fun _ H7 e7 => ?_)
            have hl7 := e7 _ _ hl6
            refine q_app hl7 (ev_var rfl) (ev_var rfl) (by rw [wV_len]; omega) fun H8 e8 => ?_
            have npl : p ≠ l := fun z => nxl (congrArg V.ref z)
            have e48 := (e46.trans e7).trans e8
            have hp8 : PL (upd H8 l (.lst (wV pre ++ [V.int ((j : Int) + 1)]))) p v := by
              have := hp.ex (((e5.trans e6).trans e7).trans e8)
              unfold PL at *
              rw [upd_ne npl]
              exact this
            refine ⟨_, rfl, _, rfl, p, v, j, rfl, hj, hp8, fun H9 q' hq' e9 hq9 => ?_⟩
            have e89 : Ex H2 H9 := (Ex.mut e48 hl).trans e9
            have nql : q' ≠ l := fun z => by
              rw [z, upd_same] at hq'
              cases hq'
            refine ⟨m', Nat.lt_succ_self _, .ref q', _, pre ++ [j], some (beh v j), rfl, e89, ?_, ⟨q', rfl, hq9⟩, fun z => nql (V.ref.inj z), v0, st0, en', ?_, by rw [List.length_append, List.length_singleton]; omega⟩
            · rw [e9 _ _ upd_same, ← wV_snoc]
              rfl
            · rw [rn, run_some hn, List.append_assoc]
              rfl
        · have iu : IsUnit v := by simpa using z
          have hp5 := hp.ex e5
          refine s_retWN (n := some (ix v)) (e5 _ _ hl4) (ev_var rfl) (ev_if (b := false) (et_test (ev_isN (ev_var rfl) rfl)) (fun z => nomatch z) (fun _ => ev_add (i := ((ix v : Nat) : Int)) (j := 1) ?_ ev_c)) fun H6 t p' e6 ht hp' => ?_
          · intro H6 e6 Q' q'
            refine ⟨_, rfl, .inl ⟨rfl, _, SqL.of (hp5.ex e6)⟩, p, _, .int 1, ix v, .int 1, rfl, rfl, SqL.of (hp5.ex e6), rfl, rfl, ?_, by rw [eqV_int]; rfl, ?_, q' _ (Ex.refl _)⟩
            · rcases iu with rfl | rfl | rfl | rfl <;> rfl
            · intro m' z' hm' hz'
              rcases iu with rfl | rfl | rfl | rfl
              · exact absurd hm' (Nat.not_lt_zero _)
              · match m', hm', hz' with
                | 0, _, hz' => cases hz'; rw [eqV_int]; rfl
              · match m', hm', hz' with
                | 0, _, hz' => cases hz'; rw [eqV_int]; rfl
                | 1, _, hz' => cases hz'; rw [eqV_int]; rfl
              · match m', hm', hz' with
                | 0, _, hz' => cases hz'; rw [eqV_int]; rfl
                | 1, _, hz' => cases hz'; rw [eqV_int]; rfl
                | 2, _, hz' => cases hz'; rw [eqV_int]; rfl
          · refine k H6 (.ref t) ((((e1.trans e2).trans e4).trans e5).trans e6) ⟨t, p', rfl, ?_⟩
            have es : srch (parts F C) = (pre, some (ix v)) := by
              rw [st0, srch_some, rn, run_none (unit_nxt iu)]
              simp [iu]
            rw [es]
            exact ⟨ht, hp'⟩
end
end K64


namespace K64
open PySem PySem.Spec PyProof.Rows L2 Evl
/-- what the coordinates' functions ask of a four and a circle -/
def Pre (c : Addr) (H : Hp) (o q : Addr) (F : Fo) (C : Ci) (n : Nat) : Prop := ObF c H o F ∧ CS H q C ∧ 0 < n ∧ n ≤ 400000 ∧ BdF n F ∧ Bd C ∧ Valid F ∧ C.ok
theorem Pre.ex {c : Addr} {H H' : Hp} {o q : Addr} {F : Fo} {C : Ci} {n : Nat} (e : Ex H H') (h : Pre c H o q F C n) : Pre c H' o q F C n := ⟨h.1.ex e, h.2.1.ex e, h.2.2⟩
def Enough (F : Fo) (C : Ci) : Prop := ∀ v, parts F C = some v → K64.Ends (fun _ => True) 20000 v
theorem dec_oV (o : Option Nat) (k : Nat) : decide (oV o = V.int ((k : Int) + 1)) = decide (o = some k) := by
  cases o with
  | none => rfl
  | some j =>
    by_cases h : j = k
    · subst h; simp [oV]
    · have : oV (some j) ≠ V.int ((k : Int) + 1) := fun z => h (by
        have := V.int.inj z
        omega)
      simp [h, this]
theorem dec_oVN (o : Option Nat) : decide (oV o = V.non) = decide (o = none) := by
  cases o with
  | none => rfl
  | some j => rfl
section
variable {P : Program} {w : World} {K : PySem.W.Frag} {mg : Str → Option Value} {base : Heap} {a : Ad}
/-! ### address_of, absence -/
def spAddr (c : Addr) : Sp := fun vs H Q _ => ∃ (o q : Addr) (F : Fo) (C : Ci) (n j : Nat), vs = [.ref o, .ref q] ∧ Pre c H o q F C n ∧ Enough F C ∧ (srch (parts F C)).2 = some j ∧ ∀ H' x, Ex H H' → WN H' x ((srch (parts F C)).1, some j) → Q x H'
theorem sc_addr : FnScope ["four", "circle", "word", "number"] ["four", "circle"] (defScope s_address_of) := ⟨rfl, rfl, rfl, by decide +kernel, rfl, by decide +kernel, by decide +kernel⟩
theorem ok_addr (T : Txt K mg a) : Okd P w K mg base CX0 7 "address_of" a.address_of ["four", "circle"] (spAddr a.cFour) := by
  refine T.address_of.ok sc_addr (fun vs H Q E h => ?_) (fun cdv A outer s H vs Q E hr h => ?_)
  · obtain ⟨o, q, F, C, n, j, rfl, _⟩ := h
    rfl
  · obtain ⟨o, q, F, C, n, j, rfl, hp, hE, hj, k⟩ := h
    obtain ⟨h1, h2, h3, h4, h5, h6, h7, h8⟩ := id hp
    have nd := sc_addr.nd
    refine ⟨_, pss_cons (ps_asg (pe_c (ok_search T) hr pass0 (pa_cons (pv 0) (pa_cons (pv 1) pa_nil))) (pg_tup (by rfl) (pgs_cons (pg_name (i := 2) nd rfl (.inl rfl)) (pgs_cons (pg_name (i := 3) nd rfl (.inl rfl)) pgs_nil))))
      (pss_cons (ps_if (pt_cmpR op_isN (pv 3) pe_non (nomark _)) pss_never pss_nil)
      (pss_one (ps_ret (pe_tup (pa_cons (pv 2) (pa_cons (pv 3) pa_nil)))))), ?_⟩
    refine ⟨_, rfl, _, rfl, o, q, F, C, n, rfl, h1, h2, h3, h4, h5, h6, h7, h8, hE, fun H1 x e1 ⟨t, p, ex, ht, hpw⟩ => ?_⟩
    subst ex
    rw [hj] at ht
    refine ⟨t, _, rfl, SqT.of ht, rfl, _, _, rfl, _, _, rfl, rfl, ?_⟩
    refine q_when (b := false) (et_test (ev_isN (ev_var rfl) rfl)) (fun z => nomatch z) (fun _ H2 e2 => ?_)
    refine ⟨_, rfl, _, rfl, (by decide : 2 ≤ sizeLine), fun t' ht' => ?_⟩
    exact k _ _ ((e1.trans e2).trans (Ex.new ht')) ⟨t', p, rfl, upd_same, (Ex.new ht') _ _ (e2 _ _ hpw)⟩
def AbV (H : Hp) (x : V) (r : List Nat × Option Nat) : Prop := match r.2 with | none => ∃ p, x = .ref p ∧ H p = some (.tup (wV r.1)) | some _ => x = .non
def spAbs (c : Addr) : Sp := fun vs H Q _ => ∃ (o q : Addr) (F : Fo) (C : Ci) (n : Nat), vs = [.ref o, .ref q] ∧ Pre c H o q F C n ∧ Enough F C ∧ ∀ H' x, Ex H H' → AbV H' x (srch (parts F C)) → Q x H'
theorem sc_abs : FnScope ["four", "circle", "word", "number"] ["four", "circle"] (defScope s_absence) := ⟨rfl, rfl, rfl, by decide +kernel, rfl, by decide +kernel, by decide +kernel⟩
theorem ok_abs (T : Txt K mg a) : Okd P w K mg base CX0 7 "absence" a.absence ["four", "circle"] (spAbs a.cFour) := by
  refine T.absence.ok sc_abs (fun vs H Q E h => ?_) (fun cdv A outer s H vs Q E hr h => ?_)
  · obtain ⟨o, q, F, C, n, rfl, _⟩ := h
    rfl
  · obtain ⟨o, q, F, C, n, rfl, hp, hE, k⟩ := h
    obtain ⟨h1, h2, h3, h4, h5, h6, h7, h8⟩ := id hp
    have nd := sc_abs.nd
    refine ⟨_, pss_cons (ps_asg (pe_c (ok_search T) hr pass0 (pa_cons (pv 0) (pa_cons (pv 1) pa_nil))) (pg_tup (by rfl) (pgs_cons (pg_name (i := 2) nd rfl (.inl rfl)) (pgs_cons (pg_name (i := 3) nd rfl (.inl rfl)) pgs_nil))))
      (pss_one (ps_ret (pe_ifExp (pt_cmpR op_isN (pv 3) pe_non (nomark _)) (pv 2) pe_non))), ?_⟩
    refine ⟨_, rfl, _, rfl, o, q, F, C, n, rfl, h1, h2, h3, h4, h5, h6, h7, h8, hE, fun H1 x e1 ⟨t, p, ex, ht, hpw⟩ => ?_⟩
    subst ex
    refine ⟨t, _, rfl, SqT.of ht, rfl, _, _, rfl, _, _, rfl, rfl, ?_⟩
    cases hs : (srch (parts F C)).2 with
    | none =>
      refine s_ret (v := .ref p) (ev_if (b := true) (et_test (ev_isN (ev_var rfl) rfl)) (fun _ => ev_var rfl) (fun z => nomatch z)) fun H2 e2 => k H2 _ (e1.trans e2) ?_
      unfold AbV
      rw [hs]
      exact ⟨p, rfl, e2 _ _ hpw⟩
    | some j =>
      refine s_ret (v := .non) (ev_if (b := false) (et_test (ev_isN (ev_var rfl) rfl)) (fun z => nomatch z) (fun _ => ev_c)) fun H2 e2 => k H2 _ (e1.trans e2) ?_
      unfold AbV
      rw [hs]
/-! ### check_absence -/
def spChkA (K : PySem.W.Frag) (c : Addr) : Sp := fun vs H Q _ => ∃ (o q p : Addr) (F : Fo) (C : Ci) (n : Nat) (w : List Nat), vs = [.ref o, .ref q, .ref p] ∧ Pre c H o q F C n ∧ H p = some (.tup (wV w)) ∧ (∀ k ∈ w, k < 4) ∧ w.length < 90000 ∧ n + 3 * w.length ≤ 400000 ∧ ∀ H', Ex H H' → Q (.bl (chkAbs (parts F C) w)) H'
theorem sc_chka : FnScope ["four", "circle", "word", "parts", "number"] ["four", "circle", "word"] (defScope s_check_absence) := ⟨rfl, rfl, rfl, by decide +kernel, rfl, by decide +kernel, by decide +kernel⟩
theorem chkGo_cons (v : V4) (k : Nat) (w : List Nat) : chkGo v (k :: w) = if IsUnit v ∨ nxt v ≠ some k then false else chkGo (beh v k) w := rfl
theorem ok_chka (T : Txt K mg a) : Okd P w K mg base CX0 10 "check_absence" a.check_absence ["four", "circle", "word"] (spChkA K a.cFour) := by
  refine T.check_absence.ok sc_chka (fun vs H Q E h => ?_) (fun cdv A outer s H vs Q E hr h => ?_)
  · obtain ⟨o, q, p, F, C, n, w, rfl, _⟩ := h
    rfl
  · obtain ⟨o, q, p, F, C, n, w, rfl, hp, hw, hw4, hlen, hn, k⟩ := h
    obtain ⟨h1, h2, h3, h4, h5, h6, h7, h8⟩ := id hp
    have nd := sc_chka.nd
    refine ⟨_, pss_cons (ps_expr (pe_c (ok_check_circle T) (hr.mono (by decide)) pass0 (pa_cons (pv 1) pa_nil)))
      (pss_cons (ps_expr (pe_c (ok_four_at T) hr pass0 (pa_cons (pv 0) (pa_cons (pv 2) pa_nil))))
      (pss_cons (ps_set (i := 3) nd rfl (.inl rfl) (pe_c (ok_whole T) (hr.mono (by decide)) pass0 (pa_cons (pv 0) (pa_cons (pv 1) pa_nil))))
      (pss_cons (ps_if (pt_cmpR op_isN (pv 3) pe_non (nomark _)) (pss_one (ps_ret (pe_cmpR op_eq (pe_callB call_len_seq (by rfl) T.b_len PySem.boot_len (pa_cons (pv 2) pa_nil)) pe_int (nomark _)))) pss_nil)
      (pss_cons (ps_for PassesOwn.never rfl (pi_tup (pv 2)) (pg_name (i := 4) nd rfl (.inl rfl))
        (pss_cons (ps_if (PW.pt (pw_or (pt_val (pe_c (ok_is_unit T) (hr.mono (by decide)) pass0 (pa_cons (pv 3) pa_nil))) (pw_or1 (pt_cmpR op_ne (pe_c (ok_next T) (hr.mono (by decide)) pass0 (pa_cons (pv 3) pa_nil)) (pv 4) (nomark _))))) (pss_one (ps_ret pe_bl)) pss_nil)
        (pss_one (ps_set (i := 3) nd rfl (.inl rfl) (pe_c (ok_exP T) (hr.mono (by decide)) pass0 (pa_cons (pv 3) (pa_cons (pv 4) pa_nil)))))))
      (pss_one (ps_ret (pe_and (pe_not (pe_c (ok_is_unit T) (hr.mono (by decide)) pass0 (pa_cons (pv 3) pa_nil))) (pe_one (pe_cmpR op_isN (pe_c (ok_next T) (hr.mono (by decide)) pass0 (pa_cons (pv 3) pa_nil)) pe_non (nomark _)))))))))), ?_⟩
    refine ⟨_, rfl, q, C, rfl, h2, h6, h8, fun H1 e1 => ?_⟩
    refine ⟨_, rfl, _, rfl, o, p, F, w, n, rfl, h1.ex e1, SqT.of (e1 _ _ hw), hw4, hlen, h5, hn, h7, fun H2 o' e2 ho' => ?_⟩
    have e12 := e1.trans e2
    refine ⟨_, rfl, _, rfl, o, q, F, C, n, rfl, h1.ex e12, h2.ex e12, h3, h4, h5, h6, h7, h8, fun H3 x e3 hx => ?_⟩
    have e13 := e12.trans e3
    cases hpt : parts F C with
    | none =>
      rw [hpt] at hx
      have hx : x = .non := hx
      subst hx
      refine q_when (b := true) (et_test (ev_isN (ev_var rfl) rfl)) (fun _ H4 e4 => ?_) (fun z => nomatch z)
      have lb : Ev (tCB (fun xs H Q => ∃ p ys, xs = [.ref p] ∧ (SqL K H p ys ∨ SqT K H p ys) ∧ Q (.int ys.length) H) (tCons (tVar 2) tNil)) [some (.ref o), some (.ref q), some (.ref p), some .non, none] H4 (.int (((wV w).length : Nat) : Int)) := fun H5 e5 Q' q' =>
        ⟨_, rfl, p, _, rfl, .inr (SqT.of (e5 _ _ (e4 _ _ (e13 _ _ hw)))), q' _ (Ex.refl _)⟩
      refine s_ret (ev_is (ev_eqI lb ev_c) (congrArg V.bl (a₂ := chkAbs (parts F C) w) ?_)) fun H5 e5 => k H5 ((e13.trans e4).trans e5)
      rw [hpt, wV_len]
      show decide ((w.length : Int) = 0) = decide (w = [])
      cases w with
      | nil => rfl
      | cons k w => simp; omega
    | some v0 =>
      rw [hpt] at hx
      obtain ⟨pp, rfl, hpp⟩ := hx
      have uEv : ∀ {σ : L2.St} {H' : Hp} {p' : Addr} {v : V4}, σ[3]? = some (some (.ref p')) → PL H' p' v → Ev (tCall spUnit [] E0 (tCons (tVar 3) tNil)) σ H' (.bl (decide (IsUnit v))) := fun {σ H' p' v} h3 hv H5 e5 Q' q' => ⟨_, h3, p', v, rfl, hv.ex e5, q'⟩
      have nEv : ∀ {σ : L2.St} {H' : Hp} {p' : Addr} {v : V4}, σ[3]? = some (some (.ref p')) → PL H' p' v → Ev (tCall spNext [] E0 (tCons (tVar 3) tNil)) σ H' (oV (nxt v)) := fun {σ H' p' v} h3 hv H5 e5 Q' q' => ⟨_, h3, p', v, rfl, hv.ex e5, q'⟩
      refine q_when (b := false) (et_test (ev_isN (ev_var rfl) rfl)) (fun z => nomatch z) (fun _ H4 e4 => ?_)
      have e14 := e13.trans e4
      refine q_forT (ev_var rfl) (SqT.of (e14 _ _ hw)) (fun i σ' H' => ∃ p' v nv, σ' = [some (.ref o), some (.ref q), some (.ref p), some (.ref p'), nv] ∧ Ex H H' ∧ PL H' p' v ∧ chkGo v0 w = chkGo v (w.drop i))
        (fun H5 e5 => ⟨pp, v0, none, rfl, e14.trans e5, hpp.ex (e4.trans e5), rfl⟩) (fun i σ' H' _ ⟨_, _, _, _, h, _⟩ => SqT.of (h _ _ hw)) ?_ ?_
      · rintro i x σ' H' hx ⟨p', v, nv, rfl, e5, hv, hgo⟩
        obtain ⟨j, hj, rfl⟩ := wV_at hx
        have j4 := hw4 j (List.mem_of_getElem? hj)
        have hd : w.drop i = j :: w.drop (i + 1) := by
          have hi := (List.getElem?_eq_some_iff.mp hj).1
          have := (List.getElem?_eq_some_iff.mp hj).2
          rw [← this]
          exact List.drop_eq_getElem_cons hi
        rw [hd, chkGo_cons] at hgo
        have sc : scal (oV (nxt v)) (V.int ((j : Int) + 1)) = true := by cases nxt v <;> rfl
        refine q_when (b := decide (IsUnit v) || !decide (nxt v = some j)) (et_or (et_test (uEv rfl hv)) (fun _ => et_test (ev_is (ev_op (nEv rfl hv) (ev_var rfl) (rv_ne sc)) (by rw [dec_oV])))) (fun z H6 e6 => ?_) (fun z H6 e6 => ?_)
        · have z : IsUnit v ∨ nxt v ≠ some j := by simpa using z
          rw [if_pos z] at hgo
          refine k H6 (e5.trans e6) |> fun kk => ?_
          have ec : chkAbs (parts F C) w = false := by rw [hpt]; exact hgo
          rw [ec] at kk
          exact kk
        · have z : ¬ (IsUnit v ∨ nxt v ≠ some j) := by simpa using z
          rw [if_neg z] at hgo
          refine ⟨_, rfl, _, rfl, p', v, j, rfl, j4, hv.ex e6, fun H7 q' _ e7 hq' => ?_⟩
          exact ⟨q', beh v j, _, rfl, (e5.trans e6).trans e7, hq', hgo⟩
      · rintro σ' H' ⟨p', v, nv, rfl, e5, hv, hgo⟩
        have ed : w.drop (wV w).length = [] := by rw [wV_len, List.drop_length]
        rw [ed] at hgo
        refine s_ret (ev_is (ev_andV (ev_notV (uEv rfl hv)) (fun _ => ev_isN (nEv rfl hv) (dec_oVN _))) (congrArg V.bl (a₂ := chkAbs (parts F C) w) ?_)) fun H6 e6 => k H6 (e5.trans e6)
        rw [hpt]
        exact hgo.symm
end
end K64


namespace K64
open PySem PySem.Spec PyProof.Rows L2 Evl
/-! ### Texts -/
abbrev SP : Str := " "
def ltr : Nat → Str | 0 => "1" | 1 => "2" | 2 => "3" | _ => "4"
def lts (w : List Nat) : List Str := w.map ltr
abbrev sThere : Str := "there"
abbrev sAbsent : Str := "absent"
def Small (s : Str) : Prop := s.length ≤ 10 ∧ 32 ∉ TL.tl s ∧ PyData.strOk s = true
instance (s : Str) : Decidable (Small s) := by unfold Small; infer_instance
theorem small_ltr (k : Nat) : Small (ltr k) := by
  match k with
  | 0 => decide +kernel
  | 1 => decide +kernel
  | 2 => decide +kernel
  | n + 3 => exact (by decide +kernel : Small "4")
theorem small_there : Small sThere := by decide +kernel
theorem small_absent : Small sAbsent := by decide +kernel
theorem small_lts (w : List Nat) : ∀ s ∈ lts w, Small s := fun s h => by
  obtain ⟨k, _, rfl⟩ := List.mem_map.mp h
  exact small_ltr k
theorem sum_small : ∀ (ss : List Str), (∀ s ∈ ss, Small s) → (ss.map (·.length)).sum ≤ 10 * ss.length
  | [], _ => Nat.zero_le _
  | s :: ss, h => by
    have ih := sum_small ss fun x hx => h x (List.mem_cons_of_mem _ hx)
    have := (h s (List.mem_cons_self ..)).1
    simp only [List.map_cons, List.sum_cons, List.length_cons]
    omega
theorem sp_len : SP.length = 1 := by decide +kernel
theorem join_len (ss : List Str) (h : ∀ s ∈ ss, Small s) : (Txt.join SP ss).length ≤ 11 * ss.length := by
  rw [TL.join_eq]
  have a := StrLaws.join_length_le SP ss
  have b := sum_small ss h
  rw [sp_len] at a
  omega
theorem split_words {ss : List Str} (hne : ss ≠ []) (h : ∀ s ∈ ss, Small s) : Txt.split (Txt.join SP ss) SP = ss :=
  TL.split_join (y := SP) (s := 32) (S := []) (by decide +kernel) (by decide +kernel) hne fun p hp => (h p hp).2.1
def isLetter (s : Str) : Bool := inV (.str s) [.str "1", .str "2", .str "3", .str "4"]
theorem letter_ltr (k : Nat) : isLetter (ltr k) = true := by
  match k with
  | 0 => decide +kernel
  | 1 => decide +kernel
  | 2 => decide +kernel
  | n + 3 => exact (by decide +kernel : isLetter "4" = true)
theorem given_map {α : Type} (xs : List α) (f : α → V) (d : α) : given xs.length (fun _ => true) (fun i => f (xs.getD i d)) = xs.map f := by
  unfold given
  rw [List.filter_eq_self.mpr (fun _ _ => rfl)]
  apply List.ext_getElem
  · simp
  · intro i h1 h2
    simp at h1
    simp [List.getD, h1]
theorem getD_of {α : Type} {xs : List α} {i : Nat} {x d : α} (h : xs[i]? = some x) : xs.getD i d = x := by simp [List.getD, h]
theorem strs_at {ss : List Str} {i : Nat} {x : V} (h : (ss.map V.str)[i]? = some x) : ∃ s, ss[i]? = some s ∧ x = .str s := by
  rw [List.getElem?_map] at h
  cases e : ss[i]? with
  | none => rw [e] at h; cases h
  | some s => rw [e] at h; exact ⟨s, rfl, (Option.some.inj h).symm⟩
/-- str(x), x a text or a number -/
abbrev rStr : List V → Hp → VK → Prop := fun xs H Q => (∃ a, xs = [.str a] ∧ Q (.str a) H) ∨ ∃ i : Int, xs = [.int i] ∧ i.natAbs.log2 < 1920 ∧ Q (.str (toString i)) H
theorem call_strB {X : Cx} : CallR X (.type "str") rStr := by
  intro pins s σ H xs us Q I r h
  rcases h with h | h
  · exact SkE.call_str_str pins s σ H xs us Q I r h
  · exact call_str_int pins s σ H xs us Q I r h
/-- x shows as s -/
def Shows (x : V) (s : Str) : Prop := x = .str s ∨ ∃ i : Int, x = .int i ∧ i.natAbs.log2 < 1920 ∧ (toString i : Str) = s
theorem shows_ltr {k : Nat} (h : k < 4) : Shows (.int ((k : Int) + 1)) (ltr k) := by
  refine .inr ⟨_, rfl, ?_⟩
  rcases four_cases h with rfl | rfl | rfl | rfl <;> exact ⟨by decide +kernel, by decide +kernel⟩
theorem eqv_strs : ∀ (ns ms : List Str), PyData.eqvAll (ns.map PyData.str) (ms.map PyData.str) = decide (ns = ms)
  | [], [] => rfl
  | [], _ :: _ => rfl
  | _ :: _, [] => rfl
  | n :: ns, m :: ms => by
    show (n == m && PyData.eqvAll (ns.map PyData.str) (ms.map PyData.str)) = _
    rw [eqv_strs ns ms]
    by_cases h1 : n = m
    · subst h1
      by_cases h2 : ns = ms
      · subst h2; simp
      · simp [h2]
    · simp [h1]
theorem dp_strs {K : PySem.W.Frag} {H : Hp} : ∀ ns : List Str, DpAll K H (ns.map V.str) (ns.map PyData.str)
  | [] => .nil
  | n :: ns => .cons (.str n) (dp_strs ns)
theorem shaped_strs (ns : List Str) (h : ∀ s ∈ ns, Small s) : SeqAt.shaped (.list (ns.map PyData.str)) = true := by
  have h1 : ∀ ns : List Str, (∀ s ∈ ns, Small s) → PyData.canLayAll0 (ns.map PyData.str) = true := by
    intro ns
    induction ns with
    | nil => intro _; rfl
    | cons n ns ih =>
      intro h
      show (PyData.strOk n && PyData.canLayAll0 (ns.map PyData.str)) = true
      rw [(h n (List.mem_cons_self ..)).2.2, ih fun x hx => h x (List.mem_cons_of_mem _ hx)]
      rfl
  have h2 : ∀ ns : List Str, PyData.depthAll (ns.map PyData.str) = 0 := by
    intro ns
    induction ns with
    | nil => rfl
    | cons n ns ih =>
      show max 0 (PyData.depthAll (ns.map PyData.str)) = 0
      rw [ih]
      rfl
  unfold SeqAt.shaped
  have e1 : PyData.canLay0 (.list (ns.map PyData.str)) = true := h1 ns h
  have e2 : PyData.depth (.list (ns.map PyData.str)) = 1 := by
    show PyData.depthAll (ns.map PyData.str) + 1 = 1
    rw [h2]
  rw [e1, e2]
  rfl
section
variable {P : Program} {w : World} {K : PySem.W.Frag} {mg : Str → Option Value} {base : Heap} {a : Ad}
/-! ### line_of -/
def spLine : Sp := fun vs H Q _ => ∃ (l : Addr) (xs : List V) (ss : List Str), vs = [.ref l] ∧ H l = some (.lst xs) ∧ xs.length = ss.length ∧ (∀ (i : Nat) (x : V) (s : Str), xs[i]? = some x → ss[i]? = some s → Shows x s) ∧ (∀ s ∈ ss, Small s) ∧ ss.length ≤ 40000 ∧ ∀ H', Ex H H' → Q (.str (Txt.join SP ss)) H'
theorem sc_line : FnScope ["words", "word"] ["words"] (defScope s_line_of) := ⟨rfl, rfl, rfl, by decide +kernel, rfl, by decide +kernel, by decide +kernel⟩
theorem ev_joinL {σ : L2.St} {H : Hp} {te : TE} {ss : List Str} (h : EvL te σ H (ss.map V.str)) (hs : ∀ s ∈ ss, Small s) (hl : ss.length ≤ 40000) :
    Ev (tM1 (fun x xs H Q => ∃ a p, ∃ ys : List Str, x = .str a ∧ xs = [.ref p] ∧ (SqL K H p (ys.map V.str) ∨ SqT K H p (ys.map V.str)) ∧ (ys.map (·.length)).sum + ys.length * a.length ≤ 16777216 ∧ Q (.str (Txt.join a ys)) H) (tC (.str SP)) te) σ H (.str (Txt.join SP ss)) := fun H1 e Q q => by
  refine ⟨⟨_, rfl⟩, h H1 e _ fun p H2 hp e2 h2 => ?_⟩
  refine ⟨SP, p, ss, rfl, rfl, .inl (SqL.of h2), ?_, q H2 e2⟩
  have := sum_small ss hs
  rw [sp_len]
  omega
theorem ok_line (T : Txt K mg a) : Okd P w K mg base CX0 1 "line_of" a.line_of ["words"] spLine := by
  refine T.line_of.ok sc_line (fun vs H Q E h => ?_) (fun cdv A outer s H vs Q E hr h => ?_)
  · obtain ⟨l, xs, ss, rfl, _⟩ := h
    rfl
  · obtain ⟨l, xs, ss, rfl, hl, hlen, hsh, hsm, hz, k⟩ := h
    have nd := sc_line.nd
    refine ⟨_, pss_one (ps_ret (pe_join pe_str (pe_lc (own := [("word", 1)]) (g := gName 1) (tt := tYes) rfl nd (pi_list (pv 0)) (blkOk_by (N := ["words", "word"]) (sc := defScope s_line_of) (by decide +kernel)) (fun _ _ _ _ _ => pg_name (i := 1) nd rfl (.inl rfl)) (fun _ _ _ _ _ => pts_nil)
      (fun _ _ _ _ _ => pe_callTy (T := "str") (r := rStr) call_strB (by rfl) T.b_str (by decide +kernel) (pa_cons (pv 1) pa_nil))))), ?_⟩
    refine s_ret (ev_joinL (ss := ss) (el_is (el_lcL (xs := xs) (fun _ => true) (fun i => .str (ss.getD i "")) (ev_var rfl) (SqL.of hl) (by omega) (fun _ => rfl) (fun _ _ _ _ _ => et_yes rfl) (fun i x H1 e1 hx _ => ?_)) ?_) hsm hz) k
    · have hi : i < ss.length := by rw [← hlen]; exact (List.getElem?_eq_some_iff.mp hx).1
      have hs : ss[i]? = some ss[i] := by simp [hi]
      rw [getD_of hs]
      rcases hsh i x _ hx hs with rfl | ⟨j, rfl, hj, ej⟩
      · exact fun H2 e2 Q' q' => ⟨_, rfl, .inl ⟨_, rfl, q' _ (Ex.refl _)⟩⟩
      · rw [← ej]
        exact fun H2 e2 Q' q' => ⟨_, rfl, .inr ⟨_, rfl, hj, q' _ (Ex.refl _)⟩⟩
    · rw [hlen]
      exact given_map ss V.str ""
/-! ### are_letters, letters_of -/
def spAre : Sp := fun vs H Q _ => ∃ (l : Addr) (ss : List Str), vs = [.ref l] ∧ H l = some (.lst (ss.map V.str)) ∧ ss.length ≤ 40000 ∧ ∀ H', Ex H H' → Q (.bl (ss.all isLetter)) H'
theorem sc_are : FnScope ["words", "word"] ["words"] (defScope s_are_letters) := ⟨rfl, rfl, rfl, by decide +kernel, rfl, by decide +kernel, by decide +kernel⟩
theorem ok_are (T : Txt K mg a) : Okd P w K mg base CX0 1 "are_letters" a.are_letters ["words"] spAre := by
  refine T.are_letters.ok sc_are (fun vs H Q E h => ?_) (fun cdv A outer s H vs Q E hr h => ?_)
  · obtain ⟨l, ss, rfl, _⟩ := h
    rfl
  · obtain ⟨l, ss, rfl, hl, hz, k⟩ := h
    have nd := sc_are.nd
    refine ⟨_, pss_one (ps_ret (pe_callB (cr_all rfl) (by rfl) T.b_all (by decide +kernel) (pa_cons (pe_lc (own := [("word", 1)]) (g := gName 1) (tt := tYes) rfl nd (pi_list (pv 0)) (blkOk_by (N := ["words", "word"]) (sc := defScope s_are_letters) (by decide +kernel)) (fun _ _ _ _ _ => pg_name (i := 1) nd rfl (.inl rfl)) (fun _ _ _ _ _ => pts_nil)
      (fun _ _ _ _ _ => pe_cmpR (r := rIn K false) op_in_seq (pv 1) (pe_glob (v := .ref a.tTexts) (by rfl) T.gTexts rfl) (by rfl))) pa_nil))), ?_⟩
    refine s_ret (ev_is (ev_allL (bs := ss.map isLetter) (el_is (el_lcL (xs := ss.map V.str) (fun _ => true) (fun i => .bl (isLetter (ss.getD i ""))) (ev_var rfl) (SqL.of hl) (by rw [List.length_map]; omega) (fun _ => rfl) (fun _ _ _ _ _ => et_yes rfl) (fun i x H1 e1 hx _ => ?_)) ?_)) (congrArg V.bl ?_)) k
    · obtain ⟨s, hs, rfl⟩ := strs_at hx
      rw [getD_of hs]
      exact ev_op (ev_var rfl) ev_c (rv_isT (T.sqTexts H1) rfl rfl)
    · rw [List.length_map, List.map_map]
      exact given_map ss (fun s => V.bl (isLetter s)) ""
    · rw [List.all_map]
      rfl
def spLet : Sp := fun vs H Q _ => ∃ (l : Addr) (w : List Nat), vs = [.ref l] ∧ H l = some (.lst ((lts w).map V.str)) ∧ (∀ k ∈ w, k < 4) ∧ w.length ≤ 40000 ∧ ∀ H' p, Ex H H' → H' p = some (.tup (wV w)) → Q (.ref p) H'
theorem sc_let : FnScope ["words", "word"] ["words"] (defScope s_letters_of) := ⟨rfl, rfl, rfl, by decide +kernel, rfl, by decide +kernel, by decide +kernel⟩
theorem int_ltr {k : Nat} (h : k < 4) : PySem.intText? (ltr k) = some ((k : Int) + 1) := by
  rcases four_cases h with rfl | rfl | rfl | rfl <;> decide +kernel
abbrev rIntS : List V → Hp → VK → Prop := fun xs H Q => ∃ a n, xs = [.str a] ∧ PySem.intText? a = some n ∧ a.length ≤ 640 ∧ Q (.int n) H
theorem ok_let (T : Txt K mg a) : Okd P w K mg base CX0 1 "letters_of" a.letters_of ["words"] spLet := by
  refine T.letters_of.ok sc_let (fun vs H Q E h => ?_) (fun cdv A outer s H vs Q E hr h => ?_)
  · obtain ⟨l, w, rfl, _⟩ := h
    rfl
  · obtain ⟨l, w, rfl, hl, hw, hz, k⟩ := h
    have nd := sc_let.nd
    refine ⟨_, pss_one (ps_ret (pe_callTy call_tuple_of (by rfl) T.b_tuple (by decide +kernel) (pa_cons (pe_lc (own := [("word", 1)]) (g := gName 1) (tt := tYes) rfl nd (pi_list (pv 0)) (blkOk_by (N := ["words", "word"]) (sc := defScope s_letters_of) (by decide +kernel)) (fun _ _ _ _ _ => pg_name (i := 1) nd rfl (.inl rfl)) (fun _ _ _ _ _ => pts_nil)
      (fun _ _ _ _ _ => pe_callTy (T := "int") (r := rIntS) call_int_str (by rfl) T.b_int (by decide +kernel) (pa_cons (pv 1) pa_nil))) pa_nil))), ?_⟩
    refine s_retU (eu_tupL (el_is (el_lcL (xs := (lts w).map V.str) (fun _ => true) (fun i => .int ((w.getD i 0 : Nat) + 1 : Int)) (ev_var rfl) (SqL.of hl) (by unfold lts; rw [List.length_map, List.length_map]; omega) (fun _ => rfl) (fun _ _ _ _ _ => et_yes rfl) (fun i x H1 e1 hx _ => ?_)) ?_)) fun p H1 hp e1 h1 => k H1 p e1 h1
    · obtain ⟨s, hs, rfl⟩ := strs_at hx
      unfold lts at hs
      rw [List.getElem?_map] at hs
      cases e : w[i]? with
      | none => rw [e] at hs; cases hs
      | some j =>
        rw [e] at hs
        cases hs
        rw [getD_of e]
        have j4 := hw j (List.mem_of_getElem? e)
        exact fun H2 e2 Q' q' => ⟨_, rfl, ltr j, _, rfl, int_ltr j4, Nat.le_trans (small_ltr j).1 (by decide), q' _ (Ex.refl _)⟩
    · unfold lts
      rw [List.length_map, List.length_map]
      exact given_map w (fun k : Nat => V.int ((k : Int) + 1)) 0
end
end K64


namespace K64
open PySem PySem.Spec PyProof.Rows L2 Evl
/-- the words of the place of a circle -/
def plWords (r : List Nat × Option Nat) : List Str := match r.2 with
  | none => sAbsent :: lts r.1
  | some j => sThere :: ltr j :: lts r.1
def plText (r : List Nat × Option Nat) : Str := Txt.join SP (plWords r)
theorem srch_letters (o : Option V4) : (∀ k ∈ (srch o).1, k < 4) ∧ (srch o).1.length ≤ 20000 := by
  cases o with
  | none => exact ⟨(fun k h => nomatch h), Nat.zero_le _⟩
  | some v => exact run_letters 20000 v
theorem srch_num {o : Option V4} {j : Nat} (h : (srch o).2 = some j) : j < 4 := by
  cases o with
  | none => cases h
  | some v =>
    rw [srch_some] at h
    dsimp only at h
    split at h
    · cases h; exact ix_lt _
    · cases h
theorem lts_len (w : List Nat) : (lts w).length = w.length := by unfold lts; rw [List.length_map]
theorem shows_w {w : List Nat} (hw : ∀ k ∈ w, k < 4) {i : Nat} {x : V} {s : Str} (h1 : (wV w)[i]? = some x) (h2 : (lts w)[i]? = some s) : Shows x s := by
  obtain ⟨k, hk, rfl⟩ := wV_at h1
  unfold lts at h2
  rw [List.getElem?_map, hk] at h2
  cases h2
  exact shows_ltr (hw k (List.mem_of_getElem? hk))
theorem ctup_eq (A C : Ci) : PyData.eqv (.tuple [.int A.b, .int A.c, .int A.x, .int A.y]) (.tuple [.int C.b, .int C.c, .int C.x, .int C.y]) = decide (A = C) := by
  show PyData.eqvAll (([A.b, A.c, A.x, A.y] : List Int).map PyData.int) (([C.b, C.c, C.x, C.y] : List Int).map PyData.int) = _
  rw [eqv_ints]
  obtain ⟨a1, a2, a3, a4⟩ := A
  obtain ⟨c1, c2, c3, c4⟩ := C
  rw [decide_eq_decide]
  simp
theorem dp_ci {K : PySem.W.Frag} {H : Hp} {p : Addr} {C : Ci} (h : CT H p C) : Dp K H (.ref p) (.tuple [.int C.b, .int C.c, .int C.x, .int C.y]) := .tup (SqT.of h) (.cons (.int _) (.cons (.int _) (.cons (.int _) (.cons (.int _) .nil))))
section
variable {P : Program} {w : World} {K : PySem.W.Frag} {mg : Str → Option Value} {base : Heap} {a : Ad}
/-! ### place_text -/
def spPlace (c : Addr) : Sp := fun vs H Q _ => ∃ (o q : Addr) (F : Fo) (C : Ci) (n : Nat), vs = [.ref o, .ref q] ∧ Pre c H o q F C n ∧ Enough F C ∧ ∀ H', Ex H H' → Q (.str (plText (srch (parts F C)))) H'
theorem sc_place : FnScope ["four", "circle", "word", "way", "number"] ["four", "circle"] (defScope s_place_text) := ⟨rfl, rfl, rfl, by decide +kernel, rfl, by decide +kernel, by decide +kernel⟩
theorem ok_place (T : Txt K mg a) : Okd P w K mg base CX0 8 "place_text" a.place_text ["four", "circle"] (spPlace a.cFour) := by
  refine T.place_text.ok sc_place (fun vs H Q E h => ?_) (fun cdv A outer s H vs Q E hr h => ?_)
  · obtain ⟨o, q, F, C, n, rfl, _⟩ := h
    rfl
  · obtain ⟨o, q, F, C, n, rfl, hp, hE, k⟩ := h
    have nd := sc_place.nd
    obtain ⟨hw4, hw2⟩ := srch_letters (parts F C)
    refine ⟨_, pss_cons (ps_set (i := 2) nd rfl (.inl rfl) (pe_c (ok_abs T) hr pass0 (pa_cons (pv 0) (pa_cons (pv 1) pa_nil))))
      (pss_cons (ps_if (pt_cmpR op_notN (pv 2) pe_non (nomark _)) (pss_one (ps_ret (pe_c (ok_line T) (hr.mono (by decide)) pass0 (pa_cons (pe_lst (pa_cons pe_str (StX.pa_star (pv 2) pa_nil))) pa_nil)))) pss_nil)
      (pss_cons (ps_asg (pe_c (ok_addr T) hr pass0 (pa_cons (pv 0) (pa_cons (pv 1) pa_nil))) (pg_tup (by rfl) (pgs_cons (pg_name (i := 3) nd rfl (.inl rfl)) (pgs_cons (pg_name (i := 4) nd rfl (.inl rfl)) pgs_nil))))
      (pss_one (ps_ret (pe_c (ok_line T) (hr.mono (by decide)) pass0 (pa_cons (pe_lst (pa_cons pe_str (pa_cons (pv 4) (StX.pa_star (pv 3) pa_nil)))) pa_nil)))))), ?_⟩
    refine ⟨_, rfl, _, rfl, o, q, F, C, n, rfl, hp, hE, fun H1 x e1 hx => ?_⟩
    cases hs : (srch (parts F C)).2 with
    | none =>
      unfold AbV at hx
      rw [hs] at hx
      obtain ⟨p, rfl, hpw⟩ := hx
      refine q_when (b := true) (et_test (ev_notN (ev_var rfl) rfl)) (fun _ H2 e2 => ?_) (fun z => nomatch z)
      refine ⟨_, rfl, p, _, rfl, .inl (SqT.of (e2 _ _ hpw)), ?_⟩
      have lz : (V.str sAbsent :: (wV (srch (parts F C)).1 ++ [])).length ≤ sizeLine := by
        rw [List.append_nil, List.length_cons, wV_len]
        exact Nat.le_trans (show _ ≤ 20001 by omega) (by decide)
      refine ⟨lz, fun l hl => ?_⟩
      refine ⟨l, _, plWords (srch (parts F C)), rfl, upd_same, ?_, ?_, ?_, ?_, fun H3 e3 => k H3 ((e1.trans e2).trans ((Ex.new hl).trans e3))⟩
      · unfold plWords
        rw [hs, List.append_nil, List.length_cons, wV_len, List.length_cons, lts_len]
      · intro i y s' h1 h2
        unfold plWords at h2
        rw [hs] at h2
        rw [List.append_nil] at h1
        cases i with
        | zero => cases h1; cases h2; exact .inl rfl
        | succ i => exact shows_w hw4 (by simpa using h1) (by simpa using h2)
      · unfold plWords
        rw [hs]
        intro s' h
        rcases List.mem_cons.mp h with rfl | h
        · exact small_absent
        · exact small_lts _ _ h
      · unfold plWords
        rw [hs]
        show (sAbsent :: lts _).length ≤ _
        rw [List.length_cons, lts_len]
        omega
    | some j =>
      have j4 := srch_num hs
      unfold AbV at hx
      rw [hs] at hx
      have hx : x = .non := hx
      subst hx
      refine q_when (b := false) (et_test (ev_notN (ev_var rfl) rfl)) (fun z => nomatch z) (fun _ H2 e2 => ?_)
      refine ⟨_, rfl, _, rfl, o, q, F, C, n, j, rfl, hp.ex (e1.trans e2), hE, hs, fun H3 x3 e3 ⟨t, p, ex, ht, hpw⟩ => ?_⟩
      subst ex
      refine ⟨t, _, rfl, SqT.of ht, rfl, _, _, rfl, _, _, rfl, rfl, ?_⟩
      refine ⟨_, rfl, _, rfl, p, _, rfl, .inl (SqT.of hpw), ?_⟩
      have lz : (V.str sThere :: oV (some j) :: (wV (srch (parts F C)).1 ++ [])).length ≤ sizeLine := by
        rw [List.append_nil, List.length_cons, List.length_cons, wV_len]
        exact Nat.le_trans (show _ ≤ 20002 by omega) (by decide)
      refine ⟨lz, fun l hl => ?_⟩
      refine ⟨l, _, plWords (srch (parts F C)), rfl, upd_same, ?_, ?_, ?_, ?_, fun H4 e4 => k H4 (((e1.trans e2).trans e3).trans ((Ex.new hl).trans e4))⟩
      · unfold plWords
        rw [hs, List.append_nil, List.length_cons, List.length_cons, wV_len, List.length_cons, List.length_cons, lts_len]
      · intro i y s' h1 h2
        unfold plWords at h2
        rw [hs] at h2
        rw [List.append_nil] at h1
        match i, h1, h2 with
        | 0, h1, h2 => cases h1; cases h2; exact .inl rfl
        | 1, h1, h2 => cases h1; cases h2; exact shows_ltr j4
        | i + 2, h1, h2 => exact shows_w hw4 (i := i) (by simpa using h1) (by simpa using h2)
      · unfold plWords
        rw [hs]
        intro s' h
        rcases List.mem_cons.mp h with rfl | h
        · exact small_there
        · rcases List.mem_cons.mp h with rfl | h
          · exact small_ltr j
          · exact small_lts _ _ h
      · unfold plWords
        rw [hs]
        show (sThere :: ltr j :: lts _).length ≤ _
        rw [List.length_cons, List.length_cons, lts_len]
        omega
/-! ### check_place_text, where the circle is one and the text has the form -/
def chkPl (F : Fo) (C : Ci) (hd : Str) (w : List Nat) : Bool := if hd = sAbsent then chkAbs (parts F C) w else decide ((exFs F w.tail).get (w.headD 0) = C)
def spChkP (c : Addr) : Sp := fun vs H Q _ => ∃ (o q : Addr) (F : Fo) (C : Ci) (n : Nat) (hd : Str) (w : List Nat), vs = [.ref o, .ref q, .str (Txt.join SP (hd :: lts w))] ∧ Pre c H o q F C n ∧ (hd = sThere ∨ hd = sAbsent) ∧ (hd = sThere → w ≠ []) ∧ (∀ k ∈ w, k < 4) ∧ w.length ≤ 30000 ∧ n + 3 * w.length ≤ 400000 ∧
  ∀ H', Ex H H' → Q (.bl (chkPl F C hd w)) H'
theorem sc_chkp : FnScope ["four", "circle", "text", "words", "letters"] ["four", "circle", "text"] (defScope s_check_place_text) := ⟨rfl, rfl, rfl, by decide +kernel, rfl, by decide +kernel, by decide +kernel⟩
theorem split_new {σ : L2.St} {H : Hp} {te : TE} {tx : Str} {ss : List Str} (h : Ev te σ H (.str tx)) (hs : Txt.split tx SP = ss) (hl : tx.length + 2 ≤ sizeLine) :
    EvL (tM1 (fun x xs H Q => ∃ a b, x = .str a ∧ xs = [.str b] ∧ (b.length == 0) = false ∧ a.length + 2 ≤ sizeLine ∧ rNewStrs (Txt.split a b) H Q) te (tC (.str SP))) σ H (ss.map V.str) := fun H1 e Q q =>
  h H1 e _ fun H2 e2 => ⟨⟨_, rfl⟩, tx, SP, rfl, rfl, by decide +kernel, hl, fun p hp => by rw [hs]; exact q p _ (fresh_back e2 hp) (e2.trans (Ex.new hp)) upd_same⟩
theorem cut_tail (x : V) (xs : List V) : cutV (x :: xs) (some 1) none = xs := by
  unfold cutV
  have e : HT.sIx (x :: xs).length 0 (some 1) = 1 := by
    have := HT.sIx_nat (x :: xs).length 0 1
    rw [show ((1 : Nat) : Int) = (1 : Int) from rfl] at this
    rw [this, List.length_cons]
    omega
  rw [e, HT.sIx_none]
  simp
theorem ev_callL {sp : Sp} {E : XK} {σ : L2.St} {H : Hp} {te : TE} {xs : List V} {z : V} (h : EvL te σ H xs) (hs : ∀ p H1, Ex H H1 → H1 p = some (.lst xs) → ∀ Q : VK, (∀ H2, Ex H1 H2 → Q z H2) → sp [.ref p] H1 Q E) : Ev (tCall sp [] E (tCons te tNil)) σ H z := fun H1 e Q q =>
  h H1 e _ fun p H2 hp e2 h2 => hs p H2 (e.trans e2) h2 Q fun H3 e3 => q H3 (e2.trans e3)
theorem rv_eqStrs {H : Hp} {p q : Addr} {xs ys : List Str} (hp : H p = some (.lst (xs.map V.str))) (hq : H q = some (.lst (ys.map V.str))) (h1 : ∀ s ∈ xs, Small s) (h2 : ∀ s ∈ ys, Small s) : RV (rEqD K) (.ref p) (.ref q) H (.bl (decide (xs = ys))) := fun H1 e Q k => by
  refine ⟨_, _, .lst (SqL.of (e _ _ hp)) (dp_strs xs), .lst (SqL.of (e _ _ hq)) (dp_strs ys), shaped_strs xs h1, shaped_strs ys h2, ?_⟩
  have ee : PyData.eqv (.list (xs.map PyData.str)) (.list (ys.map PyData.str)) = decide (xs = ys) := eqv_strs xs ys
  rw [ee]
  exact k H1 (Ex.refl H1)
theorem in_two {hd : Str} (h : hd = sThere ∨ hd = sAbsent) : inV (.str hd) [.str sThere, .str sAbsent] = true := by
  rcases h with rfl | rfl <;> decide +kernel
theorem ok_chkp (T : Txt K mg a) : Okd P w K mg base CX0 11 "check_place_text" a.check_place_text ["four", "circle", "text"] (spChkP a.cFour) := by
  refine T.check_place_text.ok sc_chkp (fun vs H Q E h => ?_) (fun cdv A outer s H vs Q E hr h => ?_)
  · obtain ⟨o, q, F, C, n, hd, w, rfl, _⟩ := h
    rfl
  · obtain ⟨o, q, F, C, n, hd, w, rfl, hp, hhd, hne, hw, hlen, hn, k⟩ := h
    obtain ⟨h1, h2, h3, h4, h5, h6, h7, h8⟩ := id hp
    have nd := sc_chkp.nd
    have hu : (A.deeper (envOfC "check_place_text" (defScope s_check_place_text) s.heap.objs.size a.check_place_text cdv)).units + 64 < cLine := by have := hr.un; omega
    have smh : Small hd := by rcases hhd with rfl | rfl; exact small_there; exact small_absent
    have sma : ∀ s ∈ hd :: lts w, Small s := fun s hs => by
      rcases List.mem_cons.mp hs with rfl | hs
      · exact smh
      · exact small_lts _ _ hs
    have tl : (Txt.join SP (hd :: lts w)).length + 2 ≤ sizeLine := by
      have := join_len _ sma
      rw [List.length_cons, lts_len] at this
      exact Nat.le_trans (show _ ≤ 400000 by omega) (by decide)
    refine ⟨_, pss_cons (ps_expr (pe_c (ok_check_circle T) (hr.mono (by decide)) pass0 (pa_cons (pv 1) pa_nil)))
      (pss_cons (ps_set (i := 3) nd rfl (.inl rfl) (pe_split (pv 2) pe_str))
      (pss_cons (ps_if (PW.pt (pw_or (pt_cmpR op_notIn_seq (pe_ix ix_list (pv 3) pe_int (fun _ _ => rfl)) (pe_tup (pa_cons pe_str (pa_cons pe_str pa_nil))) (by rfl))
          (pw_or (pt_not (pt_val (pe_c (ok_are T) (hr.mono (by decide)) pass0 (pa_cons (pe_slice sl_list (pv 3) (po_some pe_int) po_none) pa_nil))))
          (pw_or1 (pt_cmpR (op_eqD hu) (pv 3) (pe_lst (pa_cons pe_str pa_nil)) (nomark _)))))) pss_never pss_nil)
      (pss_cons (ps_set (i := 4) nd rfl (.inl rfl) (pe_c (ok_let T) (hr.mono (by decide)) pass0 (pa_cons (pe_slice sl_list (pv 3) (po_some pe_int) po_none) pa_nil)))
      (pss_cons (ps_if (pt_cmpR op_eq (pe_ix ix_list (pv 3) pe_int (fun _ _ => rfl)) pe_str (nomark _)) (pss_one (ps_ret (pe_c (ok_chka T) hr pass0 (pa_cons (pv 0) (pa_cons (pv 1) (pa_cons (pv 4) pa_nil)))))) pss_nil)
      (pss_one (ps_ret (pe_cmpR (op_eqD hu) (pe_m (pe_c (ok_four_at T) (hr.mono (by decide)) pass0 (pa_cons (pv 0) (pa_cons (pe_slice sl_tup (pv 4) (po_some pe_int) po_none) pa_nil))) T.four (ok_circle T) (hr.mono (by decide)) pass0 (pa_cons (pe_ix ix_tup (pv 4) pe_int (fun _ _ => rfl)) pa_nil))
        (pe_callTy (T := "tuple") (r := rTupOf K) call_tuple_of (by rfl) T.b_tuple (by decide +kernel) (pa_cons (pv 1) pa_nil)) (nomark _)))))))), ?_⟩
    refine ⟨_, rfl, q, C, rfl, h2, h6, h8, fun H1 e1 => ?_⟩
    refine q_asgL (split_new (ss := hd :: lts w) (ev_var rfl) (split_words (by simp) sma) tl) fun l H2 hl e2 hl2 => ?_
    have e12 := e1.trans e2
    have sl : ∀ {σ : L2.St} {H' : Hp}, σ[3]? = some (some (.ref l)) → Ex H2 H' → EvL (tSl (rSlL K) (tVar 3) (tPart (tC (.int 1))) tNoPart) σ H' ((lts w).map V.str) := fun {σ H'} h e => el_is (el_sl (xs := (hd :: lts w).map V.str) (lo := some 1) (hi := none) (ev_var h) (eo_some ev_c) eo_none (SqL.of (e _ _ hl2))) (cut_tail _ _)
    have w0 : ∀ {σ : L2.St} {H' : Hp}, σ[3]? = some (some (.ref l)) → Ex H2 H' → Ev (tOp (rIxL K) (tVar 3) (tC (.int 0))) σ H' (.str hd) := fun {σ H'} h e => ev_ixL (xs := (hd :: lts w).map V.str) (ev_var h) ev_c (e _ _ hl2) (atI_nat (j := 0) rfl)
    refine q_when (b := !inV (.str hd) [.str sThere, .str sAbsent] || (!((lts w).all isLetter) || decide (hd :: lts w = [sThere]))) (et_or (et_test (ev_niU (w0 rfl (Ex.refl _)) (eu_tup (ea_cons ev_c (ea_cons ev_c ea_nil)) (show 2 ≤ 100000 by decide)) rfl rfl)) (fun _ => et_or (et_not (et_test (ev_callL (sl rfl (Ex.refl _)) (fun p H3 e3 hp3 Q' q' => ⟨p, lts w, rfl, hp3, by rw [lts_len]; omega, q'⟩)))) (fun _ => et_test (ev_opL (xs := ([sThere] : List Str).map V.str) (ev_var rfl) (el_lst (ea_cons ev_c ea_nil) (show 1 ≤ 100000 by decide)) (fun p H3 hp3 e3 => rv_eqStrs (xs := hd :: lts w) (e3 _ _ hl2) hp3 sma (fun s hs => by rw [List.mem_singleton.mp hs]; exact small_there)))))) (fun z => ?_) (fun _ H3 e3 => ?_)
    · rw [in_two hhd] at z
      have al : (lts w).all isLetter = true := List.all_eq_true.mpr fun s hs => by
        obtain ⟨j, _, rfl⟩ := List.mem_map.mp hs
        exact letter_ltr j
      rw [al] at z
      have z : hd :: lts w = [sThere] := by simpa using z
      have z1 := (List.cons.inj z).1
      have z2 := (List.cons.inj z).2
      exact absurd (List.map_eq_nil_iff.mp z2) (hne z1)
    · have e13 := e12.trans e3
      refine (sl rfl e3) H3 (Ex.refl _) _ fun p H4 hp4 e4 h4' => ?_
      refine ⟨p, w, rfl, h4', hw, by omega, fun H5 lp e5 hlp => ?_⟩
      have e35 := e4.trans e5
      have e25 := e3.trans e35
      refine q_when (b := decide (V.str hd = V.str sAbsent)) (et_test (ev_op (w0 rfl e25) ev_c (rv_eq rfl))) (fun z H6 e6 => ?_) (fun z H6 e6 => ?_)
      · have z : hd = sAbsent := V.str.inj (of_decide_eq_true z)
        have e16 := ((e13.trans e35).trans e6)
        refine ⟨_, rfl, _, rfl, _, rfl, o, q, lp, F, C, n, w, rfl, hp.ex e16, e6 _ _ hlp, hw, by omega, hn, fun H7 e7 => ?_⟩
        have := k H7 (e16.trans e7)
        unfold chkPl at this
        rw [if_pos z] at this
        exact this
      · have z : hd ≠ sAbsent := fun y => by rw [y] at z; simp at z
        have zt : hd = sThere := by rcases hhd with y | y; exact y; exact absurd y z
        have hne' := hne zt
        have e16 := ((e13.trans e35).trans e6)
        match w, hne', hw, hlen, hn, hlp, k with
        | j :: w, _, hw, hlen, hn, hlp, k =>
          have j4 := hw j (by simp)
          have hw' : ∀ x ∈ w, x < 4 := fun x hx => hw x (by simp [hx])
          rw [List.length_cons] at hlen hn
          have su : EvU (tSl (rSlT K) (tVar 4) (tPart (tC (.int 1))) tNoPart) [some (.ref o), some (.ref q), some (.str (Txt.join SP (hd :: lts (j :: w)))), some (.ref l), some (.ref lp)] H6 (wV w) := by
            have := eu_slT (K := K) (σ := [some (.ref o), some (.ref q), some (.str (Txt.join SP (hd :: lts (j :: w)))), some (.ref l), some (.ref lp)]) (H := H6) (xs := wV (j :: w)) (lo := some 1) (hi := none) (te := tVar 4) (tl := tPart (tC (.int 1))) (th := tNoPart) (ev_var rfl) (eo_some ev_c) eo_none (SqT.of (e6 _ _ hlp)) (fun y => by
              have y := y.1
              have := HT.sIx_nat (wV (j :: w)).length 0 1
              rw [show ((1 : Nat) : Int) = (1 : Int) from rfl] at this
              rw [this, wV_len, List.length_cons] at y
              omega)
            have ec : cutV (wV (j :: w)) (some 1) none = wV w := cut_tail _ _
            rw [ec] at this
            exact this
          refine ⟨_, rfl, ?_⟩
          refine su H6 (Ex.refl _) _ fun sp H7 hsp e7 h7 => ?_
          have e17 := e16.trans e7
          refine ⟨o, sp, F, w, n, rfl, h1.ex e17, SqT.of h7, hw', by omega, h5, by omega, ‹Valid F›, fun H8 o' e8 ho' => ?_⟩
          obtain ⟨dx, t, b1, b2, b3, b4, g0, g1, g2⟩ := id ho'
          refine ⟨o', dx, _, rfl, g0, lkM (by decide), _, rfl, lp, _, _, _, rfl, rfl, SqT.of ((e7.trans e8) _ _ (e6 _ _ hlp)), atI_nat (j := 0) rfl, o', _, j, rfl, j4, ho', fun H9 cp e9 hcp => ?_⟩
          have e19 := (e17.trans e8).trans e9
          have kk : ∀ H', Ex H H' → Q (.bl (decide ((exFs F w).get j = C))) H' := fun H' e' => by
            have := k H' e'
            unfold chkPl at this
            rw [if_neg z] at this
            exact this
          rcases h2 with hc | hc
          · refine ⟨_, rfl, q, _, rfl, .inr ⟨SqT.of (e19 _ _ hc), ?_⟩⟩
            refine ⟨_, _, dp_ci hcp, dp_ci (e19 _ _ hc), by rfl, by rfl, ?_⟩
            rw [ctup_eq]
            exact kk H9 e19
          · refine ⟨_, rfl, q, _, rfl, .inl ⟨SqL.of (e19 _ _ hc), fun p' hp' => ?_⟩⟩
            have e9' : Ex H9 (upd H9 p' (.tup (CiV C))) := Ex.new hp'
            refine ⟨_, _, dp_ci (e9' _ _ hcp), dp_ci (C := C) upd_same, by rfl, by rfl, ?_⟩
            rw [ctup_eq]
            exact kk _ (e19.trans e9')
end
end K64


namespace K64
open PySem PySem.Spec PyProof.Rows L2 Evl
theorem ints_at {ns : List Int} {i : Nat} {x : V} (h : (ns.map V.int)[i]? = some x) : ∃ n, ns[i]? = some n ∧ x = .int n := by
  rw [List.getElem?_map] at h
  cases e : ns[i]? with
  | none => rw [e] at h; cases h
  | some s => rw [e] at h; exact ⟨s, rfl, (Option.some.inj h).symm⟩
section
variable {P : Program} {w : World} {K : PySem.W.Frag} {mg : Str → Option Value} {base : Heap} {a : Ad}
theorem ev_mulR {σ : L2.St} {H : Hp} {ta tb : TE} {i j : Int} (ha : Ev ta σ H (.int i)) (hb : Ev tb σ H (.int j)) (h : -(2 ^ 64) < j ∧ j < 2 ^ 64) : Ev (tOp rMul ta tb) σ H (.int (i * j)) := ev_op ha hb (rv_I (.inr h))
abbrev rInt1 : List V → Hp → VK → Prop := fun xs H Q => (∃ i, xs = [.int i] ∧ Q (.int i) H) ∨ ∃ k, xs = [.bl k] ∧ Q (.int (if k then 1 else 0)) H
theorem ev_int {σ : L2.St} {H : Hp} {ta : TE} {i : Int} (ha : Ev ta σ H (.int i)) : Ev (tCB rInt1 (tCons ta tNil)) σ H (.int i) := fun H1 e Q q =>
  ha H1 e _ fun H2 e2 => .inl ⟨i, rfl, q H2 e2⟩
theorem ev_intB {σ : L2.St} {H : Hp} {ta : TE} {b : Bool} (ha : Ev ta σ H (.bl b)) : Ev (tCB rInt1 (tCons ta tNil)) σ H (.int (if b then 1 else 0)) := fun H1 e Q q =>
  ha H1 e _ fun H2 e2 => .inr ⟨b, rfl, q H2 e2⟩
theorem ev_ge {σ : L2.St} {H : Hp} {ta tb : TE} {i j : Int} (ha : Ev ta σ H (.int i)) (hb : Ev tb σ H (.int j)) : Ev (tOp (rI0 fun i j => .bl (decide (j ≤ i))) ta tb) σ H (.bl (decide (j ≤ i))) := ev_op ha hb rv_I0
theorem ev_abs {σ : L2.St} {H : Hp} {ta : TE} {i : Int} (ha : Ev ta σ H (.int i)) : Ev (tCB (fun xs H Q => ∃ i, xs = [.int i] ∧ Q (.int (if i < 0 then -i else i)) H) (tCons ta tNil)) σ H (.int (if i < 0 then -i else i)) := fun H1 e Q q =>
  ha H1 e _ fun H2 e2 => ⟨i, rfl, q H2 e2⟩
theorem ev_some {σ : L2.St} {H : Hp} {te : TE} {i : Int} (h : Ev te σ H (.int i)) : ∃ j, Ev te σ H (.int j) := ⟨i, h⟩
/-! ### _law_row -/
def spRow : Sp := fun vs H Q _ => ∃ (c m : Int), vs = [.int c, .int m] ∧ 0 ≤ m ∧ m ≤ 100 ∧ ∀ (H' : Hp) (l : Addr) (ns : List Int), H l = none → Ex H H' → ns.length = m.toNat → H' l = some (.lst (ns.map V.int)) → Q (.ref l) H'
theorem sc_row : FnScope ["_law_cell", "_law_many", "_law_row_here", "_law_rest", "_law_mixed", "_law_k"] ["_law_cell", "_law_many"] (defScope s_l_row) := ⟨rfl, rfl, rfl, by decide +kernel, rfl, by decide +kernel, by decide +kernel⟩
theorem ok_row (T : Txt K mg a) : Okd P w K mg base CX0 1 "_law_row" a.l_row ["_law_cell", "_law_many"] spRow := by
  refine T.l_row.ok sc_row (fun vs H Q E h => ?_) (fun cdv A outer s H vs Q E hr h => ?_)
  · obtain ⟨c, m, rfl, _⟩ := h
    rfl
  · obtain ⟨c, m, rfl, m0, m1, k⟩ := h
    have nd := sc_row.nd
    refine ⟨_, pss_cons (ps_set (i := 2) nd rfl (.inl rfl) (pe_lst pa_nil))
      (pss_cons (ps_set (i := 3) nd rfl (.inl rfl) (pe_callB call_abs (by rfl) T.b_abs (by decide +kernel) (pa_cons (pv 0) pa_nil)))
      (pss_cons (ps_set (i := 4) nd rfl (.inl rfl) (pe_op op_mod (pe_callTy call_int1 (by rfl) T.b_int (by decide +kernel) (pa_cons (pe_op op_add (pe_op op_mul (pv 3) pe_int) pe_int) pa_nil)) pe_int))
      (pss_cons (ps_for PassesOwn.never rfl (pi_range1 (by rfl) T.b_range (pa_cons (pv 1) pa_nil)) (pg_name (i := 5) nd rfl (.inl rfl))
        (pss_cons (ps_set (i := 4) nd rfl (.inl rfl) (pe_op op_mod (pe_callTy call_int1 (by rfl) T.b_int (by decide +kernel) (pa_cons (pe_op op_add (pe_op op_mul (pv 4) pe_int) (pe_op op_mul pe_int (pe_op op_add (pv 5) pe_int))) pa_nil)) pe_int))
        (pss_one (ps_if (pt_cmpR op_ge (pe_callB call_abs (by rfl) T.b_abs (by decide +kernel) (pa_cons (pv 0) pa_nil)) (pe_op op_pow pe_int pe_int) (nomark _))
          (pss_cons (ps_expr (pe_bm PySem.F.plainAttrs_list PySem.F.slot_list_append PySem.F.type_list_append mt_append (pv 2) (pa_cons (pe_op op_mod (pe_callTy call_int1 (by rfl) T.b_int (by decide +kernel) (pa_cons (pv 3) pa_nil)) pe_int) pa_nil)))
          (pss_one (ps_set (i := 3) nd rfl (.inl rfl) (pe_op op_fdiv (pv 3) pe_int))))
          (pss_one (ps_expr (pe_bm PySem.F.plainAttrs_list PySem.F.slot_list_append PySem.F.type_list_append mt_append (pv 2) (pa_cons (pe_op op_mod (pe_callTy call_int1 (by rfl) T.b_int (by decide +kernel) (pa_cons (pe_op op_fdiv (pv 4) pe_int) pa_nil)) pe_int) pa_nil))))))))
      (pss_one (ps_ret (pv 2)))))), ?_⟩
    refine q_asgL (el_lst ea_nil (show 0 ≤ 100000 by decide)) fun l H1 hl e1 h1 => ?_
    refine q_asg (ev_abs (ev_var rfl)) fun H2 e2 => ?_
    refine q_asg (ev_mod (ev_int (ev_add (ev_mulR (ev_var rfl) ev_c (by decide)) ev_c)) ev_c (by decide)) fun H3 e3 => ?_
    refine q_forR1 (ea_cons (ev_var rfl) ea_nil) ⟨m0, by omega⟩ (fun i σ' H' => (∃ r x v, σ' = [some (.int c), some (.int m), some (.ref l), some (.int r), some (.int x), v]) ∧ Ex H H' ∧ ∃ ns : List Int, ns.length = i ∧ H' l = some (.lst (ns.map V.int)))
      (fun H4 e4 => ⟨⟨_, _, none, rfl⟩, ((e1.trans e2).trans e3).trans e4, [], rfl, ((e2.trans e3).trans e4) _ _ h1⟩) ?_ ?_
    · rintro i σ' H' hi ⟨⟨r, x, v, rfl⟩, e4, ns, hns, hl4⟩
      refine q_asg (ev_mod (ev_int (ev_add (ev_mulR (ev_var rfl) ev_c (by decide)) (ev_mulL ev_c (ev_add (ev_var rfl) ev_c) (by decide)))) ev_c (by decide)) fun H5 e5 => ?_
      have e45 := e4.trans e5
      refine s_if (et_test (ev_ge (ev_abs (ev_var rfl)) (ev_op ev_c ev_c (rv_I ⟨by decide, by decide, by decide⟩)))) (fun _ H6 e6 => ?_) (fun _ H6 e6 => ?_)
      · refine q_app ((e5.trans e6) _ _ hl4) (ev_var rfl) (ev_mod (ev_int (ev_var rfl)) ev_c (by decide)) (by rw [List.length_map]; omega) fun H7 e7 => ?_
        refine s_asg (ev_fdiv (ev_var rfl) ev_c ⟨by decide, by decide⟩) fun H8 e8 => ⟨⟨_, _, _, rfl⟩, (Ex.mut ((e45.trans e6).trans e7) hl).trans e8, ns ++ [r % 1009], by rw [List.length_append, hns]; rfl, ?_⟩
        rw [e8 _ _ upd_same, List.map_append]
        rfl
      · refine s_app ((e5.trans e6) _ _ hl4) (ev_var rfl) (ev_mod (ev_int (ev_fdiv (ev_var rfl) ev_c ⟨by decide, by decide⟩)) ev_c (by decide)) (by rw [List.length_map]; omega) fun H7 e7 => ⟨⟨_, _, _, rfl⟩, Ex.mut ((e45.trans e6).trans e7) hl, ns ++ [(x * 16807 + 271 * ((i : Int) + 3)) % 2147483629 / 7 % 1009], by rw [List.length_append, hns]; rfl, ?_⟩
        rw [upd_same, List.map_append]
        rfl
    · rintro σ' H' ⟨⟨r, x, v, rfl⟩, e4, ns, hns, hl4⟩
      exact ⟨_, rfl, k H' l ns hl e4 hns hl4⟩
end
end K64


namespace K64
open PySem PySem.Spec PyProof.Rows L2 Evl
section
variable {P : Program} {w : World} {K : PySem.W.Frag} {mg : Str → Option Value} {base : Heap} {a : Ad}
/-! ### _law_numbers -/
def spNums (K : PySem.W.Frag) : Sp := fun vs H Q _ => ∃ (l : Addr) (ns : List Int), vs = [.ref l, .int 60] ∧ SqL K H l (ns.map V.int) ∧ ns.length ≤ 63 ∧ ∀ (H' : Hp) (p : Addr) (ms : List Int), Ex H H' → ms.length = 60 → H' p = some (.lst (ms.map V.int)) → Q (.ref p) H'
theorem sc_nums : FnScope ["_law_script", "_law_many", "_law_cells", "_law_each", "_law_numbers_here", "_law_cell", "_law_number"] ["_law_script", "_law_many"] (defScope s_l_numbers) := ⟨rfl, rfl, rfl, by decide +kernel, rfl, by decide +kernel, by decide +kernel⟩
theorem cut_map (ns : List Int) (k : Nat) : cutV (ns.map V.int) none (some (k : Int)) = (ns.take k).map V.int := by
  unfold cutV
  rw [HT.sIx_none, HT.sIx_nat, List.drop_zero, Nat.sub_zero, List.length_map, List.map_take]
  rw [Nat.min_def]
  split
  · rfl
  · rename_i h
    rw [List.take_of_length_le (by rw [List.length_map]; omega), List.take_of_length_le (by rw [List.length_map]; omega)]
theorem ok_nums (T : Txt K mg a) : Okd P w K mg base CX0 2 "_law_numbers" a.l_numbers ["_law_script", "_law_many"] (spNums K) := by
  refine T.l_numbers.ok sc_nums (fun vs H Q E h => ?_) (fun cdv A outer s H vs Q E hr h => ?_)
  · obtain ⟨l, ns, rfl, _⟩ := h
    rfl
  · obtain ⟨l, ns, rfl, hl, hz, k⟩ := h
    have nd := sc_nums.nd
    refine ⟨_, pss_cons (ps_set (i := 2) nd rfl (.inl rfl) (pe_slice sl_list (pv 0) po_none (po_some pe_int)))
      (pss_cons (ps_set (i := 3) nd rfl (.inl rfl) (pe_op op_add pe_int (pe_op op_fdiv (pv 1) (pe_callB (call_max2 rfl) (by rfl) T.b_max (by decide +kernel) (pa_cons pe_int (pa_cons (pe_callB call_len_seq (by rfl) T.b_len PySem.boot_len (pa_cons (pv 2) pa_nil)) pa_nil))))))
      (pss_cons (ps_set (i := 4) nd rfl (.inl rfl) (pe_lst pa_nil))
      (pss_cons (ps_for PassesOwn.never rfl (pi_list (pv 2)) (pg_name (i := 5) nd rfl (.inl rfl))
        (pss_one (ps_for PassesOwn.never rfl (pi_list (pe_c (ok_row T) hr pass0 (pa_cons (pv 5) (pa_cons (pv 3) pa_nil)))) (pg_name (i := 6) nd rfl (.inl rfl))
          (pss_one (ps_expr (pe_bm PySem.F.plainAttrs_list PySem.F.slot_list_append PySem.F.type_list_append mt_append (pv 4) (pa_cons (pv 6) pa_nil)))))))
      (pss_cons (ps_while PassesOwn.never (pt_cmpR op_lt (pe_callB call_len_seq (by rfl) T.b_len PySem.boot_len (pa_cons (pv 4) pa_nil)) (pv 1) (nomark _))
        (pss_one (ps_expr (pe_bm PySem.F.plainAttrs_list PySem.F.slot_list_append PySem.F.type_list_append mt_append (pv 4) (pa_cons pe_int pa_nil)))))
      (pss_one (ps_ret (pe_slice sl_list (pv 4) po_none (po_some (pv 1))))))))), ?_⟩
    refine q_asgL (xs := (ns.take 63).map V.int) (el_is (el_sl (lo := none) (hi := some ((63 : Nat) : Int)) (ev_var rfl) eo_none (eo_some ev_c) hl) (cut_map ns 63)) fun lc H1 hlc e1 h1 => ?_
    have ez : ns.take 63 = ns := List.take_of_length_le hz
    rw [ez] at h1
    obtain ⟨each, heach, eEv⟩ : ∃ each : Int, (0 ≤ each ∧ each ≤ 100) ∧ Ev (tOp rAdd (tC (.int 1)) (tOp (rI CDiv fun i j => .int (i / j)) (tVar 1) (tCB (fun xs H Q => ∃ i j, xs = [.int i, .int j] ∧ Q (.int (if j > i then j else i)) H) (tCons (tC (.int 1)) (tCons (tCB (rLenS K) (tCons (tVar 2) tNil)) tNil))))) [some (.ref l), some (.int 60), some (.ref lc), none, none, none, none] H1 (.int each) := by
      refine ⟨_, ?_, ev_add ev_c (ev_fdiv (ev_var rfl) (ev_max2 ev_c (ev_len (ev_var rfl) (SqL.of h1))) ?_)⟩
      · rw [List.length_map]
        generalize hj : (if ((ns.length : Nat) : Int) > 1 then ((ns.length : Nat) : Int) else 1) = j
        have j1 : 1 ≤ j := by rw [← hj]; split <;> omega
        have := Int.ediv_nonneg (a := 60) (b := j) (by omega) (by omega)
        have := Int.ediv_le_self (a := 60) j (by omega)
        omega
      · rw [List.length_map]
        unfold CDiv
        split <;> omega
    refine q_asg eEv fun H2 e2 => ?_
    refine q_asgL (el_lst ea_nil (show 0 ≤ 100000 by decide)) fun ln H3 hln e3 h3 => ?_
    have e13 := (e1.trans e2).trans e3
    have nln : H ln = none := fresh_back (e1.trans e2) hln
    have lcn : lc ≠ ln := fun z => by rw [← z, e2 _ _ h1] at hln; cases hln
    refine q_forLn (xs := ns.map V.int) (ev_var rfl) (SqL.of ((e2.trans e3) _ _ h1)) (fun i σ' H' => (∃ v v', σ' = [some (.ref l), some (.int 60), some (.ref lc), some (.int each), some (.ref ln), v, v']) ∧ Ex H H' ∧ H' lc = some (.lst (ns.map V.int)) ∧ ∃ ms : List Int, ms.length ≤ 100 * i ∧ H' ln = some (.lst (ms.map V.int)))
      (fun H4 e4 => ⟨⟨none, none, rfl⟩, e13.trans e4, ((e2.trans e3).trans e4) _ _ h1, [], Nat.zero_le _, e4 _ _ h3⟩) (fun i σ' H' _ h => SqL.of h.2.2.1) ?_ ?_
    · rintro i x σ' H' hx ⟨⟨v, v', rfl⟩, e4, hlc4, ms, hms, hln4⟩
      obtain ⟨c, hc, rfl⟩ := ints_at hx
      have hi : i < ns.length := (List.getElem?_eq_some_iff.mp hc).1
      refine ⟨_, rfl, _, rfl, c, each, rfl, heach.1, heach.2, fun H5 lr rs hlr e5 hrs h5 => ⟨lr, rfl, ⟨_, SqL.of h5⟩, ?_⟩⟩
      have nlr : lr ≠ ln := fun z => by rw [z, hln4] at hlr; cases hlr
      have nlc : lc ≠ ln := lcn
      refine for_list (K := K) (a := lr) (xs := rs.map V.int) (fun j σ2 H2' => (∃ v v', σ2 = [some (.ref l), some (.int 60), some (.ref lc), some (.int each), some (.ref ln), v, v']) ∧ Ex H H2' ∧ H2' lc = some (.lst (ns.map V.int)) ∧ H2' lr = some (.lst (rs.map V.int)) ∧ ∃ ms : List Int, ms.length ≤ 100 * i + j ∧ H2' ln = some (.lst (ms.map V.int)))
        ⟨⟨_, _, rfl⟩, e4.trans e5, e5 _ _ hlc4, h5, ms, by omega, e5 _ _ hln4⟩ (fun j σ2 H2' _ h => SqL.of h.2.2.2.1) ?_ ?_
      · rintro j y σ2 H6 hy ⟨⟨v, v', rfl⟩, e6, hlc6, hlr6, ms6, hms6, hln6⟩
        obtain ⟨n, hn, rfl⟩ := ints_at hy
        have hj : j < rs.length := (List.getElem?_eq_some_iff.mp hn).1
        have hr100 : rs.length ≤ 100 := by rw [hrs]; omega
        refine s_app hln6 (ev_var rfl) (ev_var rfl) (by rw [List.length_map]; omega) fun H7 e7 => ⟨⟨_, _, rfl⟩, Ex.mut (e6.trans e7) nln, by rw [upd_ne nlc]; exact e7 _ _ hlc6, by rw [upd_ne nlr]; exact e7 _ _ hlr6, ms6 ++ [n], by rw [List.length_append, List.length_singleton]; omega, ?_⟩
        rw [upd_same, List.map_append]
        rfl
      · rintro σ2 H6 ⟨⟨v, v', rfl⟩, e6, hlc6, hlr6, ms6, hms6, hln6⟩
        rw [List.length_map] at hms6
        have hr100 : rs.length ≤ 100 := by rw [hrs]; omega
        exact ⟨⟨_, _, rfl⟩, e6, hlc6, ms6, by omega, hln6⟩
    · rintro σ' H' ⟨⟨v, v', rfl⟩, e4, hlc4, ms, hms, hln4⟩
      rw [List.length_map] at hms
      refine q_while (fun m σ2 H2' => ∃ ms : List Int, σ2 = [some (.ref l), some (.int 60), some (.ref lc), some (.int each), some (.ref ln), v, v'] ∧ Ex H H2' ∧ ms.length ≤ 20000 ∧ m = 60 - ms.length ∧ H2' ln = some (.lst (ms.map V.int))) (60 - ms.length) ⟨ms, rfl, e4, by omega, rfl, hln4⟩ ?_
      rintro m σ2 H6 ⟨ms6, rfl, e6, hms6, rfl, hln6⟩
      refine ⟨_, et_test (ev_lt (ev_len (ev_var rfl) (SqL.of hln6)) (ev_var rfl)), fun z H7 e7 => ?_, fun z H7 e7 => ?_⟩
      · have z := of_decide_eq_true z
        rw [List.length_map] at z
        refine ⟨fun σ2 H2' => ∃ m', m' < 60 - ms6.length ∧ ∃ ms : List Int, σ2 = [some (.ref l), some (.int 60), some (.ref lc), some (.int each), some (.ref ln), v, v'] ∧ Ex H H2' ∧ ms.length ≤ 20000 ∧ m' = 60 - ms.length ∧ H2' ln = some (.lst (ms.map V.int)), fun _ _ h => h, ?_⟩
        refine s_app (e7 _ _ hln6) (ev_var rfl) ev_c (by rw [List.length_map]; omega) fun H8 e8 => ⟨60 - (ms6.length + 1), by omega, ms6 ++ [0], rfl, Ex.mut ((e6.trans e7).trans e8) nln, by rw [List.length_append, List.length_singleton]; omega, by rw [List.length_append, List.length_singleton], ?_⟩
        rw [upd_same, List.map_append]
        rfl
      · have z := of_decide_eq_false z
        rw [List.length_map] at z
        refine s_retL (xs := (ms6.take 60).map V.int) (el_is (el_sl (lo := none) (hi := some ((60 : Nat) : Int)) (ev_var rfl) eo_none (eo_some (ev_var rfl)) (SqL.of (e7 _ _ hln6))) (cut_map ms6 60)) fun p H8 hp e8 h8 => k H8 p (ms6.take 60) ((e6.trans e7).trans e8) (by rw [List.length_take]; omega) h8
end
end K64


namespace K64
open PySem PySem.Spec PyProof.Rows L2 Evl
/-- a written list of four written tuples -/
theorem el_four {σ : L2.St} {H : Hp} {F : Fo} {t1 t2 t3 t4 : TA} (h1 : EvA t1 σ H (CiV F.a)) (h2 : EvA t2 σ H (CiV F.b)) (h3 : EvA t3 σ H (CiV F.c)) (h4 : EvA t4 σ H (CiV F.d)) :
    ∀ H1, Ex H H1 → ∀ Q : VK, (∀ l H2, H1 l = none → Ex H1 H2 → LFo H2 l F → Q (.ref l) H2) → tLst (tCons (tTup t1) (tCons (tTup t2) (tCons (tTup t3) (tCons (tTup t4) tNil)))) σ H1 Q := by
  intro H1 e Q q
  unfold tLst
  unfold tCons
  refine (eu_tup h1 (show 4 ≤ 100000 by decide)) H1 e _ fun a1 H2 n2 e2 c1 => ?_
  refine (eu_tup h2 (show 4 ≤ 100000 by decide)) H2 (e.trans e2) _ fun a2 H3 n3 e3 c2 => ?_
  refine (eu_tup h3 (show 4 ≤ 100000 by decide)) H3 ((e.trans e2).trans e3) _ fun a3 H4 n4 e4 c3 => ?_
  refine (eu_tup h4 (show 4 ≤ 100000 by decide)) H4 (((e.trans e2).trans e3).trans e4) _ fun a4 H5 n5 e5 c4 => ?_
  exact ⟨(by decide : 4 ≤ sizeLine), fun l hl => q l _ (fresh_back (((e2.trans e3).trans e4).trans e5) hl) ((((e2.trans e3).trans e4).trans e5).trans (Ex.new hl))
        ⟨a1, a2, a3, a4, upd_same, (Ex.new hl) _ _ (((e3.trans e4).trans e5) _ _ c1), (Ex.new hl) _ _ ((e4.trans e5) _ _ c2), (Ex.new hl) _ _ (e5 _ _ c3), (Ex.new hl) _ _ c4⟩⟩
theorem s_ret4 {σ : L2.St} {H : Hp} {D : L2.Ends} {F : Fo} {t1 t2 t3 t4 : TA} (h1 : EvA t1 σ H (CiV F.a)) (h2 : EvA t2 σ H (CiV F.b)) (h3 : EvA t3 σ H (CiV F.c)) (h4 : EvA t4 σ H (CiV F.d)) (k : ∀ l H2, Ex H H2 → LFo H2 l F → D.rt (.ref l) H2) :
    tRet (tLst (tCons (tTup t1) (tCons (tTup t2) (tCons (tTup t3) (tCons (tTup t4) tNil))))) D σ H := el_four h1 h2 h3 h4 H (Ex.refl H) _ fun l H2 _ e h => k l H2 e h
theorem ea4 {σ : L2.St} {H : Hp} {t1 t2 t3 t4 : TE} {C : Ci} (h1 : Ev t1 σ H (.int C.b)) (h2 : Ev t2 σ H (.int C.c)) (h3 : Ev t3 σ H (.int C.x)) (h4 : Ev t4 σ H (.int C.y)) : EvA (tCons t1 (tCons t2 (tCons t3 (tCons t4 tNil)))) σ H (CiV C) :=
  ea_cons h1 (ea_cons h2 (ea_cons h3 (ea_cons h4 ea_nil)))
theorem ev_neg {σ : L2.St} {H : Hp} {ta : TE} {i : Int} (h : Ev ta σ H (.int i)) : Ev (tUn (rU fun i => .int (-i)) ta) σ H (.int (-i)) := ev_un h ru_neg
section
variable {P : Program} {w : World} {K : PySem.W.Frag} {mg : Str → Option Value} {base : Heap} {a : Ad}
/-! ### _law_given -/
def spGiven : Sp := fun vs H Q _ => ∃ (m : Int), vs = [.int m] ∧ ∀ (H' : Hp) (l : Addr), Ex H H' → LFo H' l (giv m) → Q (.ref l) H'
theorem sc_given : FnScope ["_law_number", "_law_k", "_law_n", "_law_area"] ["_law_number"] (defScope s_l_given) := ⟨rfl, rfl, rfl, by decide +kernel, rfl, by decide +kernel, by decide +kernel⟩
theorem sel_at {m : Int} (h : ¬ m % 7 = 4) (h5 : ¬ m % 7 = 5) (h6 : ¬ m % 7 = 6) : ∃ n : Int, giv m = gen n ∧ 0 ≤ n ∧ n ≤ 40 ∧ ([.int 0, .int 1, .int 2, .int (1 + m / 7 % 40)] : List V)[(m % 7).toNat]? = some (.int n) := by
  unfold giv
  rw [if_neg h, if_neg h5, if_neg h6]
  have h0 := Int.emod_nonneg m (show (7 : Int) ≠ 0 by decide)
  have h7 := Int.emod_lt_of_pos m (show (0 : Int) < 7 by decide)
  have hk : m % 7 = 0 ∨ m % 7 = 1 ∨ m % 7 = 2 ∨ m % 7 = 3 := by omega
  rcases hk with e | e | e | e <;> rw [e]
  · exact ⟨0, rfl, by omega, by omega, rfl⟩
  · exact ⟨1, rfl, by omega, by omega, rfl⟩
  · exact ⟨2, rfl, by omega, by omega, rfl⟩
  · exact ⟨_, rfl, by omega, by omega, rfl⟩
theorem ok_given (T : Txt K mg a) : Okd P w K mg base CX0 1 "_law_given" a.l_given ["_law_number"] spGiven := by
  refine T.l_given.ok sc_given (fun vs H Q E h => ?_) (fun cdv A outer s H vs Q E hr h => ?_)
  · obtain ⟨m, rfl, _⟩ := h
    rfl
  · obtain ⟨m, rfl, k⟩ := h
    have nd := sc_given.nd
    refine ⟨_, pss_cons (ps_set (i := 1) nd rfl (.inl rfl) (pe_op op_mod (pe_callTy call_int1 (by rfl) T.b_int (by decide +kernel) (pa_cons (pv 0) pa_nil)) pe_int))
      (pss_cons (ps_if (pt_cmpR op_eq (pv 1) pe_int (nomark _)) (pss_one (ps_ret (pe_lst (pa_cons (pe_tup (pa_cons (pe_un un_neg pe_int) (pa_cons pe_int (pa_cons pe_int (pa_cons pe_int pa_nil))))) (pa_cons (pe_tup (pa_cons pe_int (pa_cons pe_int (pa_cons (pe_un un_neg pe_int) (pa_cons pe_int pa_nil))))) (pa_cons (pe_tup (pa_cons pe_int (pa_cons pe_int (pa_cons (pe_un un_neg pe_int) (pa_cons pe_int pa_nil))))) (pa_cons (pe_tup (pa_cons pe_int (pa_cons pe_int (pa_cons (pe_un un_neg pe_int) (pa_cons (pe_un un_neg pe_int) pa_nil))))) pa_nil))))))) pss_nil)
      (pss_cons (ps_if (pt_cmpR op_eq (pv 1) pe_int (nomark _)) (pss_one (ps_ret (pe_lst (pa_cons (pe_tup (pa_cons pe_int (pa_cons pe_int (pa_cons pe_int (pa_cons pe_int pa_nil))))) (pa_cons (pe_tup (pa_cons pe_int (pa_cons pe_int (pa_cons pe_int (pa_cons (pe_un un_neg pe_int) pa_nil))))) (pa_cons (pe_tup (pa_cons pe_int (pa_cons (pe_un un_neg pe_int) (pa_cons pe_int (pa_cons pe_int pa_nil))))) (pa_cons (pe_tup (pa_cons pe_int (pa_cons pe_int (pa_cons pe_int (pa_cons pe_int pa_nil))))) pa_nil))))))) pss_nil)
      (pss_cons (ps_if (pt_cmpR op_eq (pv 1) pe_int (nomark _)) (pss_one (ps_ret (pe_lst (pa_cons (pe_tup (pa_cons pe_int (pa_cons pe_int (pa_cons pe_int (pa_cons pe_int pa_nil))))) (pa_cons (pe_tup (pa_cons pe_int (pa_cons pe_int (pa_cons pe_int (pa_cons (pe_un un_neg pe_int) pa_nil))))) (pa_cons (pe_tup (pa_cons pe_int (pa_cons pe_int (pa_cons pe_int (pa_cons pe_int pa_nil))))) (pa_cons (pe_tup (pa_cons pe_int (pa_cons pe_int (pa_cons pe_int (pa_cons pe_int pa_nil))))) pa_nil))))))) pss_nil)
      (pss_cons (ps_set (i := 2) nd rfl (.inl rfl) (pe_ix ix_list (pe_lst (pa_cons pe_int (pa_cons pe_int (pa_cons pe_int (pa_cons (pe_op op_add pe_int (pe_op op_mod (pe_op op_fdiv (pe_callTy call_int1 (by rfl) T.b_int (by decide +kernel) (pa_cons (pv 0) pa_nil)) pe_int) pe_int)) pa_nil))))) (pv 1) (fun _ _ => rfl)))
      (pss_cons (ps_set (i := 3) nd rfl (.inl rfl) (pe_op op_mul (pv 2) (pe_op op_add (pv 2) pe_int)))
      (pss_one (ps_ret (pe_lst (pa_cons (pe_tup (pa_cons (pe_op op_sub pe_int (pv 2)) (pa_cons pe_int (pa_cons pe_int (pa_cons pe_int pa_nil))))) (pa_cons (pe_tup (pa_cons (pe_op op_add (pv 2) pe_int) (pa_cons pe_int (pa_cons (pe_un un_neg pe_int) (pa_cons pe_int pa_nil)))))
        (pa_cons (pe_tup (pa_cons (pv 3) (pa_cons pe_int (pa_cons (pe_op op_sub (pe_op op_sub pe_int (pe_op op_mul pe_int (pv 2))) pe_int) (pa_cons pe_int pa_nil))))) (pa_cons (pe_tup (pa_cons (pe_op op_add (pv 3) pe_int) (pa_cons pe_int (pa_cons (pe_op op_sub (pe_op op_sub pe_int (pe_op op_mul pe_int (pv 2))) pe_int) (pa_cons pe_int pa_nil))))) pa_nil)))))))))))), ?_⟩
    refine q_asg (ev_mod (ev_int (ev_var rfl)) ev_c (by decide)) fun H1 e1 => ?_
    refine q_when (et_test (ev_eqI (ev_var rfl) ev_c)) (fun z H2 e2 => ?_) (fun z4 H2 e2 => ?_)
    · have z := of_decide_eq_true z
      have eg : giv m = giv4 := by unfold giv; rw [if_pos z]
      refine s_ret4 (F := giv4) (ea4 (ev_neg ev_c) ev_c ev_c ev_c) (ea4 ev_c ev_c (ev_neg ev_c) ev_c) (ea4 ev_c ev_c (ev_neg ev_c) ev_c) (ea4 ev_c ev_c (ev_neg ev_c) (ev_neg ev_c)) fun l H3 e3 hl => k H3 l ((e1.trans e2).trans e3) (eg ▸ hl)
    · have z4 := of_decide_eq_false z4
      refine q_when (et_test (ev_eqI (ev_var rfl) ev_c)) (fun z H3 e3 => ?_) (fun z5 H3 e3 => ?_)
      · have z := of_decide_eq_true z
        have eg : giv m = giv5 := by unfold giv; rw [if_neg z4, if_pos z]
        refine s_ret4 (F := giv5) (ea4 ev_c ev_c ev_c ev_c) (ea4 ev_c ev_c ev_c (ev_neg ev_c)) (ea4 ev_c (ev_neg ev_c) ev_c ev_c) (ea4 ev_c ev_c ev_c ev_c) fun l H4 e4 hl => k H4 l (((e1.trans e2).trans e3).trans e4) (eg ▸ hl)
      · have z5 := of_decide_eq_false z5
        refine q_when (et_test (ev_eqI (ev_var rfl) ev_c)) (fun z H4 e4 => ?_) (fun z6 H4 e4 => ?_)
        · have z := of_decide_eq_true z
          have eg : giv m = giv6 := by unfold giv; rw [if_neg z4, if_neg z5, if_pos z]
          refine s_ret4 (F := giv6) (ea4 ev_c ev_c ev_c ev_c) (ea4 ev_c ev_c ev_c (ev_neg ev_c)) (ea4 ev_c ev_c ev_c ev_c) (ea4 ev_c ev_c ev_c ev_c) fun l H5 e5 hl => k H5 l ((((e1.trans e2).trans e3).trans e4).trans e5) (eg ▸ hl)
        · have z6 := of_decide_eq_false z6
          obtain ⟨n, eg, n0, n40, hn⟩ := sel_at z4 z5 z6
          have h0 := Int.emod_nonneg m (show (7 : Int) ≠ 0 by decide)
          have hat : atI ([.int 0, .int 1, .int 2, .int (1 + m / 7 % 40)] : List V) (m % 7) = some (.int n) := by
            have := atI_nat hn
            rw [Int.toNat_of_nonneg h0] at this
            exact this
          refine q_asg (v := .int n) (ev_opL1 (xs := [.int 0, .int 1, .int 2, .int (1 + m / 7 % 40)]) (el_lst (ea_cons ev_c (ea_cons ev_c (ea_cons ev_c (ea_cons (ev_add ev_c (ev_mod (ev_fdiv (ev_int (ev_var rfl)) ev_c ⟨by decide, by decide⟩) ev_c (by decide))) ea_nil)))) (show 4 ≤ 100000 by decide)) (fun _ _ => ev_var rfl) (fun p H5 hp e5 => rv_ixL (SqL.of hp) hat)) fun H5 e5 => ?_
          refine q_asg (ev_mulL (ev_var rfl) (ev_add (ev_var rfl) ev_c) ⟨by omega, by omega⟩) fun H6 e6 => ?_
          refine s_ret4 (F := gen n) (ea4 (ev_sub ev_c (ev_var rfl)) ev_c ev_c ev_c) (ea4 (ev_add (ev_var rfl) ev_c) ev_c (ev_neg ev_c) ev_c) (ea4 (ev_var rfl) ev_c (ev_sub (ev_sub ev_c (ev_mulL ev_c (ev_var rfl) (by decide))) ev_c) ev_c) (ea4 (ev_add (ev_var rfl) ev_c) ev_c (ev_sub (ev_sub ev_c (ev_mulL ev_c (ev_var rfl) (by decide))) ev_c) ev_c)
            fun l H7 e7 hl => k H7 l ((((((e1.trans e2).trans e3).trans e4).trans e5).trans e6).trans e7) (eg ▸ hl)
end
end K64


namespace K64
open PySem PySem.Spec PyProof.Rows L2 Evl
theorem sq_small {s : Int} (h1 : s ≤ 1009) (h2 : -s ≤ 1009) : s * s ≤ 1018081 := by
  have : 0 ≤ (1009 - s) * (1009 + s) := Int.mul_nonneg (by omega) (by omega)
  have e : (1009 - s) * (1009 + s) = 1018081 - s * s := by grind
  omega
/-- how the numbers lay a circle -/
def nth (ns : List Int) (i : Nat) : Int := ns.getD i 0
def lk (m : Int) : Nat := (m % 4).toNat
def lf (m : Int) : Bool := decide (m / 4 % 2 = 1)
def lmost (m : Int) : Int := if m % 3 = 0 then 0 else if m % 3 = 1 then 9 else 1009
def ls (m n : Int) : Int := n % (2 * lmost m + 1) - lmost m
theorem lmost_bd (m : Int) : 0 ≤ lmost m ∧ lmost m ≤ 1009 := by unfold lmost; split <;> (try split) <;> omega
theorem ls_bd (m n : Int) : ls m n ≤ 1009 ∧ -(ls m n) ≤ 1009 := by
  have := lmost_bd m
  unfold ls
  have h1 := Int.emod_nonneg n (show 2 * lmost m + 1 ≠ 0 by omega)
  have h2 := Int.emod_lt_of_pos n (show 0 < 2 * lmost m + 1 by omega)
  omega
def layN (ns : List Int) (i : Nat) (C : Ci) : Ci := laidC (lk (nth ns i)) (lf (nth ns i)) (ls (nth ns (i + 1)) (nth ns (i + 2))) (ls (nth ns (i + 1)) (nth ns (i + 3))) C
theorem nth_at {ns : List Int} {i : Nat} (h : i < ns.length) : atI (ns.map V.int) (i : Int) = some (.int (nth ns i)) := by
  refine atI_nat ?_
  rw [List.getElem?_map]
  unfold nth
  simp [List.getD, h]
theorem most_at (m : Int) : atI ([.int 0, .int 9, .int 1009] : List V) (m % 3) = some (.int (lmost m)) := by
  have h0 := Int.emod_nonneg m (show (3 : Int) ≠ 0 by decide)
  have h3 := Int.emod_lt_of_pos m (show (0 : Int) < 3 by decide)
  have hk : m % 3 = 0 ∨ m % 3 = 1 ∨ m % 3 = 2 := by omega
  unfold lmost
  rcases hk with e | e | e <;> rw [e] <;> rfl
theorem s_retCU {sp : Sp} {E : XK} {σ : L2.St} {H : Hp} {D : L2.Ends} {ta : TA} {xs : List V} {i j : Nat} {x y : V} (h : EvU (tTup ta) σ H xs) (hi : σ[i]? = some (some x)) (hj : σ[j]? = some (some y)) (k : ∀ q H1, H q = none → Ex H H1 → H1 q = some (.tup xs) → sp [.ref q, x, y] H1 D.rt E) :
    tRet (tCall sp [] E (tCons (tTup ta) (tCons (tVar i) (tCons (tVar j) tNil)))) D σ H := by
  unfold tRet tCall
  unfold tCons
  exact h H (Ex.refl H) _ fun q H1 hq e h1 => ⟨x, hi, y, hj, k q H1 hq e h1⟩
section
variable {P : Program} {w : World} {K : PySem.W.Frag} {mg : Str → Option Value} {base : Heap} {a : Ad}
/-! ### _law_moved -/
def spMoved : Sp := fun vs H Q _ => ∃ (p : Addr) (C : Ci) (s t : Int), vs = [.ref p, .int s, .int t] ∧ CT H p C ∧ (s ≤ 1009 ∧ -s ≤ 1009) ∧ (t ≤ 1009 ∧ -t ≤ 1009) ∧ ∀ (H' : Hp) (q : Addr), Ex H H' → CT H' q (movC s t C) → Q (.ref q) H'
theorem sc_moved : FnScope ["_law_circle", "_law_s", "_law_t", "_law_b", "_law_c", "_law_x", "_law_y"] ["_law_circle", "_law_s", "_law_t"] (defScope s_l_moved) := ⟨rfl, rfl, rfl, by decide +kernel, rfl, by decide +kernel, by decide +kernel⟩
theorem ok_moved (T : Txt K mg a) : Okd P w K mg base CX0 1 "_law_moved" a.l_moved ["_law_circle", "_law_s", "_law_t"] spMoved := by
  refine T.l_moved.ok sc_moved (fun vs H Q E h => ?_) (fun cdv A outer s H vs Q E hr h => ?_)
  · obtain ⟨p, C, s, t, rfl, _⟩ := h
    rfl
  · obtain ⟨p, C, s', t, rfl, hC, hs, ht, k⟩ := h
    have nd := sc_moved.nd
    refine ⟨_, pss_cons (ps_asg (pv 0) (pg_tup (by rfl) (pgs_cons (pg_name (i := 3) nd rfl (.inl rfl)) (pgs_cons (pg_name (i := 4) nd rfl (.inl rfl)) (pgs_cons (pg_name (i := 5) nd rfl (.inl rfl)) (pgs_cons (pg_name (i := 6) nd rfl (.inl rfl)) pgs_nil))))))
      (pss_one (ps_ret (pe_tup (pa_cons (pv 3) (pa_cons (pe_op op_add (pe_op op_add (pv 4) (pe_op op_mul pe_int (pe_op op_add (pe_op op_mul (pv 5) (pv 1)) (pe_op op_mul (pv 6) (pv 2))))) (pe_op op_mul (pv 3) (pe_op op_add (pe_op op_mul (pv 1) (pv 1)) (pe_op op_mul (pv 2) (pv 2)))))
        (pa_cons (pe_op op_add (pv 5) (pe_op op_mul (pv 3) (pv 1))) (pa_cons (pe_op op_add (pv 6) (pe_op op_mul (pv 3) (pv 2))) pa_nil))))))), ?_⟩
    refine ⟨_, rfl, p, _, rfl, SqT.of hC, rfl, _, _, rfl, _, _, rfl, _, _, rfl, _, _, rfl, rfl, ?_⟩
    have b1 := sq_small hs.1 hs.2
    have b2 := sq_small ht.1 ht.2
    have b3 := sq_nonneg s'
    have b4 := sq_nonneg t
    refine s_retU (eu_tup (ea4 (C := movC s' t C) (ev_var rfl) (ev_add (ev_add (ev_var rfl) (ev_mulL ev_c (ev_add (ev_mulR (ev_var rfl) (ev_var rfl) ⟨by omega, by omega⟩) (ev_mulR (ev_var rfl) (ev_var rfl) ⟨by omega, by omega⟩)) (by decide))) (ev_mulR (ev_var rfl) (ev_add (ev_mulR (ev_var rfl) (ev_var rfl) ⟨by omega, by omega⟩) (ev_mulR (ev_var rfl) (ev_var rfl) ⟨by omega, by omega⟩)) ⟨by omega, by omega⟩))
      (ev_add (ev_var rfl) (ev_mulR (ev_var rfl) (ev_var rfl) ⟨by omega, by omega⟩)) (ev_add (ev_var rfl) (ev_mulR (ev_var rfl) (ev_var rfl) ⟨by omega, by omega⟩))) (show 4 ≤ 100000 by decide)) fun q H1 hq e1 h1 => k H1 q e1 h1
/-! ### _law_laid -/
def spLaid : Sp := fun vs H Q _ => ∃ (l p : Addr) (ns : List Int) (i : Nat) (C : Ci), vs = [.ref l, .int (i : Int), .ref p] ∧ H l = some (.lst (ns.map V.int)) ∧ i + 3 < ns.length ∧ CT H p C ∧ ∀ (H' : Hp) (q : Addr), Ex H H' → CT H' q (layN ns i C) → Q (.ref q) H'
theorem sc_laid : FnScope ["_law_numbers_here", "_law_at", "_law_circle", "_law_b", "_law_c", "_law_x", "_law_y", "_law_k", "_law_most", "_law_s", "_law_t"] ["_law_numbers_here", "_law_at", "_law_circle"] (defScope s_l_laid) := ⟨rfl, rfl, rfl, by decide +kernel, rfl, by decide +kernel, by decide +kernel⟩
theorem rotN_b : ∀ (k : Nat) (C : Ci), (rotN k C).b = C.b ∧ (rotN k C).c = C.c
  | 0, _ => ⟨rfl, rfl⟩
  | k + 1, C => rotN_b k C
theorem ok_laid (T : Txt K mg a) : Okd P w K mg base CX0 2 "_law_laid" a.l_laid ["_law_numbers_here", "_law_at", "_law_circle"] spLaid := by
  refine T.l_laid.ok sc_laid (fun vs H Q E h => ?_) (fun cdv A outer s H vs Q E hr h => ?_)
  · obtain ⟨l, p, ns, i, C, rfl, _⟩ := h
    rfl
  · obtain ⟨l, p, ns, i, C, rfl, hl, hi, hC, k⟩ := h
    have nd := sc_laid.nd
    refine ⟨_, pss_cons (ps_asg (pv 2) (pg_tup (by rfl) (pgs_cons (pg_name (i := 3) nd rfl (.inl rfl)) (pgs_cons (pg_name (i := 4) nd rfl (.inl rfl)) (pgs_cons (pg_name (i := 5) nd rfl (.inl rfl)) (pgs_cons (pg_name (i := 6) nd rfl (.inl rfl)) pgs_nil))))))
      (pss_cons (ps_for PassesOwn.never rfl (pi_range1 (by rfl) T.b_range (pa_cons (pe_op op_mod (pe_callTy call_int1 (by rfl) T.b_int (by decide +kernel) (pa_cons (pe_ix ix_list (pv 0) (pv 1) (fun _ _ => rfl)) pa_nil)) pe_int) pa_nil)) (pg_name (i := 7) nd rfl (.inl rfl))
        (pss_one (ps_par (i := 5) (j := 6) (by rfl) nd rfl rfl (by decide) rfl rfl (pa_cons (pe_op op_sub pe_int (pv 6)) (pa_cons (pv 5) pa_nil)) (by rfl))))
      (pss_cons (ps_if (pt_cmpR op_eq (pe_op op_mod (pe_op op_fdiv (pe_callTy call_int1 (by rfl) T.b_int (by decide +kernel) (pa_cons (pe_ix ix_list (pv 0) (pv 1) (fun _ _ => rfl)) pa_nil)) pe_int) pe_int) pe_int (nomark _)) (pss_one (ps_set (i := 5) nd rfl (.inl rfl) (pe_op op_sub pe_int (pv 5)))) pss_nil)
      (pss_cons (ps_set (i := 8) nd rfl (.inl rfl) (pe_ix ix_list (pe_lst (pa_cons pe_int (pa_cons pe_int (pa_cons pe_int pa_nil)))) (pe_op op_mod (pe_callTy call_int1 (by rfl) T.b_int (by decide +kernel) (pa_cons (pe_ix ix_list (pv 0) (pe_op op_add (pv 1) pe_int) (fun _ _ => rfl)) pa_nil)) pe_int) (fun _ _ => rfl)))
      (pss_cons (ps_set (i := 9) nd rfl (.inl rfl) (pe_op op_sub (pe_op op_mod (pe_callTy call_int1 (by rfl) T.b_int (by decide +kernel) (pa_cons (pe_ix ix_list (pv 0) (pe_op op_add (pv 1) pe_int) (fun _ _ => rfl)) pa_nil)) (pe_op op_add (pe_op op_mul pe_int (pv 8)) pe_int)) (pv 8)))
      (pss_cons (ps_set (i := 10) nd rfl (.inl rfl) (pe_op op_sub (pe_op op_mod (pe_callTy call_int1 (by rfl) T.b_int (by decide +kernel) (pa_cons (pe_ix ix_list (pv 0) (pe_op op_add (pv 1) pe_int) (fun _ _ => rfl)) pa_nil)) (pe_op op_add (pe_op op_mul pe_int (pv 8)) pe_int)) (pv 8)))
      (pss_one (ps_ret (pe_c (ok_moved T) hr pass0 (pa_cons (pe_tup (pa_cons (pv 3) (pa_cons (pv 4) (pa_cons (pv 5) (pa_cons (pv 6) pa_nil))))) (pa_cons (pv 9) (pa_cons (pv 10) pa_nil))))))))))), ?_⟩
    have n0 : ∀ {σ : L2.St} {H' : Hp}, σ[0]? = some (some (.ref l)) → σ[1]? = some (some (.int (i : Int))) → Ex H H' → Ev (tCB rInt1 (tCons (tOp (rIxL K) (tVar 0) (tVar 1)) tNil)) σ H' (.int (nth ns i)) := fun {σ H'} h0 h1 e => ev_int (ev_ixL (ev_var h0) (ev_var h1) (e _ _ hl) (nth_at (by omega)))
    have nj : ∀ (j : Nat) {σ : L2.St} {H' : Hp}, j ≤ 3 → σ[0]? = some (some (.ref l)) → σ[1]? = some (some (.int (i : Int))) → Ex H H' → Ev (tCB rInt1 (tCons (tOp (rIxL K) (tVar 0) (tOp rAdd (tVar 1) (tC (.int (j : Int))))) tNil)) σ H' (.int (nth ns (i + j))) := fun j {σ H'} hj h0 h1 e => ev_int (ev_ixL (ev_var h0) (ev_add (ev_var h1) ev_c) (e _ _ hl) (by
      have := nth_at (ns := ns) (i := i + j) (by omega)
      rw [Int.natCast_add] at this
      exact this))
    refine ⟨_, rfl, p, _, rfl, SqT.of hC, rfl, _, _, rfl, _, _, rfl, _, _, rfl, _, _, rfl, rfl, ?_⟩
    have h4 := Int.emod_nonneg (nth ns i) (show (4 : Int) ≠ 0 by decide)
    have h4' := Int.emod_lt_of_pos (nth ns i) (show (0 : Int) < 4 by decide)
    refine q_forR1 (n := nth ns i % 4) (ea_cons (ev_mod (n0 rfl rfl (Ex.refl _)) ev_c (by decide)) ea_nil) ⟨h4, by omega⟩ (fun j σ' H' => (∃ v, σ' = [some (.ref l), some (.int (i : Int)), some (.ref p), some (.int C.b), some (.int C.c), some (.int (rotN j C).x), some (.int (rotN j C).y), v, none, none, none]) ∧ Ex H H')
      (fun H1 e1 => ⟨⟨none, rfl⟩, e1⟩) ?_ ?_
    · rintro j σ' H' hj ⟨⟨v, rfl⟩, e1⟩
      exact (ea_cons (ev_sub ev_c (ev_var rfl)) (ea_cons (ev_var rfl) ea_nil)) H' (Ex.refl _) _ fun H2 e2 => ⟨_, _, rfl, ⟨_, rfl⟩, e1.trans e2⟩
    · rintro σ' H1 ⟨⟨v, rfl⟩, e1⟩
      refine q_ifAsg (v := .int (flipB (lf (nth ns i)) (rotN (lk (nth ns i)) C)).x) (et_test (ev_eqI (ev_mod (ev_fdiv (n0 rfl rfl e1) ev_c ⟨by decide, by decide⟩) ev_c (by decide)) ev_c)) (fun z => ?_) (fun z => ?_) fun H2 e2 => ?_
      · have ef : lf (nth ns i) = true := z
        refine ev_is (ev_sub ev_c (ev_var rfl)) (congrArg V.int ?_)
        rw [ef]
        rfl
      · have ef : lf (nth ns i) = false := z
        rw [ef]
        rfl
      · have e12 := e1.trans e2
        refine q_asg (v := .int (lmost (nth ns (i + 1)))) (ev_opL1 (xs := [.int 0, .int 9, .int 1009]) (y := .int (nth ns (i + 1) % 3)) (el_lst (ea_cons ev_c (ea_cons ev_c (ea_cons ev_c ea_nil))) (show 3 ≤ 100000 by decide)) (fun H3 e3 => ev_mod (nj 1 (by decide) rfl rfl (e12.trans e3)) ev_c (by decide)) (fun q H3 hq e3 => rv_ixL (SqL.of hq) (most_at _))) fun H3 e3 => ?_
        have e13 := e12.trans e3
        have lb := lmost_bd (nth ns (i + 1))
        refine q_asg (v := .int (ls (nth ns (i + 1)) (nth ns (i + 2)))) (ev_sub (ev_mod (nj 2 (by decide) rfl rfl e13) (ev_add (ev_mulL ev_c (ev_var rfl) (by decide)) ev_c) (by omega)) (ev_var rfl)) fun H4 e4 => ?_
        refine q_asg (v := .int (ls (nth ns (i + 1)) (nth ns (i + 3)))) (ev_sub (ev_mod (nj 3 (by decide) rfl rfl (e13.trans e4)) (ev_add (ev_mulL ev_c (ev_var rfl) (by decide)) ev_c) (by omega)) (ev_var rfl)) fun H5 e5 => ?_
        have e15 := (e13.trans e4).trans e5
        refine s_retCU (xs := CiV (flipB (lf (nth ns i)) (rotN (lk (nth ns i)) C))) (x := .int (ls (nth ns (i + 1)) (nth ns (i + 2)))) (y := .int (ls (nth ns (i + 1)) (nth ns (i + 3)))) (eu_tup (ea4 (C := flipB (lf (nth ns i)) (rotN (lk (nth ns i)) C)) (ev_var ?_) (ev_var ?_) (ev_var ?_) (ev_var ?_)) (show 4 ≤ 100000 by decide)) rfl rfl fun q H6 hq e6 h6 => ⟨q, _, _, _, rfl, h6, ls_bd _ _, ls_bd _ _, fun H7 q' e7 h7 => k H7 q' ((e15.trans e6).trans e7) h7⟩
        · have : (flipB (lf (nth ns i)) (rotN (lk (nth ns i)) C)).b = C.b := by
            rw [← (rotN_b (lk (nth ns i)) C).1]
            cases lf (nth ns i) <;> rfl
          rw [this]
          rfl
        · have : (flipB (lf (nth ns i)) (rotN (lk (nth ns i)) C)).c = C.c := by
            rw [← (rotN_b (lk (nth ns i)) C).2]
            cases lf (nth ns i) <;> rfl
          rw [this]
          rfl
        · rfl
        · have : (flipB (lf (nth ns i)) (rotN (lk (nth ns i)) C)).y = (rotN (lk (nth ns i)) C).y := by
            cases lf (nth ns i) <;> rfl
          rw [this]
          rfl
end
end K64


namespace K64
open PySem PySem.Spec PyProof.Rows L2 Evl
def wL (w : List Nat) : List V := w.map (fun k : Nat => V.int (k : Int))
theorem wL_at {w : List Nat} {i : Nat} {x : V} (h : (wL w)[i]? = some x) : ∃ k, w[i]? = some k ∧ x = .int (k : Int) := by
  unfold wL at h
  rw [List.getElem?_map] at h
  cases e : w[i]? with
  | none => rw [e] at h; cases h
  | some k => rw [e] at h; exact ⟨k, rfl, (Option.some.inj h).symm⟩
theorem wL_len (w : List Nat) : (wL w).length = w.length := by unfold wL; rw [List.length_map]
def qScope : Scope := { kind := .function, names := [(".0", .local), ("_law_part", .cell), ("sum", .globalImplicit), ("_law_circles", .free), ("_law_k", .free)], isGenerator := false, isCoroutine := false, more := [] }
theorem CT4.set {H : Hp} {l a1 a2 a3 a4 q : Addr} {xs ys : List V} {F : Fo} {k : Nat} {C : Ci} (hk : k < 4) (hC : CT4 H a1 a2 a3 a4 F) (hq : CT H q C) (hl : H l = some (.lst xs)) :
    ∃ b1 b2 b3 b4, (R4 a1 a2 a3 a4).set k (.ref q) = R4 b1 b2 b3 b4 ∧ CT4 (upd H l (.lst ys)) b1 b2 b3 b4 (F.set k C) := by
  have kp : ∀ {b : Addr} {D : Ci}, CT H b D → CT (upd H l (.lst ys)) b D := fun {b D} h => by
    unfold CT at *
    rw [upd_ne (ne_of h hl (by intro z; cases z))]
    exact h
  rcases four_cases hk with rfl | rfl | rfl | rfl
  · exact ⟨_, _, _, _, rfl, kp hq, kp hC.2.1, kp hC.2.2.1, kp hC.2.2.2⟩
  · exact ⟨_, _, _, _, rfl, kp hC.1, kp hq, kp hC.2.2.1, kp hC.2.2.2⟩
  · exact ⟨_, _, _, _, rfl, kp hC.1, kp hC.2.1, kp hq, kp hC.2.2.2⟩
  · exact ⟨_, _, _, _, rfl, kp hC.1, kp hC.2.1, kp hC.2.2.1, kp hq⟩
section
variable {P : Program} {w : World} {K : PySem.W.Frag} {mg : Str → Option Value} {base : Heap} {a : Ad}
/-! ### _law_other -/
def spOthL : Sp := fun vs H Q _ => ∃ (l : Addr) (F : Fo) (k : Nat), vs = [.ref l, .int (k : Int)] ∧ k < 4 ∧ LFo H l F ∧ ∀ (H' : Hp) (p : Addr), Ex H H' → CT H' p (oth F k) → Q (.ref p) H'
theorem sc_othL : FnScope ["_law_circles", "_law_k", "_law_circle", "_law_part"] ["_law_circles", "_law_k"] (defScope s_l_other) := ⟨rfl, rfl, rfl, by decide +kernel, rfl, by decide +kernel, by decide +kernel⟩
theorem ok_othL (T : Txt K mg a) : Okd P w K mg base CX0 1 "_law_other" a.l_other ["_law_circles", "_law_k"] spOthL := by
  refine T.l_other.ok sc_othL (fun vs H Q E h => ?_) (fun cdv A outer s H vs Q E hr h => ?_)
  · obtain ⟨l, F, k, rfl, _⟩ := h
    rfl
  · obtain ⟨l, F, k, rfl, hk, ⟨a1, a2, a3, a4, hl, hC⟩, q⟩ := h
    have nd := sc_othL.nd
    refine ⟨_, pss_one (ps_ret (pe_callTy call_tuple_of (by rfl) T.b_tuple (by decide +kernel) (pa_cons (pe_lc (own := [("_law_part", 3)]) (g := gName 3) (tt := tYes) rfl nd (pi_range1 (by rfl) T.b_range (pa_cons pe_int pa_nil)) (blkOk_by (N := ["_law_circles", "_law_k", "_law_circle", "_law_part"]) (sc := defScope s_l_other) (by decide +kernel)) (fun _ _ _ _ _ => pg_name (i := 3) nd rfl (.inr rfl)) (fun _ _ _ _ _ => pts_nil)
        (fun _ _ _ _ _ => pe_op op_sub (pe_op op_mul pe_int (pe_callB (id := "sum") (r := rSum K) (cr_sum rfl) (by rfl) T.b_sum (by decide +kernel) (pa_cons (pe_lc (own := [("_law_circle", 2)]) (wi := iList K (tVar 0)) (g := gName 2) (tt := tYes) rfl nd (pi_list (pv 0)) (blkOk_by (N := ["_law_circles", "_law_k", "_law_circle", "_law_part"]) (sc := relS qScope (defScope s_l_other)) (by decide +kernel)) (fun _ _ _ _ _ => pg_name (i := 2) nd rfl (.inl rfl)) (fun _ _ _ _ _ => pts_nil)
            (fun _ _ _ _ _ => pe_ix (r := rIxT K) ix_tup (pv 2) (pv 3) (fun _ _ => rfl))) pa_nil)))
          (pe_op op_mul pe_int (pe_ix (r := rIxT K) ix_tup (pe_ix (r := rIxL K) ix_list (pv 0) (pv 1) (fun _ _ => rfl)) (pv 3) (fun _ _ => rfl))))) pa_nil))), ?_⟩
    refine s_retU (xs := CiV (oth F k)) (eu_tupL (el_is (el_lcR1 (n := 4) (fun _ => true) (fun i => .int ((oth F k).part i)) (ea_cons ev_c ea_nil) (by decide) (fun _ => rfl) (fun _ _ _ _ => et_yes rfl) (fun i H2 e2 hi _ => ?_)) rfl)) fun p H3 hp e3 h3 => q H3 p e3 h3
    have hi4 : i < 4 := by omega
    have sm := ev_sumL (K := K) (ns := [F.a.part i, F.b.part i, F.c.part i, F.d.part i]) (el_is (el_lcL (K := K) (σ := [some (.ref l), some (.int (k : Int)), none, some (.int (i : Int))]) (H := H2) (tl := tVar 0) (j := 2) (vs := [2]) (t := tYes) (te := tOp (rIxT K) (tVar 2) (tVar 3)) (xs := R4 a1 a2 a3 a4) (fun _ => true) (fun j => .int ((F.get j).part i)) (ev_var rfl) (SqL.of (e2 _ _ hl)) (show 4 ≤ 40000 by decide) (fun _ => rfl) (fun _ _ _ _ _ => et_yes rfl) (fun j x H3 e3 hx _ => by
      obtain ⟨hj, rfl⟩ := adr_get hx
      exact ev_ixT (ev_var rfl) (ev_var rfl) ((e2.trans e3) _ _ (hC.at hj)) (part_at hi4))) rfl)
    refine ev_is (ev_sub (ev_mulL ev_c sm (by decide)) (ev_mulL ev_c (ev_ixT (ev_ixL (v := .ref (adr a1 a2 a3 a4 k)) (ev_var rfl) (ev_var rfl) (e2 _ _ hl) ?_) (ev_var rfl) (e2 _ _ (hC.at hk)) (part_at hi4)) (by decide))) (congrArg V.int ?_)
    · rcases four_cases hk with rfl | rfl | rfl | rfl <;> rfl
    · rcases four_cases hi4 with rfl | rfl | rfl | rfl <;> simp only [oth, Ci.part, List.sum_cons, List.sum_nil] <;> omega
/-! ### _law_fallen -/
def spFall (K : PySem.W.Frag) : Sp := fun vs H Q _ => ∃ (lc lw : Addr) (F : Fo) (w : List Nat), vs = [.ref lc, .ref lw] ∧ LFo H lc F ∧ SqL K H lw (wL w) ∧ (∀ k ∈ w, k < 4) ∧ ∀ (H' : Hp) (l : Addr), Ex H H' → LFo H' l (exFs F w) → Q (.ref l) H'
theorem sc_fall : FnScope ["_law_circles", "_law_word", "_law_found", "_law_k"] ["_law_circles", "_law_word"] (defScope s_l_fallen) := ⟨rfl, rfl, rfl, by decide +kernel, rfl, by decide +kernel, by decide +kernel⟩
theorem ok_fall (T : Txt K mg a) : Okd P w K mg base CX0 2 "_law_fallen" a.l_fallen ["_law_circles", "_law_word"] (spFall K) := by
  refine T.l_fallen.ok sc_fall (fun vs H Q E h => ?_) (fun cdv A outer s H vs Q E hr h => ?_)
  · obtain ⟨lc, lw, F, w, rfl, _⟩ := h
    rfl
  · obtain ⟨lc, lw, F, w, rfl, ⟨a1, a2, a3, a4, hl, hC⟩, hw, hw4, k⟩ := h
    have nd := sc_fall.nd
    refine ⟨_, pss_cons (ps_set (i := 2) nd rfl (.inl rfl) (pe_callTy call_list_of (by rfl) T.b_list (by decide +kernel) (pa_cons (pv 0) pa_nil)))
      (pss_cons (ps_for PassesOwn.never rfl (pi_list (pv 1)) (pg_name (i := 3) nd rfl (.inl rfl)) (pss_one (ps_asg (pe_c (ok_othL T) hr pass0 (pa_cons (pv 2) (pa_cons (pv 3) pa_nil))) (pg_sub (pv 2) (pv 3) set_list))))
      (pss_one (ps_ret (pv 2)))), ?_⟩
    refine q_asgL (xs := R4 a1 a2 a3 a4) (el_list (ev_var rfl) (SqL.of hl)) fun l H1 hnl e1 h1 => ?_
    refine q_forLn (ev_var rfl) (ex_l e1 hw) (fun i σ' H' => (∃ v, σ' = [some (.ref lc), some (.ref lw), some (.ref l), v]) ∧ Ex H H' ∧ LFo H' l (exFs F (w.take i))) (fun H2 e2 => ⟨⟨none, rfl⟩, e1.trans e2, a1, a2, a3, a4, e2 _ _ h1, hC.ex (e1.trans e2)⟩) (fun i σ' H' _ h => ex_l h.2.1 hw) ?_ ?_
    · rintro i x σ' H' hx ⟨⟨v, rfl⟩, e2, b1, b2, b3, b4, hb, hBC⟩
      obtain ⟨j, hj, rfl⟩ := wL_at hx
      have j4 := hw4 j (List.mem_of_getElem? hj)
      refine ⟨_, rfl, _, rfl, l, _, j, rfl, j4, ⟨b1, b2, b3, b4, hb, hBC⟩, fun H3 q e3 hq => ?_⟩
      refine ⟨_, rfl, _, rfl, l, _, (j : Int), j, rfl, rfl, e3 _ _ hb, ixN_nat j4, ?_⟩
      obtain ⟨c1, c2, c3, c4, ec, hc⟩ := CT4.set (ys := (R4 b1 b2 b3 b4).set j (.ref q)) j4 (hBC.ex e3) hq (e3 _ _ hb)
      refine ⟨⟨_, rfl⟩, Ex.mut (e2.trans e3) hnl, c1, c2, c3, c4, by rw [upd_same, ec], ?_⟩
      rw [exFs_take hj]
      exact hc
    · rintro σ' H' ⟨⟨v, rfl⟩, e2, hF⟩
      have ew : w.take (wL w).length = w := by rw [wL_len, List.take_length]
      rw [ew] at hF
      exact ⟨_, rfl, k H' l e2 hF⟩
end
end K64


namespace K64
open PySem PySem.Spec PyProof.Rows L2 Evl
/-! ### The four that the law draws -/
def wordN (ns : List Int) (i : Nat) (n : Nat) : List Nat := (List.range n).map fun k => (nth ns (i + k) % 4).toNat
def turnN : Nat → Fo → Fo | 0, F => F | n + 1, F => turnN n F.turn
def fourA (ns : List Int) : Fo := exFs (Fo.map (layN ns 1) (giv (nth ns 0))) (wordN ns 6 (nth ns 5 % 7).toNat)
def fourB (ns : List Int) : Fo := turnN (nth ns 12 % 4).toNat (fourA ns)
def fourOf (ns : List Int) : Fo := if nth ns 13 % 2 = 1 then (fourB ns).rev else fourB ns
theorem wordN_lt (ns : List Int) (i n : Nat) : ∀ k ∈ wordN ns i n, k < 4 := fun k h => by
  obtain ⟨j, _, rfl⟩ := List.mem_map.mp h
  omega
theorem wordN_len (ns : List Int) (i n : Nat) : (wordN ns i n).length = n := by unfold wordN; simp
theorem Drawn.exs : ∀ (w : List Nat) {n : Nat} {F : Fo} {m : Int} {L : Ci → Ci}, Drawn n F m L → (∀ k ∈ w, k < 4) → Drawn (n + w.length) (exFs F w) m L
  | [], _, _, _, _, d, _ => d
  | k :: w, n, _, _, _, d, h => by
    have := Drawn.exs w (d.ex (h k (List.mem_cons_self ..))) fun j hj => h j (List.mem_cons_of_mem _ hj)
    rw [List.length_cons, show n + (w.length + 1) = n + 1 + w.length by omega]
    exact this
theorem Drawn.turnN : ∀ (k : Nat) {n : Nat} {F : Fo} {m : Int} {L : Ci → Ci}, Drawn n F m L → Drawn n (K64.turnN k F) m L
  | 0, _, _, _, _, d => d
  | k + 1, _, _, _, _, d => Drawn.turnN k d.turn
theorem drawn_four (ns : List Int) : ∃ n L, n ≤ 6 ∧ Drawn n (fourOf ns) (nth ns 0) L := by
  have d0 : Drawn 0 (Fo.map (layN ns 1) (giv (nth ns 0))) (nth ns 0) _ := Drawn.laid (nth ns 0) (lk (nth ns 1)) (lf (nth ns 1)) _ _ (ls_bd (nth ns 2) (nth ns 3)) (ls_bd (nth ns 2) (nth ns 4))
  have d1 := d0.exs (wordN ns 6 (nth ns 5 % 7).toNat) (wordN_lt _ _ _)
  rw [wordN_len, Nat.zero_add] at d1
  have d2 := Drawn.turnN (nth ns 12 % 4).toNat d1
  by_cases z : nth ns 13 % 2 = 1
  · have e : fourOf ns = (fourB ns).rev := if_pos z
    rw [e]
    exact ⟨(nth ns 5 % 7).toNat, _, by omega, d2.rev⟩
  · have e : fourOf ns = fourB ns := if_neg z
    rw [e]
    exact ⟨(nth ns 5 % 7).toNat, _, by omega, d2⟩
def Mx (M : Int) (C : Ci) : Prop := (C.b ≤ M ∧ -C.b ≤ M) ∧ (C.c ≤ M ∧ -C.c ≤ M) ∧ (C.x ≤ M ∧ -C.x ≤ M) ∧ (C.y ≤ M ∧ -C.y ≤ M)
def MxF (M : Int) (F : Fo) : Prop := Mx M F.a ∧ Mx M F.b ∧ Mx M F.c ∧ Mx M F.d
theorem Mx.bd {n : Nat} {C : Ci} (h : Mx (2 ^ n - 1) C) : BdN n C := by
  have e : ((2 ^ n : Nat) : Int) = 2 ^ n := by simp
  obtain ⟨⟨a1, a2⟩, ⟨b1, b2⟩, ⟨c1, c2⟩, ⟨d1, d2⟩⟩ := h
  refine ⟨?_, ?_, ?_, ?_⟩ <;> omega
theorem mx_rotN {M : Int} : ∀ (k : Nat) {C : Ci}, Mx M C → Mx M (rotN k C)
  | 0, _, h => h
  | k + 1, _, h => by
    have := mx_rotN k h
    show Mx M (rotC (rotN k _))
    generalize rotN k _ = D at this
    simp only [Mx, rotC] at *
    omega
theorem mx_flipB {M : Int} (f : Bool) {C : Ci} (h : Mx M C) : Mx M (flipB f C) := by
  cases f
  · exact h
  · unfold flipB flipC Mx at *
    simp only [if_true]
    omega
theorem mul_bd {x s A B : Int} (h1 : x ≤ A) (h2 : -x ≤ A) (h3 : s ≤ B) (h4 : -s ≤ B) : x * s ≤ A * B ∧ -(x * s) ≤ A * B := by
  have a : 0 ≤ (A - x) * (B + s) := Int.mul_nonneg (by omega) (by omega)
  have b : 0 ≤ (A + x) * (B - s) := Int.mul_nonneg (by omega) (by omega)
  have c : 0 ≤ (A - x) * (B - s) := Int.mul_nonneg (by omega) (by omega)
  have d : 0 ≤ (A + x) * (B + s) := Int.mul_nonneg (by omega) (by omega)
  constructor <;> grind
theorem mx_laid {k : Nat} {f : Bool} {s t : Int} (hs : s ≤ 1009 ∧ -s ≤ 1009) (ht : t ≤ 1009 ∧ -t ≤ 1009) {C : Ci} (h : Mx 2000 C) : Mx (2 ^ 40 - 1) (laidC k f s t C) := by
  have h1 := mx_flipB f (mx_rotN k h)
  show Mx _ (movC s t (flipB f (rotN k C)))
  generalize flipB f (rotN k C) = D at h1
  obtain ⟨⟨a1, a2⟩, ⟨b1, b2⟩, ⟨c1, c2⟩, ⟨d1, d2⟩⟩ := h1
  have p1 := mul_bd c1 c2 hs.1 hs.2
  have p2 := mul_bd d1 d2 ht.1 ht.2
  have p3 := mul_bd a1 a2 hs.1 hs.2
  have p4 := mul_bd a1 a2 ht.1 ht.2
  have q1 := sq_small hs.1 hs.2
  have q2 := sq_small ht.1 ht.2
  have q3 := sq_nonneg s
  have q4 := sq_nonneg t
  have p5 := mul_bd a1 a2 (s := s*s+t*t) (B := 2036162) (by omega) (by omega)
  unfold Mx movC
  simp only
  omega
theorem giv_mx (m : Int) {i : Nat} (hi : i < 4) : Mx 2000 ((giv m).get i) := by
  unfold Mx
  rcases giv_cases m with h | h | h | ⟨n, h0, h40, h⟩ <;> rw [h]
  · rcases four_cases hi with rfl | rfl | rfl | rfl <;> decide
  · rcases four_cases hi with rfl | rfl | rfl | rfl <;> decide
  · rcases four_cases hi with rfl | rfl | rfl | rfl <;> decide
  · have : n * (n+1) ≤ 40 * 41 := by
      have a : n * (n+1) ≤ n * 41 := Int.mul_le_mul_of_nonneg_left (by omega) h0
      omega
    have : 0 ≤ n * (n+1) := Int.mul_nonneg h0 (by omega)
    rcases four_cases hi with rfl | rfl | rfl | rfl <;> simp only [gen, Fo.get] <;> omega
theorem MxF.ex {M : Int} {F : Fo} (h : MxF M F) {k : Nat} (hk : k < 4) : MxF (11 * M) (exF F k) := by
  obtain ⟨h1, h2, h3, h4⟩ := h
  have up : ∀ {C : Ci}, Mx M C → Mx (11 * M) C := fun {C} h => by unfold Mx at *; omega
  have ho : ∀ {C : Ci}, Mx M C → Mx (11 * M) ⟨2*(F.a.b+F.b.b+F.c.b+F.d.b) - 3*C.b, 2*(F.a.c+F.b.c+F.c.c+F.d.c) - 3*C.c, 2*(F.a.x+F.b.x+F.c.x+F.d.x) - 3*C.x, 2*(F.a.y+F.b.y+F.c.y+F.d.y) - 3*C.y⟩ := fun {C} h => by
    unfold Mx at *
    simp only
    omega
  rcases four_cases hk with rfl | rfl | rfl | rfl
  · exact ⟨ho h1, up h2, up h3, up h4⟩
  · exact ⟨up h1, ho h2, up h3, up h4⟩
  · exact ⟨up h1, up h2, ho h3, up h4⟩
  · exact ⟨up h1, up h2, up h3, ho h4⟩
theorem Drawn.mx {n : Nat} {F : Fo} {m : Int} {L : Ci → Ci} (h : Drawn n F m L) : MxF (11 ^ n * (2 ^ 40 - 1)) F := by
  induction h with
  | laid m k f s t hs ht =>
    rw [Int.pow_zero, Int.one_mul]
    exact ⟨mx_laid hs ht (giv_mx m (i := 0) (by decide)), mx_laid hs ht (giv_mx m (i := 1) (by decide)), mx_laid hs ht (giv_mx m (i := 2) (by decide)), mx_laid hs ht (giv_mx m (i := 3) (by decide))⟩
  | @ex n F m L k d hk ih =>
    have := ih.ex hk
    rw [Int.pow_succ, Int.mul_comm (11 ^ n) 11, Int.mul_assoc]
    exact this
  | turn _ ih => exact ⟨ih.2.1, ih.2.2.1, ih.2.2.2, ih.1⟩
  | rev _ ih => exact ⟨ih.2.2.2, ih.2.2.1, ih.2.1, ih.1⟩
theorem MxF.bd {n : Nat} {F : Fo} (h : MxF (2 ^ n - 1) F) : BdF n F := ⟨h.1.bd, h.2.1.bd, h.2.2.1.bd, h.2.2.2.bd⟩
theorem Mx.le {M N : Int} {C : Ci} (h : Mx M C) (e : M ≤ N) : Mx N C := by unfold Mx at *; omega
theorem MxF.le {M N : Int} {F : Fo} (h : MxF M F) (e : M ≤ N) : MxF N F := ⟨h.1.le e, h.2.1.le e, h.2.2.1.le e, h.2.2.2.le e⟩
theorem pow11_le : ∀ n : Nat, (11 : Int) ^ n ≤ 16 ^ n
  | 0 => by decide
  | n + 1 => by
    have := pow11_le n
    have : (0 : Int) ≤ 11 ^ n := Int.pow_nonneg (by decide)
    rw [Int.pow_succ, Int.pow_succ]
    omega
theorem Drawn.bd {n : Nat} {F : Fo} {m : Int} {L : Ci → Ci} (h : Drawn n F m L) (hn : n ≤ 14) : BdF 100 F := by
  refine MxF.bd (h.mx.le ?_)
  have : (11 : Int) ^ n ≤ 11 ^ 14 := by
    obtain ⟨k, hk⟩ : ∃ k, 14 = n + k := ⟨14 - n, by omega⟩
    rw [hk, Int.pow_add]
    have a : (0 : Int) ≤ 11 ^ n := Int.pow_nonneg (by decide)
    have b : (0 : Int) < 11 ^ k := Int.pow_pos (by decide)
    have := Int.mul_le_mul_of_nonneg_left (show (1 : Int) ≤ 11 ^ k by omega) a
    omega
  have c : (11 : Int) ^ 14 * (2 ^ 40 - 1) ≤ 2 ^ 100 - 1 := by decide +kernel
  have d : (11 : Int) ^ n * (2 ^ 40 - 1) ≤ 11 ^ 14 * (2 ^ 40 - 1) := Int.mul_le_mul_of_nonneg_right this (by decide)
  omega
/-! ### lists of four made in a comprehension, lists put together -/
section
variable {K : PySem.W.Frag} {σ : L2.St} {H : Hp}
def GoF (te : TE) (σ : L2.St) (H : Hp) (F : Fo) : Prop := ∀ H1, Ex H H1 → ∀ Q : VK, (∀ l H2, Ex H1 H2 → LFo H2 l F → Q (.ref l) H2) → te σ H1 Q
def GoC (te : TE) (σ : L2.St) (H : Hp) (C : Ci) : Prop := ∀ H1, Ex H H1 → ∀ Q : VK, (∀ q H2, Ex H1 H2 → CT H2 q C → Q (.ref q) H2) → te σ H1 Q
theorem go_lc4 {tl te : TE} {j : Nat} {vs : List Nat} {F : Fo} (g : Nat → Ci) (h : GoF tl σ H F) (hw : ∀ x, wipe ((wipe σ vs).set j (some x)) vs = wipe σ vs)
    (he : ∀ i a H1, i < 4 → Ex H H1 → CT H1 a (F.get i) → GoC te ((wipe σ vs).set j (some (.ref a))) H1 (g i)) : GoF (tLc (iList K tl) (gName j) tYes te vs) σ H ⟨g 0, g 1, g 2, g 3⟩ := fun H0 e Q q => h H0 e _ fun l H1 e1 ⟨a1, a2, a3, a4, hl, hC⟩ => ⟨l, rfl, ⟨_, SqL.of hl⟩, fun Dl hD => by
  refine lc_list (xs := R4 a1 a2 a3 a4) (fun i H' => Ex H1 H' ∧ ∃ f : Nat → Addr, H' Dl = some (.lst ((List.range i).map fun j => .ref (f j))) ∧ ∀ j, j < i → CT H' (f j) (g j)) ⟨Ex.new hD, fun _ => 0, upd_same, fun j hj => absurd hj (Nat.not_lt_zero _)⟩ (fun i H' _ p => SqL.of (p.1 _ _ hl)) ?_ ?_
  · rintro i x H' hx ⟨e2, f, hf, hg⟩
    obtain ⟨hi, rfl⟩ := adr_get hx
    refine ⟨hw _, ?_⟩
    unfold tYes
    refine iteT ?_
    refine (he i _ H' hi ((e.trans e1).trans e2) ((hC.ex e2).at hi) H' (Ex.refl _) _ fun q H3 e3 hq => ⟨_, e3 _ _ hf, sz_lt (by simp; omega), Ex.mut (e2.trans e3) hD, fun j => if j = i then q else f j, ?_, ?_⟩)
    · rw [upd_same, List.range_succ, List.map_append]
      congr 2
      congr 1
      · exact List.map_congr_left fun j hj => by simp only; rw [if_neg (by have := List.mem_range.mp hj; omega)]
      · simp
    · intro j hj
      have kp : ∀ {b : Addr} {D : Ci}, CT H3 b D → CT (upd H3 Dl (.lst (((List.range i).map fun j => V.ref (f j)) ++ [.ref q]))) b D := fun {b D} h => by
        unfold CT at *
        rw [upd_ne (ne_of h (e3 _ _ hf) (by intro z; cases z))]
        exact h
      by_cases z : j = i
      · subst z
        simp only [if_pos]
        exact kp hq
      · simp only [if_neg z]
        exact kp ((hg j (by omega)).ex e3)
  · rintro H' ⟨e2, f, hf, hg⟩
    exact q Dl H' (e1.trans e2) ⟨f 0, f 1, f 2, f 3, hf, hg 0 (Nat.lt_of_lt_of_eq (by decide : 0 < 4) rfl), hg 1 (Nat.lt_of_lt_of_eq (by decide : 1 < 4) rfl), hg 2 (Nat.lt_of_lt_of_eq (by decide : 2 < 4) rfl), hg 3 (Nat.lt_of_lt_of_eq (by decide : 3 < 4) rfl)⟩⟩
theorem el_cat {ta tb : TE} {xs ys : List V} (ha : EvL ta σ H xs) (hb : EvL tb σ H ys) (hz : xs.length + ys.length ≤ 100000) : EvL (tOp rCat ta tb) σ H (xs ++ ys) := fun H1 e Q k =>
  ha H1 e _ fun p H2 hp0 e2 hp => hb H2 (e.trans e2) _ fun q H3 hq0 e3 hq => ⟨p, q, xs, ys, rfl, rfl, e3 _ _ hp, hq, sz_of hz, fun l hl => k l _ (fresh_back (e2.trans e3) hl) ((e2.trans e3).trans (Ex.new hl)) upd_same⟩
theorem el_rev {ta : TE} {l : Addr} {xs : List V} (ha : Ev ta σ H (.ref l)) (h : SqL K H l xs) : EvL (tRevL K ta) σ H xs.reverse := fun H1 e Q k =>
  ha H1 e _ fun H2 e2 => ⟨l, xs, rfl, ex_l (e.trans e2) h, fun p hp => k p _ (fresh_back e2 hp) (e2.trans (Ex.new hp)) upd_same⟩
theorem q_asgF {tl : TE} {F : Fo} {i : Nat} {tz : TS} {D : L2.Ends} (h : GoF tl σ H F) (k : ∀ l H1, Ex H H1 → LFo H1 l F → tz D (σ.set i (some (.ref l))) H1) : tSeq (tAsg tl (gName i)) tz D σ H := h H (Ex.refl H) _ fun l H1 e hl => k l H1 e hl
end
theorem cut_turn (a1 a2 a3 a4 : Addr) {t : Int} (h0 : 0 ≤ t) (h4 : t < 4) {H : Hp} {F : Fo} (hC : CT4 H a1 a2 a3 a4 F) : ∃ b1 b2 b3 b4, cutV (R4 a1 a2 a3 a4) (some t) none ++ cutV (R4 a1 a2 a3 a4) none (some t) = R4 b1 b2 b3 b4 ∧ CT4 H b1 b2 b3 b4 (turnN t.toNat F) := by
  have hk : t = 0 ∨ t = 1 ∨ t = 2 ∨ t = 3 := by omega
  obtain ⟨c1, c2, c3, c4⟩ := hC
  rcases hk with rfl | rfl | rfl | rfl
  · exact ⟨a1, a2, a3, a4, rfl, c1, c2, c3, c4⟩
  · exact ⟨a2, a3, a4, a1, rfl, c2, c3, c4, c1⟩
  · exact ⟨a3, a4, a1, a2, rfl, c3, c4, c1, c2⟩
  · exact ⟨a4, a1, a2, a3, rfl, c4, c1, c2, c3⟩
theorem wordN_given (ns : List Int) (i n : Nat) : given n (fun _ => true) (fun k => V.int (nth ns (i + k) % 4)) = wL (wordN ns i n) := by
  unfold given wL wordN
  rw [List.filter_eq_self.mpr (fun _ _ => rfl), List.map_map]
  refine List.map_congr_left fun k _ => ?_
  have := Int.emod_nonneg (nth ns (i + k)) (show (4 : Int) ≠ 0 by decide)
  show V.int _ = V.int (((nth ns (i + k) % 4).toNat : Nat) : Int)
  rw [Int.toNat_of_nonneg this]
section
variable {P : Program} {w : World} {K : PySem.W.Frag} {mg : Str → Option Value} {base : Heap} {a : Ad}
/-! ### _law_four -/
def spFour : Sp := fun vs H Q _ => ∃ (l : Addr) (ns : List Int), vs = [.ref l, .int 0] ∧ H l = some (.lst (ns.map V.int)) ∧ ns.length = 60 ∧ ∀ (H' : Hp) (q : Addr), Ex H H' → LFo H' q (fourOf ns) → Q (.ref q) H'
theorem sc_four : FnScope ["_law_numbers_here", "_law_at", "_law_circles", "_law_word", "_law_turn", "_law_circle", "_law_k"] ["_law_numbers_here", "_law_at"] (defScope s_l_four) := ⟨rfl, rfl, rfl, by decide +kernel, rfl, by decide +kernel, by decide +kernel⟩
theorem ok_four (T : Txt K mg a) : Okd P w K mg base CX0 3 "_law_four" a.l_four ["_law_numbers_here", "_law_at"] spFour := by
  refine T.l_four.ok sc_four (fun vs H Q E h => ?_) (fun cdv A outer s H vs Q E hr h => ?_)
  · obtain ⟨l, ns, rfl, _⟩ := h
    rfl
  · obtain ⟨l, ns, rfl, hl, hn, k⟩ := h
    have nd := sc_four.nd
    refine ⟨_, pss_cons (ps_setLc (i := 2) rfl nd rfl rfl (by rfl) (own := [("_law_circle", 5)]) (g := gName 5) (tt := tYes) (pi_list (pe_c (ok_given T) (hr.mono (by decide)) pass0 (pa_cons (pe_ix (r := rIxL K) ix_list (pv 0) (pv 1) (fun _ _ => rfl)) pa_nil))) (blkOk_by (N := ["_law_numbers_here", "_law_at", "_law_circles", "_law_word", "_law_turn", "_law_circle", "_law_k"]) (sc := defScope s_l_four) (by decide +kernel)) (fun _ _ _ _ _ => pg_name (i := 5) nd rfl (.inl rfl)) (fun _ _ _ _ _ => pts_nil)
        (fun _ _ _ _ _ => pe_c (ok_laid T) hr pass0 (pa_cons (pv 0) (pa_cons (pe_op op_add (pv 1) pe_int) (pa_cons (pv 5) pa_nil)))))
      (pss_cons (ps_setLc (i := 3) rfl nd rfl rfl (by rfl) (own := [("_law_k", 6)]) (g := gName 6) (tt := tYes) (pi_range1 (by rfl) T.b_range (pa_cons (pe_op op_mod (pe_callTy call_int1 (by rfl) T.b_int (by decide +kernel) (pa_cons (pe_ix (r := rIxL K) ix_list (pv 0) (pe_op op_add (pv 1) pe_int) (fun _ _ => rfl)) pa_nil)) pe_int) pa_nil)) (blkOk_by (N := ["_law_numbers_here", "_law_at", "_law_circles", "_law_word", "_law_turn", "_law_circle", "_law_k"]) (sc := defScope s_l_four) (by decide +kernel)) (fun _ _ _ _ _ => pg_name (i := 6) nd rfl (.inl rfl)) (fun _ _ _ _ _ => pts_nil)
        (fun _ _ _ _ _ => pe_op op_mod (pe_callTy (T := "int") (r := rInt1) call_int1 (by rfl) T.b_int (by decide +kernel) (pa_cons (pe_ix (r := rIxL K) ix_list (pv 0) (pe_op op_add (pe_op op_add (pv 1) pe_int) (pv 6)) (fun _ _ => rfl)) pa_nil)) pe_int))
      (pss_cons (ps_set (i := 2) nd rfl (.inl rfl) (pe_c (ok_fall T) hr pass0 (pa_cons (pv 2) (pa_cons (pv 3) pa_nil))))
      (pss_cons (ps_set (i := 4) nd rfl (.inl rfl) (pe_op op_mod (pe_callTy call_int1 (by rfl) T.b_int (by decide +kernel) (pa_cons (pe_ix (r := rIxL K) ix_list (pv 0) (pe_op op_add (pv 1) pe_int) (fun _ _ => rfl)) pa_nil)) pe_int))
      (pss_cons (ps_set (i := 2) nd rfl (.inl rfl) (pe_op op_cat (pe_slice sl_list (pv 2) (po_some (pv 4)) po_none) (pe_slice sl_list (pv 2) po_none (po_some (pv 4)))))
      (pss_cons (ps_if (pt_cmpR op_eq (pe_op op_mod (pe_callTy call_int1 (by rfl) T.b_int (by decide +kernel) (pa_cons (pe_ix (r := rIxL K) ix_list (pv 0) (pe_op op_add (pv 1) pe_int) (fun _ _ => rfl)) pa_nil)) pe_int) pe_int (nomark _)) (pss_one (ps_set (i := 2) nd rfl (.inl rfl) (pe_revL (pv 2)))) pss_nil)
      (pss_one (ps_ret (pv 2)))))))), ?_⟩
    have nj : ∀ (j : Nat) {σ : L2.St} {H' : Hp}, j < 60 → σ[0]? = some (some (.ref l)) → σ[1]? = some (some (.int 0)) → Ex H H' → Ev (tCB rInt1 (tCons (tOp (rIxL K) (tVar 0) (tOp rAdd (tVar 1) (tC (.int (j : Int))))) tNil)) σ H' (.int (nth ns j)) := fun j {σ H'} hj h0 h1 e => ev_int (ev_ixL (ev_var h0) (ev_add (ev_var h1) ev_c) (e _ _ hl) (by
      have := nth_at (ns := ns) (i := j) (by omega)
      rw [Int.zero_add]
      exact this))
    have g1 : GoF (tLc (iList K (tCall spGiven [] E0 (tCons (tOp (rIxL K) (tVar 0) (tVar 1)) tNil))) (gName 5) tYes (tCall spLaid [] E0 (tCons (tVar 0) (tCons (tOp rAdd (tVar 1) (tC (.int 1))) (tCons (tVar 5) tNil)))) [5]) [some (.ref l), some (.int 0), none, none, none, none, none] H (Fo.map (layN ns 1) (giv (nth ns 0))) := by
      refine go_lc4 (F := giv (nth ns 0)) (fun i => layN ns 1 ((giv (nth ns 0)).get i)) (fun H1 e1 Q q => ?_) (fun _ => rfl) (fun i b H1 hi e1 hb H2 e2 Q q => ?_)
      · refine (ev_ixL (ev_var rfl) (ev_var rfl) (e1 _ _ hl) (nth_at (ns := ns) (i := 0) (by omega))) H1 (Ex.refl _) _ fun H2 e2 => ⟨_, rfl, fun H' q' e' h' => q q' H' (e2.trans e') h'⟩
      · exact ⟨_, rfl, _, rfl, _, _, rfl, rfl, _, rfl, l, b, ns, 1, _, rfl, (e1.trans e2) _ _ hl, by omega, hb.ex e2, fun H' q' e' h' => q q' H' e' h'⟩
    refine q_asgF g1 fun l1 H1 e1 hF1 => ?_
    refine q_asgL (xs := wL (wordN ns 6 (nth ns 5 % 7).toNat)) (el_is (el_lcR1 (n := nth ns 5 % 7) (fun _ => true) (fun k => .int (nth ns (6 + k) % 4)) (ea_cons (ev_mod (nj 5 (by decide) rfl rfl e1) ev_c (by decide)) ea_nil) (by omega) (fun _ => rfl) (fun _ _ _ _ => et_yes rfl) (fun i H2 e2 hi _ => ?_)) (wordN_given ns 6 _)) fun lw H2 _ e2 hw => ?_
    · refine ev_mod (ev_int (ev_ixL (ev_var rfl) (ev_add (ev_add (ev_var rfl) ev_c) (ev_var rfl)) ((e1.trans e2) _ _ hl) ?_)) ev_c (by decide)
      have := nth_at (ns := ns) (i := 6 + i) (by omega)
      rw [Int.natCast_add] at this
      rw [Int.zero_add]
      exact this
    · refine q_asgF (F := fourA ns) (fun H3 e3 Q q => ⟨_, rfl, _, rfl, l1, lw, _, _, rfl, hF1.ex (e2.trans e3), SqL.of (e3 _ _ hw), wordN_lt _ _ _, fun H' q' e' h' => q q' H' e' h'⟩) fun l3 H3 e3 hF3 => ?_
      have e13 := (e1.trans e2).trans e3
      refine q_asg (ev_mod (nj 12 (by decide) rfl rfl e13) ev_c (by decide)) fun H4 e4 => ?_
      obtain ⟨a1, a2, a3, a4, hl3, hC3⟩ := hF3.ex e4
      obtain ⟨b1, b2, b3, b4, eb, hB⟩ := cut_turn a1 a2 a3 a4 (t := nth ns 12 % 4) (by omega) (by omega) hC3
      refine q_asgL (xs := R4 b1 b2 b3 b4) (el_is (el_cat (el_sl (ev_var rfl) (eo_some (ev_var rfl)) eo_none (SqL.of hl3)) (el_sl (ev_var rfl) eo_none (eo_some (ev_var rfl)) (SqL.of hl3)) ?_) eb) fun l5 H5 _ e5 h5 => ?_
      · have u1 := cutV_length (R4 a1 a2 a3 a4) (some (nth ns 12 % 4)) none
        have u2 := cutV_length (R4 a1 a2 a3 a4) none (some (nth ns 12 % 4))
        have : (R4 a1 a2 a3 a4).length = 4 := rfl
        omega
      · have e15 := (e13.trans e4).trans e5
        have hB5 := hB.ex e5
        refine q_when (et_test (ev_eqI (ev_mod (nj 13 (by decide) rfl rfl e15) ev_c (by decide)) ev_c)) (fun z H6 e6 => ?_) (fun z H6 e6 => ?_)
        · have z := of_decide_eq_true z
          refine s_asgL (xs := R4 b4 b3 b2 b1) (el_rev (xs := R4 b1 b2 b3 b4) (ev_var rfl) (SqL.of (e6 _ _ h5))) fun l7 H7 _ e7 h7 => ⟨_, rfl, k H7 l7 ((e15.trans e6).trans e7) ?_⟩
          have hB7 := hB5.ex (e6.trans e7)
          unfold fourOf
          rw [if_pos z]
          exact ⟨b4, b3, b2, b1, h7, hB7.2.2.2, hB7.2.2.1, hB7.2.1, hB7.1⟩
        · have z := of_decide_eq_false z
          refine ⟨_, rfl, k H6 l5 (e15.trans e6) ?_⟩
          unfold fourOf
          rw [if_neg z]
          exact ⟨b1, b2, b3, b4, e6 _ _ h5, hB5.ex e6⟩
end
end K64


namespace K64
open PySem PySem.Spec PyProof.Rows L2 Evl
def oN (o : Option Nat) : V := match o with | none => .non | some k => .int (k : Int)
theorem mod_pos (x : Int) : decide (0 < x % 8) = !decide (x % 8 = 0) := by
  have := Int.emod_nonneg x (show (8 : Int) ≠ 0 by decide)
  by_cases h : x % 8 = 0
  · simp [h]
  · have : 0 < x % 8 := by omega
    simp [h, this]
section
variable {P : Program} {w : World} {K : PySem.W.Frag} {mg : Str → Option Value} {base : Heap} {a : Ad}
/-! ### _law_double -/
def spDblL : Sp := fun vs H Q _ => ∃ (p q : Addr) (A C : Ci), vs = [.ref p, .ref q] ∧ CT H p A ∧ CT H q C ∧ Bd A ∧ Bd C ∧ ∀ H', Ex H H' → Q (.int (dbl A C)) H'
theorem sc_dblL : FnScope ["_law_one", "_law_other_here"] ["_law_one", "_law_other_here"] (defScope s_l_double) := ⟨rfl, rfl, rfl, by decide +kernel, rfl, by decide +kernel, by decide +kernel⟩
theorem ok_dblL (T : Txt K mg a) : Okd P w K mg base CX0 1 "_law_double" a.l_double ["_law_one", "_law_other_here"] spDblL := by
  refine T.l_double.ok sc_dblL (fun vs H Q E h => ?_) (fun cdv A outer s H vs Q E hr h => ?_)
  · obtain ⟨p, q, A, C, rfl, _⟩ := h
    rfl
  · obtain ⟨p, q, B, C, rfl, hB, hC, ⟨n, n0, n1, b1, b2, b3, b4⟩, ⟨m, m0, m1, d1, d2, d3, d4⟩, k⟩ := h
    have nd := sc_dblL.nd
    refine ⟨_, pss_one (ps_ret (pe_op op_sub (pe_op op_sub (pe_op op_mul pe_int (pe_op op_add (pe_op op_mulW (pe_ix (r := rIxT K) ix_tup (pv 0) pe_int (fun _ _ => rfl)) (pe_ix (r := rIxT K) ix_tup (pv 1) pe_int (fun _ _ => rfl))) (pe_op op_mulW (pe_ix (r := rIxT K) ix_tup (pv 0) pe_int (fun _ _ => rfl)) (pe_ix (r := rIxT K) ix_tup (pv 1) pe_int (fun _ _ => rfl)))))
      (pe_op op_mulW (pe_ix (r := rIxT K) ix_tup (pv 0) pe_int (fun _ _ => rfl)) (pe_ix (r := rIxT K) ix_tup (pv 1) pe_int (fun _ _ => rfl)))) (pe_op op_mulW (pe_ix (r := rIxT K) ix_tup (pv 0) pe_int (fun _ _ => rfl)) (pe_ix (r := rIxT K) ix_tup (pv 1) pe_int (fun _ _ => rfl))))), ?_⟩
    refine s_ret (ev_is (ev_sub (ev_sub (ev_mulL ev_c (ev_add (ev_mulW (ev_ixT (ev_var rfl) ev_c hB rfl) (ev_ixT (ev_var rfl) ev_c hC rfl) b3 d3 n0 m0 (by omega)) (ev_mulW (ev_ixT (ev_var rfl) ev_c hB rfl) (ev_ixT (ev_var rfl) ev_c hC rfl) b4 d4 n0 m0 (by omega))) (by decide))
      (ev_mulW (ev_ixT (ev_var rfl) ev_c hB rfl) (ev_ixT (ev_var rfl) ev_c hC rfl) b1 d2 n0 m0 (by omega))) (ev_mulW (ev_ixT (ev_var rfl) ev_c hB rfl) (ev_ixT (ev_var rfl) ev_c hC rfl) b2 d1 n0 m0 (by omega))) (congrArg V.int (a₂ := dbl B C) ?_)) k
    unfold dbl
    rw [Int.mul_comm C.b B.c]
    omega
/-! ### _law_opposite -/
def spOpp : Sp := fun vs H Q _ => ∃ (p : Addr) (C : Ci), vs = [.ref p] ∧ CT H p C ∧ ∀ H' q, Ex H H' → CT H' q C.opp → Q (.ref q) H'
theorem sc_opp : FnScope ["_law_circle", "_law_part"] ["_law_circle"] (defScope s_l_opposite) := ⟨rfl, rfl, rfl, by decide +kernel, rfl, by decide +kernel, by decide +kernel⟩
theorem civ_at {C : Ci} {i : Nat} {x : V} (h : (CiV C)[i]? = some x) : i < 4 ∧ x = .int (C.part i) := by
  match i, h with
  | 0, h => exact ⟨by decide, (Option.some.inj h).symm⟩
  | 1, h => exact ⟨by decide, (Option.some.inj h).symm⟩
  | 2, h => exact ⟨by decide, (Option.some.inj h).symm⟩
  | 3, h => exact ⟨by decide, (Option.some.inj h).symm⟩
theorem ok_opp (T : Txt K mg a) : Okd P w K mg base CX0 1 "_law_opposite" a.l_opposite ["_law_circle"] spOpp := by
  refine T.l_opposite.ok sc_opp (fun vs H Q E h => ?_) (fun cdv A outer s H vs Q E hr h => ?_)
  · obtain ⟨p, C, rfl, _⟩ := h
    rfl
  · obtain ⟨p, C, rfl, hC, k⟩ := h
    have nd := sc_opp.nd
    refine ⟨_, pss_one (ps_ret (pe_callTy (T := "tuple") (r := rTupOf K) call_tuple_of (by rfl) T.b_tuple (by decide +kernel) (pa_cons (pe_lc (own := [("_law_part", 1)]) (g := gName 1) (tt := tYes) rfl nd (pi_tup (pv 0)) (blkOk_by (N := ["_law_circle", "_law_part"]) (sc := defScope s_l_opposite) (by decide +kernel)) (fun _ _ _ _ _ => pg_name (i := 1) nd rfl (.inl rfl)) (fun _ _ _ _ _ => pts_nil)
      (fun _ _ _ _ _ => pe_op op_sub pe_int (pv 1))) pa_nil))), ?_⟩
    refine s_retU (xs := CiV C.opp) (eu_tupL (el_is (el_lcT (xs := CiV C) (fun _ => true) (fun i => .int (0 - C.part i)) (ev_var rfl) (SqT.of hC) (show 4 ≤ 40000 by decide) (fun _ => rfl) (fun _ _ _ _ _ => et_yes rfl) (fun i x H2 e2 hx _ => ?_)) rfl)) fun q H3 hq e3 h3 => k H3 q e3 h3
    obtain ⟨hi, rfl⟩ := civ_at hx
    exact ev_sub ev_c (ev_var rfl)
/-! ### _law_parts -/
def spPartsL : Sp := fun vs H Q _ => ∃ (l q : Addr) (F : Fo) (C : Ci) (n : Nat), vs = [.ref l, .ref q] ∧ LFo H l F ∧ CT H q C ∧ 0 < n ∧ n ≤ 400000 ∧ BdF n F ∧ Bd C ∧ ∀ H' x, Ex H H' → PV H' x (parts F C) → (∀ p, x = .ref p → H p = none) → Q x H'
theorem sc_partsL : FnScope ["_law_circles", "_law_circle", "_law_doubles", "_law_eighths", "_law_own", "_law_one"] ["_law_circles", "_law_circle"] (defScope s_l_parts) := ⟨rfl, rfl, rfl, by decide +kernel, rfl, by decide +kernel, by decide +kernel⟩
theorem ok_partsL (T : Txt K mg a) : Okd P w K mg base CX0 2 "_law_parts" a.l_parts ["_law_circles", "_law_circle"] spPartsL := by
  refine T.l_parts.ok sc_partsL (fun vs H Q E h => ?_) (fun cdv A outer s H vs Q E hr h => ?_)
  · obtain ⟨o, q, F, C, n, rfl, _⟩ := h
    rfl
  · obtain ⟨l, q, F, C, n, rfl, ⟨a1, a2, a3, a4, hl, hC⟩, hq, n0, n1, hB, bC, k⟩ := h
    have nd := sc_partsL.nd
    refine ⟨_, pss_cons (ps_set (i := 2) nd rfl (.inr rfl) (pe_lc (own := [("_law_own", 4)]) (g := gName 4) (tt := tYes) rfl nd (pi_list (pv 0)) (blkOk_by (N := ["_law_circles", "_law_circle", "_law_doubles", "_law_eighths", "_law_own", "_law_one"]) (sc := defScope s_l_parts) (by decide +kernel)) (fun _ _ _ _ _ => pg_name (i := 4) nd rfl (.inl rfl)) (fun _ _ _ _ _ => pts_nil)
        (fun _ _ _ _ _ => pe_c (ok_dblL T) hr pass0 (pa_cons (pv 4) (pa_cons (pv 1) pa_nil)))))
      (pss_cons (ps_setLc (i := 3) rfl nd rfl rfl (by rfl) (own := [("_law_one", 5)]) (g := gName 5) (tt := tYes) (pi_list (pv 2)) (blkOk_by (N := ["_law_circles", "_law_circle", "_law_doubles", "_law_eighths", "_law_own", "_law_one"]) (sc := defScope s_l_parts) (by decide +kernel)) (fun _ _ _ _ _ => pg_name (i := 5) nd rfl (.inl rfl)) (fun _ _ _ _ _ => pts_nil)
        (fun _ _ _ _ _ => pe_op op_sub (pe_op op_mul pe_int (pv 5)) (pe_callB (id := "sum") (r := rSum K) (cr_sum rfl) (by rfl) T.b_sum (by decide +kernel) (pa_cons (pv 2) pa_nil))))
      (pss_cons (ps_if (pt_val (pe_callB (cr_any rfl) (by rfl) T.b_any (by decide +kernel) (pa_cons (pe_lc (own := [("_law_one", 5)]) (g := gName 5) (tt := tYes) rfl nd (pi_list (pv 3)) (blkOk_by (N := ["_law_circles", "_law_circle", "_law_doubles", "_law_eighths", "_law_own", "_law_one"]) (sc := defScope s_l_parts) (by decide +kernel)) (fun _ _ _ _ _ => pg_name (i := 5) nd rfl (.inl rfl)) (fun _ _ _ _ _ => pts_nil)
        (fun _ _ _ _ _ => pe_cmpR op_gt (pe_op op_mod (pe_callTy (T := "int") (r := rInt1) call_int1 (by rfl) T.b_int (by decide +kernel) (pa_cons (pv 5) pa_nil)) pe_int) pe_int (nomark _))) pa_nil))) (pss_one (ps_ret pe_non)) pss_nil)
      (pss_one (ps_ret (pe_lc (own := [("_law_one", 5)]) (g := gName 5) (tt := tYes) rfl nd (pi_list (pv 3)) (blkOk_by (N := ["_law_circles", "_law_circle", "_law_doubles", "_law_eighths", "_law_own", "_law_one"]) (sc := defScope s_l_parts) (by decide +kernel)) (fun _ _ _ _ _ => pg_name (i := 5) nd rfl (.inl rfl)) (fun _ _ _ _ _ => pts_nil)
        (fun _ _ _ _ _ => pe_op op_fdiv (pv 5) pe_int)))))), ?_⟩
    refine q_asgL (xs := (dV F C).list.map V.int) (el_is (el_lcL (xs := R4 a1 a2 a3 a4) (fun _ => true) (fun i => .int ((dV F C).get i)) (ev_var rfl) (SqL.of hl) (show 4 ≤ 40000 by decide) (fun _ => rfl) (fun _ _ _ _ _ => et_yes rfl) (fun i x H2 e2 hx _ => ?_)) rfl) fun ld H1 hld e1 h1 => ?_
    · obtain ⟨hi, rfl⟩ := adr_get hx
      intro H3 e3 Q' q'
      have e23 := e2.trans e3
      refine ⟨_, rfl, _, rfl, _, q, F.get i, C, rfl, e23 _ _ (hC.at hi), hq.ex e23, ⟨n, n0, n1, hB.at hi⟩, bC, fun H4 e4 => ?_⟩
      have ed : dbl (F.get i) C = (dV F C).get i := by rcases four_cases hi with rfl | rfl | rfl | rfl <;> rfl
      rw [ed]
      exact q' H4 e4
    · refine q_asgL (xs := (eV F C).list.map V.int) (el_is (el_lcL (xs := (dV F C).list.map V.int) (fun _ => true) (fun i => .int ((eV F C).get i)) (ev_var rfl) (SqL.of h1) (show 4 ≤ 40000 by decide) (fun _ => rfl) (fun _ _ _ _ _ => et_yes rfl) (fun i x H2 e2 hx _ => ?_)) rfl) fun p H2 hp e2 h2 => ?_
      · obtain ⟨hi, rfl⟩ := list_at hx
        refine ev_is (ev_sub (ev_mulL ev_c (ev_var rfl) (by decide)) (ev_sumL' (ns := (dV F C).list) (ev_var rfl) (SqL.of (e2 _ _ h1)))) (congrArg V.int ?_)
        rw [list_sum]
        rcases four_cases hi with rfl | rfl | rfl | rfl <;> rfl
      · refine q_when (b := !decide (Whole (eV F C))) (et_test (ev_is (ev_anyL (bs := [!decide ((eV F C).p % 8 = 0), !decide ((eV F C).q % 8 = 0), !decide ((eV F C).r % 8 = 0), !decide ((eV F C).s % 8 = 0)]) (el_is (el_lcL (xs := (eV F C).list.map V.int) (fun _ => true) (fun i => .bl (!decide ((eV F C).get i % 8 = 0))) (ev_var rfl) (SqL.of h2) (show 4 ≤ 40000 by decide) (fun _ => rfl) (fun _ _ _ _ _ => et_yes rfl) (fun i x H2 e2 hx _ => ?_)) rfl)) (congrArg V.bl (any_whole _)))) (fun z H3 e3 => ?_) (fun z H3 e3 => ?_)
        · obtain ⟨hi, rfl⟩ := list_at hx
          exact ev_is (ev_gt (ev_mod (ev_int (ev_var rfl)) ev_c (by decide)) ev_c) (congrArg V.bl (mod_pos _))
        · have z : ¬ Whole (eV F C) := by simpa using z
          refine k H3 .non ((e1.trans e2).trans e3) ?_ (fun p z => nomatch z)
          unfold parts
          rw [if_neg z]
          rfl
        · have z : Whole (eV F C) := by simpa using z
          refine s_retL (xs := (eV F C).eighth.list.map V.int) (el_is (el_lcL (xs := (eV F C).list.map V.int) (fun _ => true) (fun i => .int ((eV F C).get i / 8)) (ev_var rfl) (SqL.of (e3 _ _ h2)) (show 4 ≤ 40000 by decide) (fun _ => rfl) (fun _ _ _ _ _ => et_yes rfl) (fun i x H4 e4 hx _ => ?_)) rfl) fun p' H4 hp' e4 h4 => k H4 (.ref p') (((e1.trans e2).trans e3).trans e4) ?_ (fun p z => by cases z; exact fresh_back ((e1.trans e2).trans e3) hp')
          · obtain ⟨hi, rfl⟩ := list_at hx
            exact ev_fdiv (ev_var rfl) ev_c ⟨by decide, by decide⟩
          · unfold parts
            rw [if_pos z]
            exact ⟨p', rfl, h4⟩
/-! ### _law_next -/
def spNextL : Sp := fun vs H Q _ => ∃ (p : Addr) (v : V4), vs = [.ref p] ∧ PL H p v ∧ ∀ H', Ex H H' → Q (oN (nxt v)) H'
theorem sc_nextL : FnScope ["_law_parts_here", "_law_below", "_law_k"] ["_law_parts_here"] (defScope s_l_next) := ⟨rfl, rfl, rfl, by decide +kernel, rfl, by decide +kernel, by decide +kernel⟩
theorem v4_at {v : V4} {i : Nat} (hi : i < 4) : atI (v.list.map V.int) (i : Int) = some (.int (v.get i)) := by
  rcases four_cases hi with rfl | rfl | rfl | rfl <;> rfl
theorem ok_nextL (T : Txt K mg a) : Okd P w K mg base CX0 1 "_law_next" a.l_next ["_law_parts_here"] spNextL := by
  refine T.l_next.ok sc_nextL (fun vs H Q E h => ?_) (fun cdv A outer s H vs Q E hr h => ?_)
  · obtain ⟨p, v, rfl, _⟩ := h
    rfl
  · obtain ⟨p, v, rfl, hp, k⟩ := h
    have nd := sc_nextL.nd
    refine ⟨_, pss_cons (ps_setLc (i := 1) (own := [("_law_k", 2)]) (g := gName 2) (tt := tTest (tOp (rI0 fun i j => .bl (decide (i < j))) (tOp (rIxL K) (tVar 0) (tVar 2)) (tC (.int 0)))) rfl nd rfl rfl (by rfl) (pi_range1 (by rfl) T.b_range (pa_cons pe_int pa_nil)) (blkOk_by (N := ["_law_parts_here", "_law_below", "_law_k"]) (sc := defScope s_l_next) (by decide +kernel))
        (fun _ _ _ _ _ => pg_name (i := 2) nd rfl (.inl rfl)) (fun _ _ _ _ _ => pts_one (pt_cmpR op_lt (pe_ix (r := rIxL K) ix_list (pv 0) (pv 2) (fun _ _ => rfl)) pe_int (nomark _)))
        (fun _ _ _ _ _ => pv 2))
      (pss_cons (ps_if (PW.pt (pw_or (pt_cmpR op_ne (pe_callB call_len_seq (by rfl) T.b_len PySem.boot_len (pa_cons (pv 1) pa_nil)) pe_int (nomark _)) (pw_or1 (pt_cmpR op_le (pe_callB (cr_sum rfl) (by rfl) T.b_sum (by decide +kernel) (pa_cons (pv 0) pa_nil)) pe_int (nomark _))))) (pss_one (ps_ret pe_non)) pss_nil)
      (pss_one (ps_ret (pe_ix ix_list (pv 1) pe_int (fun _ _ => rfl))))), ?_⟩
    refine q_asgL (el_lcR1 (n := 4) (fun i => decide (v.get i < 0)) (fun i => .int (i : Int)) (ea_cons ev_c ea_nil) (by decide) (fun _ => rfl) (fun i H1 e1 hi => ?_) (fun i H1 e1 hi _ => ev_var rfl)) fun l H1 hl e1 h1 => ?_
    · exact et_test (ev_lt (ev_ixL (ev_var rfl) (ev_var rfl) (e1 _ _ hp) (v4_at (by omega))) ev_c)
    · have h1 : H1 l = some (.lst ((negs v).map (fun k : Nat => V.int (k : Int)))) := h1
      have lb : Ev (tCB (rLenS K) (tCons (tVar 1) tNil)) [some (.ref p), some (.ref l), none] H1 (.int ((((negs v).map (fun k : Nat => V.int (k : Int))).length : Nat) : Int)) := ev_len (ev_var rfl) (SqL.of h1)
      refine q_when (b := (!decide ((((negs v).map (fun k : Nat => V.int (k : Int))).length : Int) = 1)) || decide (v.list.sum ≤ 1)) (et_or (et_test (ev_neI lb ev_c)) (fun _ => et_test (ev_le (ev_sumL' (ns := v.list) (ev_var rfl) (SqL.of (e1 _ _ hp))) ev_c))) (fun z H2 e2 => ?_) (fun z H2 e2 => ?_)
      · have z : (negs v).length ≠ 1 ∨ v.sum ≤ 1 := by
          rw [list_sum, List.length_map] at z
          simp at z
          omega
        have e : nxt v = none := if_pos z
        rw [e] at k
        exact k H2 (e1.trans e2)
      · have z : ¬ ((negs v).length ≠ 1 ∨ v.sum ≤ 1) := by
          rw [list_sum, List.length_map] at z
          simp at z
          omega
        have e : nxt v = (negs v)[0]? := if_neg z
        have l1 : (negs v).length = 1 := by omega
        match hn : negs v, l1 with
        | [j], _ =>
          rw [hn] at e h1
          rw [e] at k
          exact s_ret (v := oN ([j][0]?)) (ev_ixL (ev_var rfl) ev_c (e2 _ _ h1) rfl) fun H3 e3 => k H3 ((e1.trans e2).trans e3)
/-! ### _law_behind -/
def spBehL : Sp := fun vs H Q _ => ∃ (p : Addr) (v : V4) (k : Nat), vs = [.ref p, .int (k : Int)] ∧ k < 4 ∧ PL H p v ∧ ∀ H' q, H q = none → Ex H H' → PL H' q (beh v k) → Q (.ref q) H'
theorem sc_behL : FnScope ["_law_parts_here", "_law_k", "_law_n"] ["_law_parts_here", "_law_k"] (defScope s_l_behind) := ⟨rfl, rfl, rfl, by decide +kernel, rfl, by decide +kernel, by decide +kernel⟩
theorem ok_behL (T : Txt K mg a) : Okd P w K mg base CX0 1 "_law_behind" a.l_behind ["_law_parts_here", "_law_k"] spBehL := by
  refine T.l_behind.ok sc_behL (fun vs H Q E h => ?_) (fun cdv A outer s H vs Q E hr h => ?_)
  · obtain ⟨p, v, k, rfl, _⟩ := h
    rfl
  · obtain ⟨p, v, k, rfl, hk, hp, q⟩ := h
    have nd := sc_behL.nd
    refine ⟨_, pss_one (ps_ret (pe_lc (own := [("_law_n", 2)]) (g := gName 2) (tt := tYes) rfl nd (pi_range1 (by rfl) T.b_range (pa_cons pe_int pa_nil)) (blkOk_by (N := ["_law_parts_here", "_law_k", "_law_n"]) (sc := defScope s_l_behind) (by decide +kernel))
        (fun _ _ _ _ _ => pg_name (i := 2) nd rfl (.inl rfl)) (fun _ _ _ _ _ => pts_nil)
        (fun _ _ _ _ _ => pe_ifExp (pt_cmpR op_eq (pv 2) (pv 1) (nomark _)) (pe_op op_sub pe_int (pe_ix (r := rIxL K) ix_list (pv 0) (pv 1) (fun _ _ => rfl))) (pe_op op_add (pe_ix (r := rIxL K) ix_list (pv 0) (pv 2) (fun _ _ => rfl)) (pe_op op_mul pe_int (pe_ix (r := rIxL K) ix_list (pv 0) (pv 1) (fun _ _ => rfl))))))), ?_⟩
    refine s_retL (xs := (beh v k).list.map V.int) (el_is (el_lcR1 (n := 4) (fun _ => true) (fun i => .int ((beh v k).get i)) (ea_cons ev_c ea_nil) (by decide) (fun _ => rfl) (fun _ _ _ _ => et_yes rfl) (fun i H2 e2 hi _ => ?_)) rfl) fun l H2 hl e2 h2 => q H2 l hl e2 h2
    have hi : i < 4 := by omega
    rw [beh_get v hk hi]
    refine ev_if (b := decide (i = k)) (et_test (ev_is (ev_eqI (ev_var rfl) (ev_var rfl)) (congrArg V.bl ?_))) (fun z => ?_) (fun z => ?_)
    · rw [decide_eq_decide]
      omega
    · rw [if_pos (of_decide_eq_true z)]
      exact ev_is (ev_sub ev_c (ev_ixL (ev_var rfl) (ev_var rfl) (e2 _ _ hp) (v4_at hk))) (congrArg V.int (by omega))
    · rw [if_neg (of_decide_eq_false z)]
      exact ev_add (ev_ixL (ev_var rfl) (ev_var rfl) (e2 _ _ hp) (v4_at hi)) (ev_mulL ev_c (ev_ixL (ev_var rfl) (ev_var rfl) (e2 _ _ hp) (v4_at hk)) (by decide))
end
end K64


namespace K64
open PySem PySem.Spec PyProof.Rows L2 Evl
theorem dec_oN (o : Option Nat) (k : Nat) : decide (oN o = V.int (k : Int)) = decide (o = some k) := by
  cases o with
  | none => rfl
  | some j =>
    by_cases h : j = k
    · subst h; simp [oN]
    · have : oN (some j) ≠ V.int (k : Int) := fun z => h (by
        have := V.int.inj z
        omega)
      simp [h, this]
theorem dec_oNN (o : Option Nat) : decide (oN o = V.non) = decide (o = none) := by
  cases o with
  | none => rfl
  | some j => rfl
theorem ltr_str {k : Nat} (h : k < 4) : (toString ((k : Int) + 1) : Str) = ltr k := by
  rcases four_cases h with rfl | rfl | rfl | rfl <;> decide +kernel
def Done (o0 ov : Option V4) (pre : List Nat) : Prop := match ov with
  | none => o0 = none ∧ pre = []
  | some v => srch o0 = (pre, if IsUnit v then some (ix v) else none)
theorem Stands.done {o0 : Option V4} {v : V4} {pre : List Nat} {m : Nat} (h : Stands o0 (some v) pre m) (hn : nxt v = none) : Done o0 (some v) pre := by
  obtain ⟨v0, rfl, _, hr, _⟩ := h
  unfold Done
  rw [srch_some, hr, run_none hn, List.append_nil]
theorem Stands.zero {o0 ov : Option V4} {pre : List Nat} (h : Stands o0 ov pre 0) : Done o0 ov pre := by
  cases ov with
  | none => exact h
  | some v =>
    refine h.done ?_
    obtain ⟨_, _, e, _⟩ := h
    cases e with
    | stop a _ => exact a
theorem Done.text {o0 ov : Option V4} {pre : List Nat} (h : Done o0 ov pre) : (pre.length ≤ 20000 ∧ ∀ k ∈ pre, k < 4) ∧ plWords (srch o0) = (match ov with | none => sAbsent :: lts pre | some v => if IsUnit v then sThere :: ltr (ix v) :: lts pre else sAbsent :: lts pre) := by
  have hl := srch_letters o0
  cases ov with
  | none =>
    obtain ⟨rfl, rfl⟩ := h
    exact ⟨⟨Nat.zero_le _, fun k h => nomatch h⟩, rfl⟩
  | some v =>
    have h : srch o0 = (pre, if IsUnit v then some (ix v) else none) := h
    rw [h] at hl
    refine ⟨⟨hl.2, hl.1⟩, ?_⟩
    rw [h]
    by_cases z : IsUnit v
    · simp only [if_pos z]; rfl
    · simp only [if_neg z]; rfl
section
variable {K : PySem.W.Frag} {σ : L2.St} {H : Hp}
theorem sort_unit {te : TE} {p : Addr} {v : V4} {r : R2} {f : Bool → Bool} (h : Ev te σ H (.ref p)) (hp : PL H p v)
    (hr : ∀ (x y : V) (d e : PyData) (H1 : Hp) (Q : VK), Dp K H1 x d → Dp K H1 y e → SeqAt.shaped d = true → SeqAt.shaped e = true → Q (.bl (f (PyData.eqv d e))) H1 → r x y H1 Q) :
    Ev (tOp r (tCB (rSorted K) (tCons te tNil)) (tLst (tCons (tC (.int 0)) (tCons (tC (.int 0)) (tCons (tC (.int 0)) (tCons (tC (.int 1)) tNil)))))) σ H (.bl (f (decide (IsUnit v)))) := fun H1 e Q q =>
  h H1 e _ fun H2 e2 => ⟨p, v.list, rfl, SqL.of ((e.trans e2) _ _ hp), (show 4 < 64 by decide), fun ns l pm srt hl => ⟨(by decide : (4 : Nat) ≤ sizeLine), fun m hm => by
    have nlm : l ≠ m := fun z => by rw [z, upd_same] at hm; cases hm
    have h1 : upd (upd H2 l (.lst (ns.map V.int))) m (.lst [.int 0, .int 0, .int 0, .int 1]) l = some (.lst (ns.map V.int)) := by rw [upd_ne nlm]; exact upd_same
    have len : ns.length = 4 := pm.length_eq
    refine hr _ _ (.list (ns.map PyData.int)) (.list (([0,0,0,1] : List Int).map PyData.int)) _ _ (.lst (SqL.of h1) (dp_ints ns)) (.lst (SqL.of (xs := ([0,0,0,1] : List Int).map V.int) upd_same) (dp_ints _)) (shaped_ints ns (by omega)) (by decide +kernel) ?_
    have e : PyData.eqv (.list (ns.map PyData.int)) (.list (([0,0,0,1] : List Int).map PyData.int)) = decide (IsUnit v) := by
      show PyData.eqvAll _ _ = _
      rw [eqv_ints, sorted_unit pm srt]
    rw [e]
    exact q _ (e2.trans ((Ex.new hl).trans (Ex.new hm)))⟩⟩
theorem ev_unitE {te : TE} {p : Addr} {v : V4} (h : Ev te σ H (.ref p)) (hp : PL H p v) : Ev (tOp (rEqD K) (tCB (rSorted K) (tCons te tNil)) (tLst (tCons (tC (.int 0)) (tCons (tC (.int 0)) (tCons (tC (.int 0)) (tCons (tC (.int 1)) tNil)))))) σ H (.bl (decide (IsUnit v))) :=
  sort_unit (f := fun b => b) h hp fun x y d e H1 Q a b c d' q => ⟨_, _, a, b, c, d', q⟩
theorem ev_unitN {te : TE} {p : Addr} {v : V4} (h : Ev te σ H (.ref p)) (hp : PL H p v) : Ev (tOp (rNeD K) (tCB (rSorted K) (tCons te tNil)) (tLst (tCons (tC (.int 0)) (tCons (tC (.int 0)) (tCons (tC (.int 0)) (tCons (tC (.int 1)) tNil)))))) σ H (.bl (!decide (IsUnit v))) :=
  sort_unit (f := fun b => !b) h hp fun x y d e H1 Q a b c d' q => ⟨_, _, a, b, c, d', q⟩
theorem el_catV {ta tb : TE} {xs ys : List V} {l : Addr} (ha : EvL ta σ H xs) (hb : Ev tb σ H (.ref l)) (hl : H l = some (.lst ys)) (hz : xs.length + ys.length ≤ 100000) : EvL (tOp rCat ta tb) σ H (xs ++ ys) := fun H1 e Q k =>
  ha H1 e _ fun p H2 hp0 e2 hp => hb H2 (e.trans e2) _ fun H3 e3 => ⟨p, l, xs, ys, rfl, rfl, e3 _ _ hp, ((e.trans e2).trans e3) _ _ hl, sz_of hz, fun l hl => k l _ (fresh_back (e2.trans e3) hl) ((e2.trans e3).trans (Ex.new hl)) upd_same⟩
theorem ev_strI {te : TE} {k : Nat} (hk : k < 4) (h : Ev te σ H (.int ((k : Int) + 1))) : Ev (tCB rStr (tCons te tNil)) σ H (.str (ltr k)) := fun H1 e Q q => h H1 e _ fun H2 e2 => .inr ⟨_, rfl, by rcases four_cases hk with rfl | rfl | rfl | rfl <;> decide +kernel, by rw [ltr_str hk]; exact q H2 e2⟩
theorem ev_index1 {i : Nat} {p : Addr} {v : V4} {pp : Addr} (hs : σ[i]? = some (some (.ref p))) (hp : PL H p v) (iu : IsUnit v) : Ev (tBM K "list" (rIndex K) (tVar i) (tCons (tC (.int 1)) tNil)) σ H (.int (ix v : Nat)) := fun H6 e6 Q' q' => by
  refine ⟨_, hs, .inl ⟨rfl, _, SqL.of (hp.ex e6)⟩, p, _, .int 1, ix v, .int 1, rfl, rfl, SqL.of (hp.ex e6), rfl, rfl, ?_, by rw [eqV_int]; rfl, ?_, q' _ (Ex.refl _)⟩
  · rcases iu with rfl | rfl | rfl | rfl <;> rfl
  · intro m' z' hm' hz'
    rcases iu with rfl | rfl | rfl | rfl
    · exact absurd hm' (Nat.not_lt_zero _)
    · match m', hm', hz' with
      | 0, _, hz' => cases hz'; rw [eqV_int]; rfl
    · match m', hm', hz' with
      | 0, _, hz' => cases hz'; rw [eqV_int]; rfl
      | 1, _, hz' => cases hz'; rw [eqV_int]; rfl
    · match m', hm', hz' with
      | 0, _, hz' => cases hz'; rw [eqV_int]; rfl
      | 1, _, hz' => cases hz'; rw [eqV_int]; rfl
      | 2, _, hz' => cases hz'; rw [eqV_int]; rfl
end
end K64


namespace K64
open PySem PySem.Spec PyProof.Rows L2 Evl
theorem PV.ne {H : Hp} {x : V} {o : Option V4} {l : Addr} {xs : List V} (h : PV H x o) (hl : ∀ p, x = .ref p → H p = none → False) (hn : ∀ p, x = .ref p → p ≠ l) : x ≠ .ref l := fun z => hn l z rfl
section
variable {P : Program} {w : World} {K : PySem.W.Frag} {mg : Str → Option Value} {base : Heap} {a : Ad}
/-! ### _law_due -/
def spDue : Sp := fun vs H Q _ => ∃ (l q : Addr) (F : Fo) (C : Ci) (n : Nat), vs = [.ref l, .ref q] ∧ LFo H l F ∧ CT H q C ∧ 0 < n ∧ n ≤ 400000 ∧ BdF n F ∧ Bd C ∧ Enough F C ∧ ∀ H', Ex H H' → Q (.str (plText (srch (parts F C)))) H'
theorem sc_due : FnScope ["_law_circles", "_law_circle", "_law_parts_here", "_law_words", "_law_turn", "_law_k"] ["_law_circles", "_law_circle"] (defScope s_l_due) := ⟨rfl, rfl, rfl, by decide +kernel, rfl, by decide +kernel, by decide +kernel⟩
theorem ok_due (T : Txt K mg a) : Okd P w K mg base CX0 3 "_law_due" a.l_due ["_law_circles", "_law_circle"] spDue := by
  refine T.l_due.ok sc_due (fun vs H Q E h => ?_) (fun cdv A outer s H vs Q E hr h => ?_)
  · obtain ⟨o, q, F, C, n, rfl, _⟩ := h
    rfl
  · obtain ⟨l, q, F, C, n, rfl, hF, hq, n0, n1, hB, bC, hE, k⟩ := h
    have nd := sc_due.nd
    have hu : (A.deeper (envOfC "_law_due" (defScope s_l_due) s.heap.objs.size a.l_due cdv)).units + 64 < cLine := by have := hr.un; omega
    refine ⟨_, pss_cons (ps_set (i := 2) nd rfl (.inl rfl) (pe_c (ok_partsL T) hr pass0 (pa_cons (pv 0) (pa_cons (pv 1) pa_nil))))
      (pss_cons (ps_set (i := 3) nd rfl (.inl rfl) (pe_lst pa_nil))
      (pss_cut (ps_for PassesOwn.never rfl (pi_range1 (by rfl) T.b_range (pa_cons pe_int pa_nil)) (pg_name (i := 4) nd rfl (.inl rfl))
        (pss_cons (ps_if (PW.pt (pw_or (pt_cmpR op_isN (pv 2) pe_non (nomark _)) (pw_or1 (pt_cmpR op_isN (pe_c (ok_nextL T) (hr.mono (by decide)) pass0 (pa_cons (pv 2) pa_nil)) pe_non (nomark _))))) (pss_one ps_break) pss_nil)
        (pss_cons (ps_set (i := 5) nd rfl (.inl rfl) (pe_c (ok_nextL T) (hr.mono (by decide)) pass0 (pa_cons (pv 2) pa_nil)))
        (pss_cons (ps_expr (pe_bm PySem.F.plainAttrs_list PySem.F.slot_list_append PySem.F.type_list_append mt_append (pv 3) (pa_cons (pe_callTy (T := "str") (r := rStr) call_strB (by rfl) T.b_str (by decide +kernel) (pa_cons (pe_op op_add (pv 5) pe_int) pa_nil)) pa_nil)))
        (pss_one (ps_set (i := 2) nd rfl (.inl rfl) (pe_c (ok_behL T) (hr.mono (by decide)) pass0 (pa_cons (pv 2) (pa_cons (pv 5) pa_nil)))))))))
      (pss_cons (ps_if (PW.pt (pw_and (pt_cmpR op_notN (pv 2) pe_non (nomark _)) (pw_and1 (pt_cmpR (op_eqD hu) (pe_callB cr_sorted (by rfl) T.b_sorted (by decide +kernel) (pa_cons (pv 2) pa_nil)) (pe_lst (pa_cons pe_int (pa_cons pe_int (pa_cons pe_int (pa_cons pe_int pa_nil))))) (nomark _)))))
        (pss_one (ps_ret (pe_join pe_str (pe_op op_cat (pe_lst (pa_cons pe_str (pa_cons (pe_callTy (T := "str") (r := rStr) call_strB (by rfl) T.b_str (by decide +kernel) (pa_cons (pe_op op_add (pe_bm PySem.F.plainAttrs_list PySem.F.slot_list_index PySem.F.type_list_index mt_index (pv 2) (pa_cons pe_int pa_nil)) pe_int) pa_nil)) pa_nil))) (pv 3))))) pss_nil)
      (pss_one (ps_ret (pe_join pe_str (pe_op op_cat (pe_lst (pa_cons pe_str pa_nil)) (pv 3)))))))), ?_⟩
    refine ⟨_, rfl, _, rfl, l, q, F, C, n, rfl, hF, hq, n0, n1, hB, bC, fun H1 x e1 hx _ => ?_⟩
    refine q_asgL (xs := []) (el_lst ea_nil (show 0 ≤ 100000 by decide)) fun lw H2 hlw e2 h2 => ?_
    have nlw : H lw = none := fresh_back e1 hlw
    have x0 : x ≠ .ref lw := fun z => by
      cases hp : parts F C with
      | none => rw [hp] at hx; have hx : x = .non := hx; rw [hx] at z; cases z
      | some v =>
        rw [hp] at hx
        obtain ⟨p, rfl, h⟩ := hx
        rw [V.ref.inj z] at h
        unfold PL at h
        rw [hlw] at h
        cases h
    refine q_cut (M := fun σ' H' => ∃ x tv kv pre ov, σ' = [some (.ref l), some (.ref q), some x, some (.ref lw), tv, kv] ∧ Ex H H' ∧ H' lw = some (.lst ((lts pre).map V.str)) ∧ PV H' x ov ∧ Done (parts F C) ov pre)
      (s_forR1 (n := 20000) (ea_cons ev_c ea_nil) (by decide) (fun i σ' H' => ∃ x tv kv pre ov, σ' = [some (.ref l), some (.ref q), some x, some (.ref lw), tv, kv] ∧ Ex H H' ∧ H' lw = some (.lst ((lts pre).map V.str)) ∧ PV H' x ov ∧ x ≠ .ref lw ∧ Stands (parts F C) ov pre (20000 - i))
        (fun H3 e3 => ⟨x, none, none, [], parts F C, rfl, (e1.trans e2).trans e3, e3 _ _ h2, hx.ex (e2.trans e3), x0, ?_⟩) ?_ ?_) ?_
    · cases hp : parts F C with
      | none => exact ⟨rfl, rfl⟩
      | some v => exact ⟨v, rfl, hE v hp, by simp, by simp⟩
    · rintro i σ' H' hi ⟨x, tv, kv, pre, ov, rfl, e4, hl4, hx4, nxl, st⟩
      cases ov with
      | none =>
        have hx4 : x = .non := hx4
        subst hx4
        refine q_when (b := true || false) (et_or (et_test (ev_isN (ev_var rfl) rfl)) (fun z => nomatch z)) (fun _ H5 e5 => ⟨_, _, _, pre, none, rfl, e4.trans e5, e5 _ _ hl4, rfl, st⟩) (fun z => nomatch z)
      | some v =>
        obtain ⟨p, rfl, hp⟩ := hx4
        have nEv : ∀ {σ : L2.St} {H' : Hp}, σ[2]? = some (some (.ref p)) → PL H' p v → Ev (tCall spNextL [] E0 (tCons (tVar 2) tNil)) σ H' (oN (nxt v)) := fun {σ H'} h3 hv H5 e5 Q' q' => ⟨_, h3, p, v, rfl, hv.ex e5, q'⟩
        refine q_when (b := false || decide (nxt v = none)) (et_or (et_test (ev_isN (ev_var rfl) rfl)) (fun _ => et_test (ev_isN (nEv rfl hp) (dec_oNN _)))) (fun z H5 e5 => ?_) (fun z H5 e5 => ?_)
        · have z : nxt v = none := by simpa using z
          exact ⟨_, _, _, pre, some v, rfl, e4.trans e5, e5 _ _ hl4, ⟨p, rfl, hp.ex e5⟩, st.done z⟩
        · have z : nxt v ≠ none := by simpa using z
          obtain ⟨v0, st0, en, rn, hm⟩ := st
          cases hn : nxt v with
          | none => exact absurd hn z
          | some j =>
            obtain ⟨hj, nj, sj⟩ := nxt_some hn
            obtain ⟨m', em', en'⟩ := Ends.step_inv en hn
            refine q_asg (v := .int (j : Int)) (by have := nEv (σ := [some (.ref l), some (.ref q), some (.ref p), some (.ref lw), some (.int (i : Int)), kv]) rfl (hp.ex e5); rw [hn] at this; exact this) fun H6 e6 => ?_
            have hl6 := (e5.trans e6) _ _ hl4
            refine q_app hl6 (ev_var rfl) (ev_strI hj (ev_add (ev_var rfl) ev_c)) (by rw [List.length_map, lts_len]; omega) fun H7 e7 => ?_
            have npl : p ≠ lw := fun z => nxl (congrArg V.ref z)
            have hp7 : PL (upd H7 lw (.lst ((lts pre).map V.str ++ [V.str (ltr j)]))) p v := by
              have := hp.ex ((e5.trans e6).trans e7)
              unfold PL at *
              rw [upd_ne npl]
              exact this
            have e47 : Ex H (upd H7 lw (.lst ((lts pre).map V.str ++ [V.str (ltr j)]))) := Ex.mut (((e4.trans e5).trans e6).trans e7) nlw
            refine ⟨_, rfl, _, rfl, p, v, j, rfl, hj, hp7, fun H8 q' hq' e8 hq8 => ?_⟩
            have nql : q' ≠ lw := fun z => by
              rw [z, upd_same] at hq'
              cases hq'
            refine ⟨.ref q', _, _, pre ++ [j], some (beh v j), rfl, e47.trans e8, ?_, ⟨q', rfl, hq8⟩, fun z => nql (V.ref.inj z), v0, st0, ?_, ?_, ?_⟩
            · rw [e8 _ _ upd_same]
              unfold lts
              rw [List.map_append, List.map_append]
              rfl
            · have : 20000 - (i + 1) = m' := by omega
              rw [this]
              exact en'
            · have : 20000 - (i + 1) = m' := by omega
              rw [this, rn, em', run_some hn, List.append_assoc]
              rfl
            · rw [List.length_append, List.length_singleton]
              omega
    · rintro σ' H' ⟨x, tv, kv, pre, ov, rfl, e4, hl4, hx4, nxl, st⟩
      exact ⟨x, tv, kv, pre, ov, rfl, e4, hl4, hx4, Stands.zero (by simpa using st)⟩
    · rintro σ' H' ⟨x, tv, kv, pre, ov, rfl, e4, hl4, hx4, dn⟩
      obtain ⟨⟨pl, p4⟩, pw⟩ := dn.text
      have fin : ∀ ss : List Str, plWords (srch (parts F C)) = ss → ∀ H5, Ex H' H5 → Q (.str (Txt.join SP ss)) H5 := fun ss h H5 e5 => by
        have := k H5 (e4.trans e5)
        unfold plText at this
        rw [h] at this
        exact this
      have sma : ∀ s ∈ sAbsent :: lts pre, Small s := fun s h => by
        rcases List.mem_cons.mp h with rfl | h
        · exact small_absent
        · exact small_lts _ _ h
      cases ov with
      | none =>
        have hx4 : x = .non := hx4
        subst hx4
        refine q_when (b := false && false) (et_and (et_test (ev_notN (ev_var rfl) rfl)) (fun z => nomatch z)) (fun z => nomatch z) (fun _ H5 e5 => ?_)
        refine s_ret (ev_joinL (ss := sAbsent :: lts pre) (el_is (el_catV (xs := [.str sAbsent]) (el_lst (ea_cons ev_c ea_nil) (show 1 ≤ 100000 by decide)) (ev_var rfl) (e5 _ _ hl4) (by rw [List.length_map, lts_len, List.length_singleton]; omega)) rfl) sma (by rw [List.length_cons, lts_len]; omega)) fun H6 e6 => fin _ pw H6 (e5.trans e6)
      | some v =>
        obtain ⟨p, rfl, hp⟩ := hx4
        refine q_when (b := true && decide (IsUnit v)) (et_and (et_test (ev_notN (ev_var rfl) rfl)) (fun _ => et_test (ev_unitE (ev_var rfl) hp))) (fun z H5 e5 => ?_) (fun z H5 e5 => ?_)
        · have iu : IsUnit v := by simpa using z
          have pw : plWords (srch (parts F C)) = sThere :: ltr (ix v) :: lts pre := by rw [pw]; exact if_pos iu
          refine s_ret (ev_joinL (ss := sThere :: ltr (ix v) :: lts pre) (el_is (el_catV (xs := [.str sThere, .str (ltr (ix v))]) (el_lst (ea_cons ev_c (ea_cons (ev_strI (ix_lt v) (ev_add (ev_index1 (pp := p) rfl (hp.ex e5) iu) ev_c)) ea_nil)) (show 2 ≤ 100000 by decide)) (ev_var rfl) (e5 _ _ hl4) (by rw [List.length_map, lts_len]; simp only [List.length_cons, List.length_nil]; omega)) rfl) ?_ (by rw [List.length_cons, List.length_cons, lts_len]; omega)) fun H6 e6 => fin _ pw H6 (e5.trans e6)
          intro s h
          rcases List.mem_cons.mp h with rfl | h
          · exact small_there
          · rcases List.mem_cons.mp h with rfl | h
            · exact small_ltr _
            · exact small_lts _ _ h
        · have iu : ¬ IsUnit v := by simpa using z
          have pw : plWords (srch (parts F C)) = sAbsent :: lts pre := by rw [pw]; exact if_neg iu
          refine s_ret (ev_joinL (ss := sAbsent :: lts pre) (el_is (el_catV (xs := [.str sAbsent]) (el_lst (ea_cons ev_c ea_nil) (show 1 ≤ 100000 by decide)) (ev_var rfl) (e5 _ _ hl4) (by rw [List.length_map, lts_len, List.length_singleton]; omega)) rfl) sma (by rw [List.length_cons, lts_len]; omega)) fun H6 e6 => fin _ pw H6 (e5.trans e6)
/-! ### _law_shows -/
def spShows : Sp := fun vs H Q _ => ∃ (l q lw : Addr) (F : Fo) (C : Ci) (n : Nat) (w : List Nat), vs = [.ref l, .ref q, .ref lw] ∧ LFo H l F ∧ CT H q C ∧ H lw = some (.lst ((lts w).map V.str)) ∧ (∀ k ∈ w, k < 4) ∧ 0 < n ∧ n ≤ 400000 ∧ BdF n F ∧ Bd C ∧ ∀ H', Ex H H' → Q (.bl (chkAbs (parts F C) w)) H'
theorem sc_shows : FnScope ["_law_circles", "_law_circle", "_law_words", "_law_parts_here", "_law_word", "_law_k"] ["_law_circles", "_law_circle", "_law_words"] (defScope s_l_shows) := ⟨rfl, rfl, rfl, by decide +kernel, rfl, by decide +kernel, by decide +kernel⟩
theorem lts_at {w : List Nat} {i : Nat} {x : V} (h : ((lts w).map V.str)[i]? = some x) : ∃ k, w[i]? = some k ∧ x = .str (ltr k) := by
  obtain ⟨s, hs, rfl⟩ := strs_at h
  unfold lts at hs
  rw [List.getElem?_map] at hs
  cases e : w[i]? with
  | none => rw [e] at hs; cases hs
  | some j => rw [e] at hs; cases hs; exact ⟨j, rfl, rfl⟩
theorem ev_intS {σ : L2.St} {H : Hp} {te : TE} {k : Nat} (hk : k < 4) (h : Ev te σ H (.str (ltr k))) : Ev (tCB rIntS (tCons te tNil)) σ H (.int ((k : Int) + 1)) := fun H1 e Q q =>
  h H1 e _ fun H2 e2 => ⟨ltr k, _, rfl, int_ltr hk, Nat.le_trans (small_ltr k).1 (by decide), q H2 e2⟩
theorem ok_shows (T : Txt K mg a) : Okd P w K mg base CX0 3 "_law_shows" a.l_shows ["_law_circles", "_law_circle", "_law_words"] spShows := by
  refine T.l_shows.ok sc_shows (fun vs H Q E h => ?_) (fun cdv A outer s H vs Q E hr h => ?_)
  · obtain ⟨l, q, lw, F, C, n, w, rfl, _⟩ := h
    rfl
  · obtain ⟨l, q, lw, F, C, n, w, rfl, hF, hq, hw, hw4, n0, n1, hB, bC, k⟩ := h
    have nd := sc_shows.nd
    have hu : (A.deeper (envOfC "_law_shows" (defScope s_l_shows) s.heap.objs.size a.l_shows cdv)).units + 64 < cLine := by have := hr.un; omega
    refine ⟨_, pss_cons (ps_set (i := 3) nd rfl (.inl rfl) (pe_c (ok_partsL T) hr pass0 (pa_cons (pv 0) (pa_cons (pv 1) pa_nil))))
      (pss_cons (ps_if (pt_cmpR op_isN (pv 3) pe_non (nomark _)) (pss_one (ps_ret (pe_cmpR op_eq (pe_callB call_len_seq (by rfl) T.b_len PySem.boot_len (pa_cons (pv 2) pa_nil)) pe_int (nomark _)))) pss_nil)
      (pss_cons (ps_for PassesOwn.never rfl (pi_list (pv 2)) (pg_name (i := 4) nd rfl (.inl rfl))
        (pss_cons (ps_set (i := 5) nd rfl (.inl rfl) (pe_op op_sub (pe_callTy (T := "int") (r := rIntS) call_int_str (by rfl) T.b_int (by decide +kernel) (pa_cons (pv 4) pa_nil)) pe_int))
        (pss_cons (ps_if (pt_cmpR op_ne (pe_c (ok_nextL T) (hr.mono (by decide)) pass0 (pa_cons (pv 3) pa_nil)) (pv 5) (nomark _)) (pss_one (ps_ret pe_bl)) pss_nil)
        (pss_one (ps_set (i := 3) nd rfl (.inl rfl) (pe_c (ok_behL T) (hr.mono (by decide)) pass0 (pa_cons (pv 3) (pa_cons (pv 5) pa_nil))))))))
      (pss_one (ps_ret (pe_and (pe_cmpR (op_neD hu) (pe_callB cr_sorted (by rfl) T.b_sorted (by decide +kernel) (pa_cons (pv 3) pa_nil)) (pe_lst (pa_cons pe_int (pa_cons pe_int (pa_cons pe_int (pa_cons pe_int pa_nil))))) (nomark _)) (pe_one (pe_cmpR op_isN (pe_c (ok_nextL T) (hr.mono (by decide)) pass0 (pa_cons (pv 3) pa_nil)) pe_non (nomark _)))))))), ?_⟩
    refine ⟨_, rfl, _, rfl, l, q, F, C, n, rfl, hF, hq, n0, n1, hB, bC, fun H3 x e13 hx _ => ?_⟩
    cases hpt : parts F C with
    | none =>
      rw [hpt] at hx
      have hx : x = .non := hx
      subst hx
      refine q_when (b := true) (et_test (ev_isN (ev_var rfl) rfl)) (fun _ H4 e4 => ?_) (fun z => nomatch z)
      have lb : Ev (tCB (rLenS K) (tCons (tVar 2) tNil)) [some (.ref l), some (.ref q), some (.ref lw), some .non, none, none] H4 (.int ((((lts w).map V.str).length : Nat) : Int)) := ev_len (ev_var rfl) (SqL.of (e4 _ _ (e13 _ _ hw)))
      refine s_ret (ev_is (ev_eqI lb ev_c) (congrArg V.bl (a₂ := chkAbs (parts F C) w) ?_)) fun H5 e5 => k H5 ((e13.trans e4).trans e5)
      rw [hpt, List.length_map, lts_len]
      show decide ((w.length : Int) = 0) = decide (w = [])
      cases w with
      | nil => rfl
      | cons k w => simp; omega
    | some v0 =>
      rw [hpt] at hx
      obtain ⟨pp, rfl, hpp⟩ := hx
      have nEv : ∀ {σ : L2.St} {H' : Hp} {p' : Addr} {v : V4}, σ[3]? = some (some (.ref p')) → PL H' p' v → Ev (tCall spNextL [] E0 (tCons (tVar 3) tNil)) σ H' (oN (nxt v)) := fun {σ H' p' v} h3 hv H5 e5 Q' q' => ⟨_, h3, p', v, rfl, hv.ex e5, q'⟩
      refine q_when (b := false) (et_test (ev_isN (ev_var rfl) rfl)) (fun z => nomatch z) (fun _ H4 e4 => ?_)
      have e14 := e13.trans e4
      refine q_forLn (ev_var rfl) (SqL.of (e14 _ _ hw)) (fun i σ' H' => ∃ p' v nv kv, σ' = [some (.ref l), some (.ref q), some (.ref lw), some (.ref p'), nv, kv] ∧ Ex H H' ∧ PL H' p' v ∧ chkGo v0 w = chkGo v (w.drop i))
        (fun H5 e5 => ⟨pp, v0, none, none, rfl, e14.trans e5, hpp.ex (e4.trans e5), rfl⟩) (fun i σ' H' _ ⟨_, _, _, _, _, h, _⟩ => SqL.of (h _ _ hw)) ?_ ?_
      · rintro i x σ' H' hx ⟨p', v, nv, kv, rfl, e5, hv, hgo⟩
        obtain ⟨j, hj, rfl⟩ := lts_at hx
        have j4 := hw4 j (List.mem_of_getElem? hj)
        have hd : w.drop i = j :: w.drop (i + 1) := by
          have hi := (List.getElem?_eq_some_iff.mp hj).1
          have := (List.getElem?_eq_some_iff.mp hj).2
          rw [← this]
          exact List.drop_eq_getElem_cons hi
        rw [hd, chkGo_cons] at hgo
        have sc : scal (oN (nxt v)) (V.int (j : Int)) = true := by cases nxt v <;> rfl
        refine q_asg (v := .int (j : Int)) (ev_is (ev_sub (ev_intS j4 (ev_var rfl)) ev_c) (congrArg V.int (by omega))) fun H6 e6 => ?_
        have un : IsUnit v → nxt v ≠ some j := fun u z => by rw [unit_nxt u] at z; cases z
        refine q_when (b := !decide (nxt v = some j)) (et_test (ev_is (ev_op (nEv rfl (hv.ex e6)) (ev_var rfl) (rv_ne sc)) (by rw [dec_oN]))) (fun z H7 e7 => ?_) (fun z H7 e7 => ?_)
        · have z : nxt v ≠ some j := by simpa using z
          rw [if_pos (.inr z)] at hgo
          have kk := k H7 ((e5.trans e6).trans e7)
          have ec : chkAbs (parts F C) w = false := by rw [hpt]; exact hgo
          rw [ec] at kk
          exact kk
        · have z : nxt v = some j := by simpa using z
          rw [if_neg (by rintro (u | u); exact un u z; exact u z)] at hgo
          refine ⟨_, rfl, _, rfl, p', v, j, rfl, j4, hv.ex (e6.trans e7), fun H8 q' _ e8 hq' => ?_⟩
          exact ⟨q', beh v j, _, _, rfl, ((e5.trans e6).trans e7).trans e8, hq', hgo⟩
      · rintro σ' H' ⟨p', v, nv, kv, rfl, e5, hv, hgo⟩
        have ed : w.drop ((lts w).map V.str).length = [] := by rw [List.length_map, lts_len, List.drop_length]
        rw [ed] at hgo
        refine s_ret (ev_is (ev_andV (ev_unitN (ev_var rfl) hv) (fun _ => ev_isN (nEv rfl hv) (dec_oNN _))) (congrArg V.bl (a₂ := chkAbs (parts F C) w) ?_)) fun H6 e6 => k H6 (e5.trans e6)
        rw [hpt]
        exact hgo.symm
end
end K64


namespace K64
open PySem PySem.Spec PyProof.Rows L2 Evl
theorem cut_take {xs : List V} (k : Nat) : cutV xs none (some (k : Int)) = xs.take k := by
  unfold cutV
  rw [HT.sIx_none, HT.sIx_nat, List.drop_zero, Nat.sub_zero, Nat.min_def]
  split
  · rfl
  · rename_i h
    rw [List.take_of_length_le (Nat.le_refl _), List.take_of_length_le (by omega)]
theorem cut_drop {xs : List V} (k : Nat) : cutV xs (some (k : Int)) none = xs.drop k := by
  unfold cutV
  rw [HT.sIx_none, HT.sIx_nat, Nat.min_def]
  split
  · rw [List.take_of_length_le (by rw [List.length_drop]; omega)]
  · rename_i h
    rw [List.drop_of_length_le (i := k) (by omega), List.drop_of_length_le (Nat.le_refl _), Nat.sub_self]
    rfl
/-- a text's words: the head, the letters -/
structure WF (hd : Str) (w : List Nat) : Prop where
  head : hd = sThere ∨ hd = sAbsent
  some : hd = sThere → w ≠ []
  four : ∀ k ∈ w, k < 4
theorem WF.small {hd : Str} {w : List Nat} (h : WF hd w) : ∀ s ∈ hd :: lts w, Small s := fun s hs => by
  rcases List.mem_cons.mp hs with rfl | hs
  · rcases h.head with rfl | rfl
    · exact small_there
    · exact small_absent
  · exact small_lts _ _ hs
theorem lts_app (u w : List Nat) : lts (u ++ w) = lts u ++ lts w := by unfold lts; rw [List.map_append]
theorem lts_take (w : List Nat) (j : Nat) : lts (w.take j) = (lts w).take j := by unfold lts; rw [List.map_take]
theorem lts_drop (w : List Nat) (j : Nat) : lts (w.drop j) = (lts w).drop j := by unfold lts; rw [List.map_drop]
section
variable {P : Program} {w : World} {K : PySem.W.Frag} {mg : Str → Option Value} {base : Heap} {a : Ad}
/-! ### _law_changed -/
def spChanged : Sp := fun vs H Q _ => ∃ (lw ln : Addr) (hd : Str) (w : List Nat) (ns : List Int), vs = [.ref lw, .ref ln] ∧ H lw = some (.lst ((hd :: lts w).map V.str)) ∧ WF hd w ∧ w.length ≤ 30000 ∧ H ln = some (.lst (ns.map V.int)) ∧ ns.length = 60 ∧
  ∀ (H' : Hp) (p : Addr) (hd' : Str) (w' : List Nat), Ex H H' → H' p = some (.lst ((hd' :: lts w').map V.str)) → WF hd' w' → w'.length ≤ w.length + 2 → Q (.ref p) H'
theorem sc_changed : FnScope ["_law_words", "_law_numbers_here", "_law_choice", "_law_letter", "_law_at"] ["_law_words", "_law_numbers_here"] (defScope s_l_changed) := ⟨rfl, rfl, rfl, by decide +kernel, rfl, by decide +kernel, by decide +kernel⟩
theorem ok_changed (T : Txt K mg a) : Okd P w K mg base CX0 1 "_law_changed" a.l_changed ["_law_words", "_law_numbers_here"] spChanged := by
  refine T.l_changed.ok sc_changed (fun vs H Q E h => ?_) (fun cdv A outer s H vs Q E hr h => ?_)
  · obtain ⟨lw, ln, hd, w, ns, rfl, _⟩ := h
    rfl
  · obtain ⟨lw, ln, hd, w, ns, rfl, hlw, wf, wz, hln, hn, k⟩ := h
    have nd := sc_changed.nd
    refine ⟨_, pss_cons (ps_set (i := 2) nd rfl (.inl rfl) (pe_op op_mod (pe_callTy (T := "int") (r := rInt1) call_int1 (by rfl) T.b_int (by decide +kernel) (pa_cons (pe_ix (r := rIxL K) ix_list (pv 1) pe_int (fun _ _ => rfl)) pa_nil)) pe_int))
      (pss_cons (ps_set (i := 3) nd rfl (.inl rfl) (pe_callTy (T := "str") (r := rStr) call_strB (by rfl) T.b_str (by decide +kernel) (pa_cons (pe_op op_add pe_int (pe_op op_mod (pe_callTy (T := "int") (r := rInt1) call_int1 (by rfl) T.b_int (by decide +kernel) (pa_cons (pe_ix (r := rIxL K) ix_list (pv 1) pe_int (fun _ _ => rfl)) pa_nil)) pe_int)) pa_nil)))
      (pss_cons (ps_set (i := 4) nd rfl (.inl rfl) (pe_op op_add pe_int (pe_op op_mod (pe_callTy (T := "int") (r := rInt1) call_int1 (by rfl) T.b_int (by decide +kernel) (pa_cons (pe_ix (r := rIxL K) ix_list (pv 1) pe_int (fun _ _ => rfl)) pa_nil)) (pe_callB (call_max2 rfl) (by rfl) T.b_max (by decide +kernel) (pa_cons pe_int (pa_cons (pe_op op_sub (pe_callB call_len_seq (by rfl) T.b_len PySem.boot_len (pa_cons (pv 0) pa_nil)) pe_int) pa_nil))))))
      (pss_cons (ps_if (pt_cmpR op_eq (pv 2) pe_int (nomark _)) (pss_one (ps_ret (pe_op op_cat (pe_op op_cat (pe_slice sl_list (pv 0) po_none (po_some (pv 4))) (pe_lst (pa_cons (pv 3) pa_nil))) (pe_slice sl_list (pv 0) (po_some (pe_op op_add (pv 4) pe_int)) po_none)))) pss_nil)
      (pss_cons (ps_if (pt_cmpR op_eq (pv 2) pe_int (nomark _)) (pss_one (ps_ret (pe_op op_cat (pe_op op_cat (pe_slice sl_list (pv 0) po_none (po_some (pv 4))) (pe_lst (pa_cons (pv 3) pa_nil))) (pe_slice sl_list (pv 0) (po_some (pv 4)) po_none)))) pss_nil)
      (pss_cons (ps_if (PW.pt (pw_and (pt_cmpR op_eq (pv 2) pe_int (nomark _)) (pw_and1 (pt_cmpR op_gt (pe_callB call_len_seq (by rfl) T.b_len PySem.boot_len (pa_cons (pv 0) pa_nil)) pe_int (nomark _))))) (pss_one (ps_ret (pe_op op_cat (pe_slice sl_list (pv 0) po_none (po_some (pv 4))) (pe_slice sl_list (pv 0) (po_some (pe_op op_add (pv 4) pe_int)) po_none)))) pss_nil)
      (pss_cons (ps_if (pt_cmpR op_eq (pv 2) pe_int (nomark _)) (pss_one (ps_ret (pe_op op_cat (pe_lst (pa_cons pe_str (pa_cons (pv 3) pa_nil))) (pe_slice sl_list (pv 0) (po_some pe_int) po_none)))) pss_nil)
      (pss_cons (ps_if (pt_cmpR op_eq (pv 2) pe_int (nomark _)) (pss_one (ps_ret (pe_op op_cat (pv 0) (pe_lst (pa_cons (pv 3) (pa_cons (pv 3) pa_nil)))))) pss_nil)
      (pss_one (ps_ret (pv 0)))))))))), ?_⟩
    have hlw' : ∀ {H' : Hp}, Ex H H' → SqL K H' lw ((hd :: lts w).map V.str) := fun e => SqL.of (e _ _ hlw)
    have nj : ∀ (j : Nat) {σ : L2.St} {H' : Hp}, j < 60 → σ[1]? = some (some (.ref ln)) → Ex H H' → Ev (tCB rInt1 (tCons (tOp (rIxL K) (tVar 1) (tC (.int (j : Int)))) tNil)) σ H' (.int (nth ns j)) := fun j {σ H'} hj h1 e => ev_int (ev_ixL (ev_var h1) ev_c (e _ _ hln) (nth_at (ns := ns) (i := j) (by omega)))
    have lenE : ∀ {σ : L2.St} {H' : Hp}, σ[0]? = some (some (.ref lw)) → Ex H H' → Ev (tCB (rLenS K) (tCons (tVar 0) tNil)) σ H' (.int ((w.length + 1 : Nat) : Int)) := fun {σ H'} h0 e => ev_is (ev_len (ev_var h0) (hlw' e)) (congrArg V.int (by rw [List.length_map, List.length_cons, lts_len]))
    refine q_asg (ev_mod (nj 43 (by decide) rfl (Ex.refl _)) ev_c (by decide)) fun H1 e1 => ?_
    have c4 : (nth ns 44 % 4).toNat < 4 := by omega
    refine q_asg (v := .str (ltr (nth ns 44 % 4).toNat)) (ev_strI c4 (ev_is (ev_add ev_c (ev_mod (nj 44 (by decide) rfl e1) ev_c (by decide))) (congrArg V.int (by omega)))) fun H2 e2 => ?_
    generalize (nth ns 44 % 4).toNat = c at c4
    have e12 := e1.trans e2
    obtain ⟨j, hj, eAt⟩ : ∃ j : Nat, (j = 0 ∨ j < w.length) ∧ Ev (tOp rAdd (tC (.int 1)) (tOp (rI (fun _ j => 0 < j) fun i j => .int (i % j)) (tCB rInt1 (tCons (tOp (rIxL K) (tVar 1) (tC (.int ((45 : Nat) : Int)))) tNil)) (tCB (fun xs H Q => ∃ i j, xs = [.int i, .int j] ∧ Q (.int (if j > i then j else i)) H) (tCons (tC (.int 1)) (tCons (tOp rSub (tCB (rLenS K) (tCons (tVar 0) tNil)) (tC (.int 1))) tNil)))))
        [some (.ref lw), some (.ref ln), some (.int (nth ns 43 % 6)), some (.str (ltr c)), none] H2 (.int ((1 + j : Nat) : Int)) := by
      have hm : ∃ m : Int, (m = 1 ∨ m = (w.length : Int)) ∧ 1 ≤ m ∧ (if (((w.length + 1 : Nat) : Int) - 1) > 1 then ((w.length + 1 : Nat) : Int) - 1 else 1) = m := by
        split
        · exact ⟨_, .inr (by omega), by omega, rfl⟩
        · exact ⟨_, .inl rfl, by omega, rfl⟩
      obtain ⟨m, hm1, hm2, hm3⟩ := hm
      refine ⟨(nth ns 45 % m).toNat, ?_, ev_is (ev_add ev_c (ev_mod (nj 45 (by decide) rfl e12) (ev_is (ev_max2 ev_c (ev_sub (lenE rfl e12) ev_c)) (congrArg V.int hm3)) (by omega))) (congrArg V.int ?_)⟩
      · have a1 := Int.emod_nonneg (nth ns 45) (show m ≠ 0 by omega)
        have a2 := Int.emod_lt_of_pos (nth ns 45) (show 0 < m by omega)
        omega
      · have a1 := Int.emod_nonneg (nth ns 45) (show m ≠ 0 by omega)
        omega
    refine q_asg eAt fun H3 e3 => ?_
    have e13 := e12.trans e3
    have jw : j ≤ w.length := by omega
    have tk : (((hd :: lts w).map V.str).take (1 + j)) = (hd :: lts (w.take j)).map V.str := by
      rw [Nat.add_comm 1 j, lts_take, List.map_cons, List.map_cons, List.take_succ_cons, List.map_take]
    have dr : ∀ i : Nat, (((hd :: lts w).map V.str).drop (i + 1)) = (lts (w.drop i)).map V.str := fun i => by
      rw [lts_drop, List.map_cons, List.drop_succ_cons, List.map_drop]
    have ltk : ∀ {σ : L2.St} {H' : Hp}, σ[0]? = some (some (.ref lw)) → σ[4]? = some (some (.int ((1 + j : Nat) : Int))) → Ex H H' → EvL (tSl (rSlL K) (tVar 0) tNoPart (tPart (tVar 4))) σ H' ((hd :: lts (w.take j)).map V.str) := fun {σ H'} h0 h4 e => el_is (el_sl (lo := none) (hi := some ((1 + j : Nat) : Int)) (ev_var h0) eo_none (eo_some (ev_var h4)) (hlw' e)) ((cut_take _).trans tk)
    have ldr : ∀ (i : Nat) {te : TE} {σ : L2.St} {H' : Hp}, σ[0]? = some (some (.ref lw)) → Ev te σ H' (.int ((i + 1 : Nat) : Int)) → Ex H H' → EvL (tSl (rSlL K) (tVar 0) (tPart te) tNoPart) σ H' ((lts (w.drop i)).map V.str) := fun i {te σ H'} h0 h4 e => el_is (el_sl (lo := some ((i + 1 : Nat) : Int)) (hi := none) (ev_var h0) (eo_some h4) eo_none (hlw' e)) ((cut_drop _).trans (dr i))
    have lone : ∀ {σ : L2.St} {H' : Hp}, σ[3]? = some (some (.str (ltr c))) → EvL (tLst (tCons (tVar 3) tNil)) σ H' ((lts [c]).map V.str) := fun {σ H'} h3 => el_lst (ea_cons (ev_var h3) ea_nil) (show 1 ≤ 100000 by decide)
    have tl : (w.take j).length ≤ 30000 := by rw [List.length_take]; omega
    have mt : ∀ x ∈ w.take j, x < 4 := fun x hx => wf.four x (List.mem_of_mem_take hx)
    have md : ∀ (i : Nat), ∀ x ∈ w.drop i, x < 4 := fun i x hx => wf.four x (List.mem_of_mem_drop hx)
    have mc : ∀ x ∈ [c], x < 4 := fun x hx => by rw [List.mem_singleton.mp hx]; exact c4
    have ma : ∀ {u v : List Nat}, (∀ x ∈ u, x < 4) → (∀ x ∈ v, x < 4) → ∀ x ∈ u ++ v, x < 4 := fun hu hv x hx => by
      rcases List.mem_append.mp hx with h | h
      · exact hu x h
      · exact hv x h
    refine q_when (et_test (ev_eqI (ev_var rfl) ev_c)) (fun _ H4 e4 => ?_) (fun _ H4 e4 => ?_)
    · have e14 := e13.trans e4
      refine s_retL (xs := (hd :: lts (w.take j ++ [c] ++ w.drop (1 + j))).map V.str) (el_is (el_cat (el_cat (ltk rfl rfl e14) (lone rfl) ?_) (ldr (1 + j) rfl (ev_is (ev_add (ev_var rfl) ev_c) (congrArg V.int (by omega))) e14) ?_) ?_) fun p H5 hp e5 h5 => k H5 p hd _ (e14.trans e5) h5 ⟨wf.head, fun _ => by simp, ma (ma mt mc) (md _)⟩ ?_
      · simp [lts_len]; omega
      · simp [lts_len]; omega
      · rw [lts_app, lts_app]; simp
      · simp; omega
    · have e14 := e13.trans e4
      refine q_when (et_test (ev_eqI (ev_var rfl) ev_c)) (fun _ H5 e5 => ?_) (fun _ H5 e5 => ?_)
      · have e15 := e14.trans e5
        refine s_retL (xs := (hd :: lts (w.take j ++ [c] ++ w.drop j)).map V.str) (el_is (el_cat (el_cat (ltk rfl rfl e15) (lone rfl) ?_) (ldr j rfl (ev_is (ev_var rfl) (congrArg V.int (by omega))) e15) ?_) ?_) fun p H6 hp e6 h6 => k H6 p hd _ (e15.trans e6) h6 ⟨wf.head, fun _ => by simp, ma (ma mt mc) (md _)⟩ ?_
        · simp [lts_len]; omega
        · simp [lts_len]; omega
        · rw [lts_app, lts_app]; simp
        · simp; omega
      · have e15 := e14.trans e5
        refine q_when (et_and (et_test (ev_eqI (ev_var rfl) ev_c)) (fun _ => et_test (ev_gt (lenE rfl e15) ev_c))) (fun z H6 e6 => ?_) (fun _ H6 e6 => ?_)
        · have e16 := e15.trans e6
          have z2 : 2 < w.length + 1 := by
            have := (Bool.and_eq_true_iff.mp z).2
            have := of_decide_eq_true this
            omega
          refine s_retL (xs := (hd :: lts (w.take j ++ w.drop (1 + j))).map V.str) (el_is (el_cat (ltk rfl rfl e16) (ldr (1 + j) rfl (ev_is (ev_add (ev_var rfl) ev_c) (congrArg V.int (by omega))) e16) ?_) ?_) fun p H7 hp e7 h7 => k H7 p hd _ (e16.trans e7) h7 ⟨wf.head, fun _ y => ?_, ma mt (md _)⟩ ?_
          · simp [lts_len]; omega
          · rw [lts_app]; simp
          · have := congrArg List.length y
            rw [List.length_append, List.length_take, List.length_drop, List.length_nil] at this
            omega
          · simp; omega
        · have e16 := e15.trans e6
          refine q_when (et_test (ev_eqI (ev_var rfl) ev_c)) (fun _ H7 e7 => ?_) (fun _ H7 e7 => ?_)
          · have e17 := e16.trans e7
            refine s_retL (xs := (sThere :: lts (c :: w)).map V.str) (el_is (el_cat (xs := [.str sThere, .str (ltr c)]) (el_lst (ea_cons ev_c (ea_cons (ev_var rfl) ea_nil)) (show 2 ≤ 100000 by decide)) (ldr 0 rfl ev_c e17) ?_) ?_) fun p H8 hp e8 h8 => k H8 p sThere _ (e17.trans e8) h8 ⟨.inl rfl, fun _ => by simp, fun x hx => ?_⟩ ?_
            · simp [lts_len]; omega
            · rw [List.drop_zero]; rfl
            · rcases List.mem_cons.mp hx with rfl | h
              · exact c4
              · exact wf.four x h
            · simp
          · have e17 := e16.trans e7
            refine q_when (et_test (ev_eqI (ev_var rfl) ev_c)) (fun _ H8 e8 => ?_) (fun _ H8 e8 => ?_)
            · have e18 := e17.trans e8
              have cat : EvL (tOp rCat (tVar 0) (tLst (tCons (tVar 3) (tCons (tVar 3) tNil)))) [some (.ref lw), some (.ref ln), some (.int (nth ns 43 % 6)), some (.str (ltr c)), some (.int ((1 + j : Nat) : Int))] H8 ((hd :: lts w).map V.str ++ (lts [c, c]).map V.str) := fun H9 e9 Q' q' =>
                (ev_var (i := 0) rfl) H9 e9 _ fun H10 e10 => (el_lst (ea_cons (ev_var (i := 3) rfl) (ea_cons (ev_var (i := 3) rfl) ea_nil)) (show 2 ≤ 100000 by decide)) H10 (e9.trans e10) _ fun l2 H11 _ e11 h11 => ⟨lw, l2, _, _, rfl, rfl, (((e18.trans e9).trans e10).trans e11) _ _ hlw, h11, sz_of (by simp [lts_len]; omega), fun l hl => q' l _ (fresh_back (e10.trans e11) hl) ((e10.trans e11).trans (Ex.new hl)) upd_same⟩
              refine s_retL (xs := (hd :: lts (w ++ [c, c])).map V.str) (el_is cat ?_) fun p H9 hp e9 h9 => k H9 p hd _ (e18.trans e9) h9 ⟨wf.head, fun _ => by simp, fun x hx => ?_⟩ ?_
              · rw [lts_app]; simp
              · rcases List.mem_append.mp hx with h | h
                · exact wf.four x h
                · have : x = c := by simpa using h
                  rw [this]; exact c4
              · simp
            · have e18 := e17.trans e8
              exact ⟨_, rfl, k H8 lw hd w e18 (e18 _ _ hlw) wf (by omega)⟩
end
end K64


namespace K64
open PySem PySem.Spec PySem.Calls PyProof.Rows L2 Evl
open PySem.HandSPX (excO)
/-! ### InvalidPaper.__init__: super().__init__(text); self.line = line -/
structure Pap (P : Program) (K : PySem.W.Frag) (mg : Str → Option Value) (C fI cc cda : Addr) : Prop where
  gl : mg "InvalidPaper" = some (.ref C)
  oex : OexC K C
  iC : PySem.W.findIn K (.ref C) "__init__" = some (some (.ref fI))
  tI : PySem.W.typeIn K (.ref fI) = some (.type "function")
  noN : PySem.W.findIn K (.ref C) "line" = some none
  fn : ∃ (oc : Value) (od : Option Addr) (kV doc pm : Value) (an : Option Addr) (ct : Value) (osl : Array (Option Value)), K.lookup fI = some ⟨oc, od, .func (PySem.W.ksFn "__init__" "InvalidPaper.__init__" (defArgs i_paper) (defBody i_paper) (defScope i_paper) .none kV doc pm an (.ref cda) ct cc), osl⟩
  cdI : PySem.W.codeIn K (.ref cda) "InvalidPaper.__init__" = true
  code : ∃ (ccl : Value) (cdd : Option Addr) (vs : Array Value) (ccs : Array (Option Value)) (file : Str) (tf : Tok), K.lookup cda = some ⟨ccl, cdd, .fields vs, ccs⟩ ∧ vs[2]? = some (.str file tf) ∧ ((P.main.file : Str) == file) = true
  cell : ∃ (cl : Value) (cld : Option Addr) (csl : Array (Option Value)), K.lookup cc = some ⟨cl, cld, .cell (some (.ref C)), csl⟩
  opq : PySem.W.nsIn K cStatics "thirdparty.any" = some none
  subV : PySem.W.subIn K (.ref C) (.type "ValueError") = some true
  sup : PySem.W.ks_superIn K C C "__init__" = some (some (.builtin "ValueError.__init__"))
  mro : PySem.W.mroIn K C (.ref C) = some true
  htop : (P.main.scope.names.lookup ("super" : Str)).isSome = false
  bsup : mg "super" = none
theorem pap_cell : ∀ x ∈ (defScope i_paper).names, x.2 ≠ .cell := by decide +kernel
theorem pap_loc (a b : Value) : ∀ x ∈ ([("self", a), ("line", b)] : List (Str × Value)), (defScope i_paper).names.lookup x.1 = some .local := fun x h => by
  rcases List.mem_cons.mp h with rfl | h
  · rfl
  · rw [List.mem_singleton.mp h]; rfl
section
variable {P : Program} {w : World} {A : Around} {E : Value → Shared → Prop} {R : Result → Shared → Prop} {K : PySem.W.Frag} {mg mb : Str → Option Value} {C fI cc cda : Addr} {h : Heap} {g : Array GenState} {d : PySem.Drawn} {t : Nat} {os : OsState}
theorem callWith_mw {pos : Pos} {u x : Addr} {i : String} {env : Env} {Q : Value → Shared → Prop} {s : Shared} {st : Str} {k : Nat} {p : Pos} (hu : s.heap.get? u = some (PySem.W.kxs_mw i x))
    (h : ∀ tk tk', wpAny (model P w) A (call (.ref u) [.str st tk]) Q E { s with toks := tk' }) (he : starEach [.Constant (.str st) k p] env = [(false, eval (.Constant (.str st) k p) env)] := by rfl) : wpAny (model P w) A (callWith pos (.ref u) [] (backTo pos (starEach [.Constant (.str st) k p] env)) []) Q E s := by
  rw [he]
  refine PySem.W.kxs_callWith (i := i) (x := x) rfl (evalArgs_plain (spliced_cons (Constant_str (k := k) (pos := p) (spliced_nil ⟨hu, ?_⟩))))
  exact h _ _
/-- the bound __init__ called -/
theorem call_mw {nm q : Str} {N : Addr} {bs bm : List Value} {hdct : Bool} {sn : List Str} {sub : List Value} {ab : Bool} {col : Option Bool} {dd : Option Addr} {k0 k1 k2 k3 k5 : Option Value} {u e t0 : Addr} {rest : List Value} {Q : Value → Shared → Prop}
    (hC : h.get? C = some (excClassObj nm q C N bs bm hdct sn sub ab col dd k0 k1 k2 k3 k5 "ValueError.__new__")) (he : h.get? e = some (excO C t0)) (hu : h.get? u = some (PySem.W.kxs_mw "ValueError.__init__" e)) (hrest : rest.length ≤ sizeLine)
    (hq : ∀ h' t1, (∀ b o, b ≠ e → h.get? b = some o → h'.get? b = some o) → h'.get? e = some (excO C t1) → Q .none ⟨h', g, d, t, os⟩) :
    wpAny (model P w) A (call (.ref u) rest) Q E ⟨h, g, d, t, os⟩ := by
  refine wpAny_call (codeAny_of_tree ?_)
  show wpAny _ A.in1 (callAny (.ref u) ⟨rest, []⟩) _ _ _
  simp only [callAny]
  refine wpAny_bind (wpAny_load hu ?_)
  simp only [PySem.W.kxs_mw, show (Value.type "method-wrapper" == Value.type "method" || Value.type "method-wrapper" == Value.type "builtin_function_or_method" || Value.type "method-wrapper" == Value.type "method-wrapper") = true by decide, if_true]
  refine PySem.W.KFB.if_so (by decide) ?_
  refine wpAny_bind (PySem.W.check_bound_init F.excBase_ValueError.toExcCallFacts hC he rfl ?_)
  refine wpAny_bind (wpAny_pure (wpAny_pure ?_))
  refine ⟨Code.quiet_builtin _ (by decide +kernel), codeAny_builtin F.excBase_ValueError.initEntry ?_⟩
  rw [Around.under_plainId F.excBase_ValueError.init.plain _]
  exact PySem.W.exc_init_tree (cls := .ref C) (t0 := t0) (dv := none) (c2 := .none) (c3 := .none) (b4 := .bool false) he hrest fun h' k e' _ => hq h' _ k e'
theorem pap_init (T : Pap P K mg C fI cc cda) {x t0 : Addr} {v : Value} (X : K.In h) (hg : h.Ns mainGlobals mg) (hb : h.Ns builtinsNs mb) (hbb : ∀ x : Str, x ≠ "__name__" → mb x = bootBuiltins x) (hlim : h.NoLimit) (hx : h.get? x = some (excO C t0)) (hnx : K.lookup x = none) (hroom : A.depth < recursionLimit)
    (hq : ∀ h' tk dx t1, (∀ b o, b ≠ x → h.get? b = some o → h'.get? b = some o) → h.objs.size ≤ dx → dx ≠ x → h'.get? x = some { cls := .ref C, dict := some dx, data := .fields #[.ref t1, .none, .none, .none, .bool false, .none] } → h'.Ns1 dx (fun y => if y = "line" then some v else none) → R (.ok (.ret .none)) ⟨h', g, d, tk, os⟩) :
    codeAny (model P w) A (.call (.ref fI) ⟨[.ref x, v], []⟩) R ⟨h, g, d, t, os⟩ := by
  obtain ⟨oc, od, kV, doc, pm, an, ct, osl, ho⟩ := T.fn
  obtain ⟨nm, q, N, bs, bm, sn, sub, ab, col, dd, k0, k1, k2, k3, k5, hC, hbm⟩ := T.oex.cls
  obtain ⟨ccl, cdd, vs, ccs, file, tf, hcode, hvs, hfile⟩ := T.code
  obtain ⟨cl, cld, csl, hcell⟩ := T.cell
  have hcl : PySem.W.clsIn K C = some { name := nm, bases := bs, mro := .ref C :: bm, ns := N, qualname := q, hasDict := true, slotNames := sn, subclasses := sub, abstract := ab, collection := col, hasDel := false } := by unfold PySem.W.clsIn; rw [hC] <;> rfl
  refine ks_codeAny_call_defAt (binds := [("self", .ref x), ("line", v)]) hroom (X _ _ ho) rfl hlim (PySem.W.codeRec_of X T.cdI) rfl (BindsTo.of_eq (by first | rfl | with_unfolding_all rfl | kernel_rfl)) pap_cell (pap_loc _ _) (fun h₁ hns hk => ?_) rfl rfl rfl
  have hxL : h.objs.size ≠ x := Nat.ne_of_gt (Heap.lt_size hx)
  have X₁ : K.In h₁ := X.keeps hk
  have hx₁ := hk _ _ hx
  refine ks_wpAt_execs_cons (ks_wpAt_Expr_any (ks_wpAt_MethodCall ?_))
  refine ks_wpAt_super_base (by rfl) (by rfl) (by rfl) rfl (X₁ _ _ ho) rfl (by rfl) rfl (X₁ _ _ hcode) rfl hvs hfile T.htop ?_
  refine PySem.W.ks_loadName_global (by rfl) (by rfl) (loadGlobal_builtin (hg.keeps hk) T.bsup (hb.keeps hk) ((hbb _ (by decide)).trans (show bootBuiltins "super" = some (.type "super") from by kernel_rfl)) ⟨rfl, ?_⟩)
  refine wpAny_loadName_free (by rfl) (by rfl) rfl ⟨_, X₁ _ _ hcell, rfl⟩ ?_
  refine wpAny_loadName_local (by rfl) (by rfl) hns (v := .ref x) (by rfl) ?_
  refine ks_wpAny_isType_cls (X₁ _ _ hC) rfl ⟨rfl, ?_⟩
  refine ks_wpAny_call_super (X₁ _ _ hC) rfl hx₁ rfl (fun c z => nomatch z) (PySem.W.looks_mroIn X₁ T.mro) (fun h₂ e₂ k₂ => ?_)
  have X₂ : K.In h₂ := X₁.keeps k₂
  have hx₂ := k₂ _ _ hx₁
  have I₂ : PySem.W.InstAt h₂ x (excO C t0) C none := ⟨hx₂, rfl, rfl, trivial⟩
  have hsup := T.sup
  unfold PySem.W.ks_superIn at hsup
  rw [hcl] at hsup
  refine PySem.W.kxs_getMethod PySem.W.kxs_ValueError e₂ (PySem.W.looks_opaque X₂ T.opq) (l₀ := .ref C :: bm) (fun A Q E s k q => wpAny_bind ((PySem.W.looks_clsIn X₂ hcl) A _ E s k (wpAny_pure q))) rfl X₂ hsup (I₂.type.andThen (PySem.W.looks_subIn X₂ T.subV)) (PySem.W.ks_ne X₂ I₂ hcl) (by decide) ?_
  have k₃ : ∀ b o, h₂.get? b = some o → (h₂.push (PySem.W.kxs_mw "ValueError.__init__" x)).get? b = some o := fun b o => Heap.get?_push_of_some _
  refine callWith_mw (Heap.get?_push_at rfl rfl) (fun tk tk' => ?_)
  refine call_mw ((X₂.keeps k₃) _ _ hC) (k₃ _ _ hx₂) (Heap.get?_push_at rfl rfl) (show 1 ≤ sizeLine by decide) (fun h₄ t1 k₄ hx₄ => ?_)
  -- self.line = line
  have nL : ∀ {b o}, b ≠ x → h₁.get? b = some o → h₄.get? b = some o := fun {b o} hb e => k₄ b o hb (k₃ _ _ (k₂ _ _ e))
  have X₄ : K.In h₄ := fun b o e => nL (fun z => by rw [z, hnx] at e; cases e) (X₁ b o e)
  have hns₄ : h₄.Ns h.objs.size (fun y => ([("self", .ref x), ("line", v)] : List (Str × Value)).reverse.lookup y) := hns.at fun o q => nL hxL q
  refine wpAt_of_wpAny ?_
  refine wpAny_execs_cons (plainObj_wpAny_Assign_Attribute ?_)
  refine wpAny_Name (wpAny_loadName_local (by rfl) (by rfl) hns₄ (v := v) (by rfl) (wpAny_Name (wpAny_loadName_local (by rfl) (by rfl) hns₄ (v := .ref x) (by rfl) ?_) (by decide))) (by decide)
  refine PySem.W.set_plain X₄ (ox := excO C t1) (od := none) ⟨hx₄, rfl, rfl, trivial⟩ T.oex.sa ?_
  refine PySem.HandSPX.exc_osa X₄ hx₄ hcl (show PySem.HandSPX.refsVE (.ref C :: bm) = true from hbm) rfl T.noN (fun h₅ tk₅ dx k₅ dn dne hx₅ hn₅ => ?_)
  refine wpAny_execs_nil (hq h₅ tk₅ dx t1 (fun b o hb e => k₅ b o hb (nL hb (hk b o e))) (Nat.le_of_lt (Nat.lt_of_lt_of_le hns₄.lt dn)) dne hx₅ hn₅)
end
end K64


namespace K64
open PySem PySem.Spec PySem.Calls PyProof.Rows L2 Evl
open PySem.HandSPX (excO)
/-- InvalidPaper(e) made -/
def tMkPap (C : Addr) (ta : TA) : L2.St → Hp → XK → Prop := fun σ H Q => ta σ H fun vs H1 => ∃ y, vs = [y] ∧ ∀ d, H1 d = none → Q (.ref C) (some d) (upd H1 d (.xd [(("line" : Str), y)]))
section
variable {X : Cx} {e : Expr} {es : List Expr} {ta : TA} {p pos : Pos} {C fI cc cda : Addr} {k : Nat}
theorem pmk_pap (T : Pap X.prog X.K X.mg C fI cc cda) (hr : Room (k + 1) X.A) (hg : Gl X "InvalidPaper") (ha : PA X (e :: es) ta)
    (he : starEach (e :: es) X.env = (false, eval e X.env) :: starEach es X.env := by rfl) (hpl : (backTo pos (starEach es X.env)).any (·.1) = false := by rfl) :
    PMk X (.Call (.Name "InvalidPaper" p) (e :: es) [] pos) (tMkPap C ta) := by
  intro pins s σ H Q I h
  obtain ⟨nm, q, N, bs, bm, sn, sub, ab, col, dd, k0, k1, k2, k3, k5, hC, hbm⟩ := T.oex.cls
  refine wpAny_Call_Name_kw (ld_glob I hg T.gl ?_ (by decide))
  refine PySem.W.callWith_K (h₀ := X.base) I.ok.mod.kin T.oex.kC (thn (ha.run pos pins s σ H _ I h) fun us s1 ⟨vs, H1, I1, r1, y, ev, q1⟩ => ⟨I1.kIn, ?_⟩) he hpl
  subst ev
  obtain ⟨u, rfl, ry⟩ : ∃ u, us = [u] ∧ RelV y u := by
    cases r1 with
    | cons a b =>
      cases b
      exact ⟨_, rfl, a⟩
  show wpAny _ _ (call (.ref C) [u]) _ _ _
  obtain ⟨hp, g, dr, tk, os⟩ := s1
  have hsz : hp.objs.size ≤ hp.objs.size + 1 := Nat.le_succ _
  have kk : ∀ b o, hp.get? b = some o → ((hp.push (PySem.W.kdv_tup [u])).push (PySem.HandSPX.excO C hp.objs.size)).get? b = some o := fun b o e => Heap.get?_push_of_some _ (Heap.get?_push_of_some _ e)
  have hget : ((hp.push (PySem.W.kdv_tup [u])).push (PySem.HandSPX.excO C hp.objs.size)).get? (hp.objs.size + 1) = some (PySem.HandSPX.excO C hp.objs.size) := by heap_get
  have I2 : Inv X pins σ (upd H1 (hp.objs.size + 1) (exo (hp.objs.size + 1) C none)) ⟨(hp.push (PySem.W.kdv_tup [u])).push (PySem.HandSPX.excO C hp.objs.size), g, dr, tk, os⟩ :=
    I1.laid (t' := tk) (a := hp.objs.size + 1) (o := exo (hp.objs.size + 1) C none) (h' := (hp.push (PySem.W.kdv_tup [u])).push (PySem.HandSPX.excO C hp.objs.size)) kk hsz (exo_ok hget)
  have hnx : X.K.lookup (hp.objs.size + 1) = none := by
    cases z : X.K.lookup (hp.objs.size + 1) with
    | none => rfl
    | some o => exact absurd (Nat.lt_of_succ_lt (Heap.lt_size (I1.kIn _ _ z))) (Nat.lt_irrefl _)
  have hN : H1 (hp.objs.size + 1) = none := I1.hok.fresh hsz
  obtain ⟨mb, hb1, hb2⟩ := I2.mod.blt
  refine wpAny_call (PySem.HandSPX.call_own F.excBase_ValueError (fun Y => PySem.HandSPX.refsVE_contains Y bm hbm) (I1.kIn _ _ hC) (PySem.W.looks_findIn I1.kIn T.iC) (fun self => PySem.W.bind_fn I1.kIn self T.tI) (show 1 ≤ sizeLine by decide)
    (pap_init T I2.kIn (I2.mod.glob.keeps I2.bk) (hb1.keeps I2.bk) hb2 I2.nolimit hget hnx (by have := (hr.make C [u] []).dp; omega) (fun h' tk' dx t1 k3 dn dne hx hn => ?_)))
  generalize hHp : (hp.push (PySem.W.kdv_tup [u])).push (PySem.HandSPX.excO C hp.objs.size) = hp2 at *
  generalize hp.objs.size + 1 = a at *
  have e : (upd H1 a (exo a C none)) a = some (exo a C none) := upd_same
  have hnd : (upd H1 a (exo a C none)) dx = none := I2.hok.fresh dn
  have nd : ∀ {b : Addr} {o : Obj}, hp2.get? b = some o → b ≠ dx := fun {b o} q => Nat.ne_of_lt (Nat.lt_of_lt_of_le (Heap.lt_size q) dn)
  have na : ∀ {b : Addr}, (upd H1 a (exo a C none)) b = none → b ≠ a := fun {b} n z => by
    rw [z, e] at n
    cases n
  have Un1 : ∀ fs, Un fs [] (upd H1 a (exo a C none)) (upd (upd (upd H1 a (exo a C none)) dx (exd dx [(("line" : Str), y)])) a (exo a C (some dx))) hp2 h' := fun fs => {
    keep := fun b o q n _ _ => k3 b o (na n) q
    slot := fun b o q n _ _ => ⟨o.slots, k3 b o (na n) q⟩
    free := fun b o q n _ => by rw [upd_ne (na n), upd_ne (nd q)]; exact n
    there := fun b o q _ => by
      by_cases hb : b = a
      · exact ⟨_, by rw [hb]; exact hx⟩
      · exact ⟨o, k3 b o hb q⟩
    tups := fun b xs q => by rw [upd_ne (at_ne e q exo_tup), upd_ne (ne_of_none q hnd)]; exact q
    frzs := fun b o v q => by rw [upd_ne (at_ne e q exo_frz), upd_ne (ne_of_none q hnd)]; exact q
    tbls := fun b ps q => ⟨#[], by rw [upd_ne (at_ne e q exo_tbl), upd_ne (ne_of_none q hnd), q]; simp⟩ }
  have J := I2.un (t' := tk') (Un1 X.fs) fun b o q => by
    by_cases hb : b = a
    · subst hb
      rw [upd_same] at q
      cases q
      exact exo_ok hx
    · rw [upd_ne hb] at q
      by_cases hd : b = dx
      · subst hd
        rw [upd_same] at q
        cases q
        exact exd_ok hn (relO_put (fs := []) ry fun g => True.intro)
      · rw [upd_ne hd] at q
        exact (I2.hok b o q).stay (fun c v hc z => k3 c v (by
            rcases hc with hc | hc
            · rw [hc]
              exact hb
            · exact at_ne e hc exo_own) z)
          (fun c hc => by rw [upd_ne (at_ne e hc exo_own), upd_ne (ne_of_none hc hnd)]; exact hc) (fun c xs hc => by rw [upd_ne (at_ne e hc exo_tup), upd_ne (ne_of_none hc hnd)]; exact hc)
  have hd1 : H1 dx = none := by rw [upd_ne dne] at hnd; exact hnd
  have eH : upd (del (upd (upd (upd H1 a (exo a C none)) dx (exd dx [(("line" : Str), y)])) a (exo a C (some dx))) a) dx (.xd [(("line" : Str), y)]) = upd H1 dx (.xd [(("line" : Str), y)]) := by
    funext b
    by_cases hbd : b = dx
    · rw [hbd, upd_same, upd_same]
    · rw [upd_ne hbd, upd_ne hbd]
      by_cases hba : b = a
      · rw [hba, del_same, hN]
      · rw [del_ne hba, upd_ne hba, upd_ne hbd, upd_ne hba]
  refine ⟨rfl, mk_end (raises_own T.oex.exC T.oex.tyC) I1 hsz kk (Un1 _) J.hok rfl J.bare upd_same (by rw [upd_ne dne, upd_same]) hd1 ?_⟩
  rw [eH]
  exact q1 dx hd1
end
end K64


namespace K64
open PySem PySem.Spec PyProof.Rows L2 Evl
/-- what a clause with a name, then clauses without one, wish -/
def wAsM (K : PySem.W.Frag) (c : Value) (i : Nat) (ts : Addr → Value → Option Addr → TS) (l : List (Value × (Addr → Value → Option Addr → TS))) (Wout : WX) (D : L2.Ends) : WX := fun cls d σ H =>
  ∃ b, PySem.W.exmOne K cls c = some b ∧ (b = true → ∀ a, H a = none → ts a cls d { nx := fun σ' H' => D.nx (σ'.set i none) H', rt := D.rt, bk := fun σ' H' => D.bk (σ'.set i none) H', ct := fun σ' H' => D.ct (σ'.set i none) H' } (σ.set i (some (.ref a))) H) ∧
    (b = false → wMany K Wout D l cls d σ H)
section
variable {X : Cx} {x n : Str} {c : Value} {i : Nat} {body suite : List Stmt} {b₀ : Stmt} {np pos pos' : Pos} {tb : WX → TS} {ts : Addr → Value → Option Addr → TS} {Wout : WX} {hds : List ExceptHandler} {l : List (Value × (Addr → Value → Option Addr → TS))}
theorem ps_try_asM (hs : X.stack = X.env :: X.outer) (hf : X.env.frame = some X.env.locals) (hN : X.N.Nodup) (hi : X.N[i]? = some n) (hln : X.env.kindOf n = some .local) (hc : Names X x c) (tk : Takes X Wout)
    (hb : ∀ (W : WX) (pn : List (Addr × Obj)) (xe : Value → Shared → Prop), Takes (X.tr pn xe) W → PassesOwn (model X.prog X.w) X.A X.env xe → PSs (X.tr pn xe) body (tb W))
    (hsu : ∀ (a : Addr) (oe : Obj) (cls : Value) (d : Option Addr) (pn : List (Addr × Obj)), Zc cls d oe → (∃ vs, oe.data = .fields vs) → PSs (X.suite a ((a, oe) :: pn)) (b₀ :: suite) (ts a cls d))
    (hh : HdsOk X hds l) :
    PS X (.Try body (.ExceptHandler (some (.Name x np)) (some n) (b₀ :: suite) pos' :: hds) [] [] pos) (fun D σ H => tb (wAsM X.K c i ts l Wout D) D σ H) := by
  refine ⟨fun pins s σ H D I h => ?_⟩
  have ok := I.ok
  have hfr : X.A.frames = some (X.env :: X.outer) := by rw [ok.frames, hs]
  refine wpAny_Try_except ?_
  refine wpAny_mono ((hb (wAsM X.K c i ts l Wout D) (X.pn ++ pins) (fun e s₁ => wpAny (model X.prog X.w) X.A (noteFrame e X.env) (fun _ s₂ => wpAny (model X.prog X.w) X.A (setFlight e none) (fun _ s₃ =>
    wpAny (model X.prog X.w) X.A (handleBy e X.env (.ExceptHandler (some (.Name x np)) (some n) (b₀ :: suite) pos' :: hds)) (L2.SP X pins D) X.xe s₃) X.xe s₂) X.xe s₁) (fun u s' xx => ?_) PassesOwn.looking).run [] s σ H D (I.toTry _) h) (fun f s1 hsp => ?_) (fun e s1 he => he)
  · obtain ⟨a, B, sI, pins', σ', H', cls, d, rfl, J', nb, up, sky, na, os, ag, b, hb1, hyes, hno⟩ := xx
    have J : Inv X pins σ' H' sI := J'.ofTry ok
    have sky' : Sky B (X.env :: X.outer) a (Zc cls d) X.env.locals s'.heap := by rw [← hs]; exact sky
    show wpAny (model X.prog X.w) X.A (noteFrame (.ref a) X.env) _ _ _
    refine Sky.land Zc.steady hfr hf sky' fun h3 fl3 up3 => ?_
    have J3 : Inv X pins σ' H' { s' with heap := h3 } := J.landed nb fl3.1 (up.trans up3) os ag
    obtain ⟨oe3, vs3, he3, hz3, hd3⟩ := fl3.there
    have nfr : a ∉ frs (X.env :: X.outer) := fun hm => by
      obtain ⟨_, o', e', hnf⟩ := fl3.2.2.1.mem hm
      rw [he3] at e'; cases e'
      exact hnf _ hd3
    have nL : a ≠ X.env.locals := fun z => nfr (List.mem_filterMap.mpr ⟨X.env, List.mem_cons_self, by rw [hf, z]⟩)
    have nF : a ∉ X.fs := fun hm => by
      obtain ⟨e, he, q⟩ := List.mem_filterMap.mp hm
      exact nfr (List.mem_filterMap.mpr ⟨e, List.mem_cons_of_mem _ he, q⟩)
    have S3 := J3.suite he3 hd3 na nL nF
    have LT : PySem.W.Looks (model X.prog X.w) h3 (typeOf (.ref a)) cls := fun A Q E s k q => wpAny_typeOf_ref (k _ _ he3) (by rw [hz3.1]; exact q)
    have test : ∀ {y : Str} {cy : Value} {py : Pos}, Names X y cy → ∀ {Q : Value → Shared → Prop} {E : Value → Shared → Prop}, Q cy { s' with heap := h3 } → wpAny (model X.prog X.w) (X.A.mark (some (.ref a))) (eval (.Name y py) X.env) Q E { s' with heap := h3 } := fun {y cy py} hc {Q E} q => by
      obtain ⟨hg, hdbg, hm | ⟨hm, hv, hnn⟩⟩ := hc
      · exact ld_glob (X := X.suite a ((a, oe3) :: (X.pn ++ pins))) S3 hg hm q hdbg
      · exact ld_blt (X := X.suite a ((a, oe3) :: (X.pn ++ pins))) S3 hg hm hv q hnn hdbg
    have go : ∀ {hds' : List ExceptHandler} {l' : List (Value × (Addr → Value → Option Addr → TS))}, HdsOk X hds' l' → wMany X.K Wout D l' cls d σ' H' →
        wpAny (model X.prog X.w) X.A (handleBy (.ref a) X.env hds') (L2.SP X pins D) X.xe { s' with heap := h3 } := by
      intro hds' l' hk
      induction hk with
      | nil =>
        intro w
        refine wpAny_handleBy_nil ?_
        obtain ⟨k1, k2, k3, oe, vs, T, oT, ts', he, hz, hd, h1, hr⟩ := id fl3
        unfold PySem.passOn
        refine wpAny_bind (wpAny_field he hd h1 ?_)
        rw [if_neg (show ¬ ((Value.ref T == Value.none) = true) from by simp)]
        have fin : wpAny (model X.prog X.w) X.A (setFlight (.ref a) X.env.frame) (fun _ s4 => wpAny (model X.prog X.w) X.A (throw (.ref a) : Sem Flow) (L2.SP X pins D) X.xe s4) X.xe { s' with heap := h3 } := by
          rw [hf]
          exact HandSPX.setFlight_upZ fl3 fun h4 hh4 up4 => wpAny_throw (tk _ _ ⟨a, B, sI, pins, σ', H', cls, d, rfl, J, nb, (up.trans up3).trans up4, .inr (.inr (by rw [hs]; exact hh4)), na, os, ag, w⟩)
        first
          | exact wpAny_bind (wpAny_pure (wpAny_bind fin))
          | exact wpAny_bind fin
      | @cons y cy ts2 b2 suite2 np2 pos2 hds2 l2 hc2 hsu2 r ih =>
        intro w
        obtain ⟨b2', hb2, hyes2, hno2⟩ := w
        refine wpAny_handleBy_cons (codeAny_handlers_test ?_) (by intro q; cases q)
        refine test hc2 ((PySem.W.exm_one (M := model X.prog X.w) (J3.kIn) LT hb2).here ?_)
        cases b2' with
        | true =>
          refine codeAny_handlers_suite (HandSPX.lands_againZ fl3 fun h4 fl4 up4 => ?_)
          have J4 : Inv X pins σ' H' { s' with heap := h4 } := J.landed nb fl4.1 ((up.trans up3).trans up4) os ag
          obtain ⟨oe4, vs4, he4, hz4, hd4⟩ := fl4.there
          refine wpAny_mono ((hsu2 a oe4 cls d (X.pn ++ pins) hz4 ⟨_, hd4⟩).run [] _ _ H' _ (J4.suite he4 hd4 na nL nF) (hyes2 rfl a na)) (fun f s6 hsp => ?_) (fun _ _ z => False.elim z)
          cases f with
          | next => obtain ⟨σ6, H6, S6, q6⟩ := hsp; exact ⟨_, _, S6.unsuite ok, q6⟩
          | brk => obtain ⟨σ6, H6, S6, q6⟩ := hsp; exact ⟨_, _, S6.unsuite ok, q6⟩
          | cont => obtain ⟨σ6, H6, S6, q6⟩ := hsp; exact ⟨_, _, S6.unsuite ok, q6⟩
          | ret u => obtain ⟨v6, σ6, H6, S6, r6, q6⟩ := hsp; exact ⟨_, _, _, S6.unsuite ok, r6, q6⟩
        | false =>
          show wpAny _ X.A (handleBy (.ref a) X.env hds2) _ _ _
          exact ih (hno2 rfl)
    refine wpAny_handleBy_cons (codeAny_handlers_test ?_) (by intro q; cases q)
    refine test hc ((PySem.W.exm_one (M := model X.prog X.w) (J3.kIn) LT hb1).here ?_)
    cases b with
    | true =>
      refine codeAny_handlers_suite_as (HandSPX.lands_againZ fl3 fun h4 fl4 up4 => ?_)
      have J4 : Inv X pins σ' H' { s' with heap := h4 } := J.landed nb fl4.1 ((up.trans up3).trans up4) os ag
      obtain ⟨oe4, vs4, he4, hz4, hd4⟩ := fl4.there
      refine store_ok (X := X.suite a ((a, oe4) :: (X.pn ++ pins))) (v := .ref a) (J4.suite he4 hd4 na nL nF) hN hi (.inl hln) rfl (fun s5 S5 => ?_) (.inr hln)
      refine wpAny_mono ((hsu a oe4 cls d (X.pn ++ pins) hz4 ⟨_, hd4⟩).run [] s5 _ H' _ S5 (hyes rfl a na)) (fun f s6 hsp => ?_) (fun _ _ z => False.elim z)
      have end_ : ∀ {σ6 : L2.St} {H6 : Hp} {Q : Shared → Prop}, Inv (X.suite a ((a, oe4) :: (X.pn ++ pins))) [] σ6 H6 s6 → (∀ s7, Inv X pins (σ6.set i none) H6 s7 → Q s7) →
          wpAny (model X.prog X.w) X.A (do bindName X.env n .none; unbindBehindTheSuite X.env n pos') (fun _ s7 => Q s7) X.xe s6 := fun {σ6 H6 Q} S6 hq => gone_ok (S6.unsuite ok) hN hi hln hq
      cases f with
      | next => obtain ⟨σ6, H6, S6, q6⟩ := hsp; exact end_ S6 fun s7 J7 => ⟨_, _, J7, q6⟩
      | brk => obtain ⟨σ6, H6, S6, q6⟩ := hsp; exact end_ S6 fun s7 J7 => ⟨_, _, J7, q6⟩
      | cont => obtain ⟨σ6, H6, S6, q6⟩ := hsp; exact end_ S6 fun s7 J7 => ⟨_, _, J7, q6⟩
      | ret u => obtain ⟨v6, σ6, H6, S6, r6, q6⟩ := hsp; exact end_ S6 fun s7 J7 => ⟨_, _, _, J7, r6, q6⟩
    | false =>
      show wpAny _ X.A (handleBy (.ref a) X.env hds) _ _ _
      exact go hh (hno rfl)
  · cases f with
    | next => obtain ⟨σ', H', J', q⟩ := hsp; exact wpAny_execs_nil ⟨σ', H', J'.ofTry ok, q⟩
    | brk => obtain ⟨σ', H', J', q⟩ := hsp; exact ⟨σ', H', J'.ofTry ok, q⟩
    | cont => obtain ⟨σ', H', J', q⟩ := hsp; exact ⟨σ', H', J'.ofTry ok, q⟩
    | ret u => obtain ⟨v, σ', H', J', r, q⟩ := hsp; exact ⟨v, σ', H', J'.ofTry ok, r, q⟩
/-! ### isinstance of a caught error that has a dict -/
/-- what the class must say -/
structure IsC (K : PySem.W.Frag) (D : Addr) : Prop where
  hcl : (PySem.W.clsIn K D).isSome = true
  hg : PySem.W.findIn K (.ref D) "__getattribute__" = some (some (.builtin "BaseException.__getattribute__"))
  hk : PySem.W.findIn K (.ref D) "__getattr__" = some none
  hs : PySem.W.subIn K (.ref D) (.type "BaseException") = some true
  ha : PySem.W.findIn K (.ref D) "__class__" = some (some (.builtin "object.__class__"))
  hn : PySem.W.specialIn K (.builtin "object.__class__") "__get__" = some (some (.builtin "getset_descriptor.__get__"))
  ht : PySem.W.takesIn K (.builtin "object.__class__") = some true
  hm : PySem.W.mroIn K D (.type "object") = some true
def rIsD (K : PySem.W.Frag) (D a : Addr) (cls : Value) (d : Option Addr) : List V → Hp → VK → Prop := fun xs H Q => ∃ (c : V) (cv : Value) (b : Bool) (fs : List (Str × V)) (dd : Addr), cls = .ref D ∧ d = some dd ∧ xs = [.ref a, c] ∧ (∀ u, RelV c u → u = cv) ∧ PySem.W.kitOne K (.ref D) cv = some b ∧ H dd = some (.xd fs) ∧ Q (.bl b) H
theorem call_isD {X : Cx} {a D : Addr} {oe : Obj} {cls : Value} {d : Option Addr} {pn : List (Addr × Obj)} (C : IsC X.K D) (hz : Zc cls d oe) (hf : ∃ vs, oe.data = .fields vs) : CallR (X.suite a ((a, oe) :: pn)) (.builtin "isinstance") (rIsD X.K D a cls d) := by
  intro pins s σ H xs us Q I r h
  obtain ⟨c, cv, b, fs, dd, rfl, rfl, rfl, hcv, e, hdd, q⟩ := h
  cases r with
  | cons rx rr =>
    cases rr with
    | cons rt rr =>
      cases rr
      cases rx
      have ec := hcv _ rt
      subst ec
      obtain ⟨hget, _⟩ := I.pin (a, oe) (List.mem_append.mpr (.inl List.mem_cons_self))
      obtain ⟨vs, hv⟩ := hf
      have hx : ObjOk X.prog X.w H s.heap dd (.xd fs) := I.hok dd _ hdd
      obtain ⟨mA, hns, hr⟩ := hx
      obtain ⟨od, ho, _⟩ := lookIn_ns hns
      have J : PySem.W.InstAt s.heap a oe D (some od) := by
        obtain ⟨oc, od', oda, osl⟩ := oe
        obtain ⟨h1, h2⟩ := hz
        dsimp only at h1 h2 hv
        subst h1 h2 hv
        exact ⟨hget, rfl, rfl, ho⟩
      exact PySem.W.kia_one (PySem.W.kitx_exc C.hcl C.hg C.hk C.hs C.ha C.hn C.ht C.hm) I.kIn J e (fun z => nomatch z) fun tk => ⟨.bl b, H, I.kept (t' := tk) fun _ _ z => z, rfl, q⟩
end
end K64


namespace K64
open PySem PySem.Spec PyProof.Rows L2 Evl
/-- a text without the form: its words -/
structure BadT (t : Str) (s0 : Str) (ss : List Str) : Prop where
  words : Txt.split t SP = s0 :: ss
  len : t.length ≤ 600000
  many : ss.length ≤ 40000
  small : ∀ s ∈ s0 :: ss, Small s
  bad : (!inV (.str s0) [.str sThere, .str sAbsent] || (!(ss.all isLetter) || decide (s0 :: ss = [sThere]))) = true
structure Pap2 (P : Program) (K : PySem.W.Frag) (mg : Str → Option Value) (a : Ad) (cc cda : Addr) : Prop where
  pap : Pap P K mg a.cPaper a.iPaper cc cda
  xf : XfC K a.cPaper
  is : IsC K a.cPaper
  k1 : PySem.W.kitOne K (.ref a.cPaper) (.type "ValueError") = some true
  k2 : PySem.W.kitOne K (.ref a.cPaper) (.ref a.cNotation) = some false
  gN : mg "InvalidNotation" = some (.ref a.cNotation)
  e1 : PySem.W.exmOne K (.ref a.cPaper) (.ref a.cPaper) = some true
  e2 : PySem.W.exmOne K (.ref a.cCircle) (.ref a.cPaper) = some false
  e3 : PySem.W.exmOne K (.ref a.cCircle) (.ref a.cCircle) = some true
section
variable {P : Program} {w : World} {K : PySem.W.Frag} {mg : Str → Option Value} {base : Heap} {a : Ad} {cc cda : Addr}
/-! ### check_place_text, refusing -/
def spChkPX (a : Ad) : Sp := fun vs H Q E => ∃ (o q : Addr) (C : Ci) (t : Str), vs = [.ref o, .ref q, .str t] ∧ CS H q C ∧ Bd C ∧
  ((¬ C.ok ∧ ∀ H', Ex H H' → E (.ref a.cCircle) none H') ∨ (C.ok ∧ (∃ s0 ss, BadT t s0 ss) ∧ ∀ H' d, Ex H H' → H' d = some (.xd [(("line" : Str), .int 1)]) → E (.ref a.cPaper) (some d) H'))
theorem okX_chkp (T : Txt K mg a) (T2 : Pap2 P K mg a cc cda) : Okd P w K mg base (L2.CX P w) 3 "check_place_text" a.check_place_text ["four", "circle", "text"] (spChkPX a) := by
  refine T.check_place_text.okX sc_chkp (fun vs H Q E h => ?_) (fun cdv A outer s H vs Q E hr h => ?_)
  · obtain ⟨o, q, C, t, rfl, _⟩ := h
    rfl
  · obtain ⟨o, q, C, t, rfl, hq, bC, h⟩ := h
    have nd := sc_chkp.nd
    have hu : (A.deeper (envOfC "check_place_text" (defScope s_check_place_text) s.heap.objs.size a.check_place_text cdv)).units + 64 < cLine := by have := hr.un; omega
    refine ⟨_, pss_cons (ps_expr (pe_c (okX_check_circle T) hr (passes_call (W := fun cls d _ H => E cls d H) (takes_of rfl rfl rfl rfl) (fun _ _ _ _ h => h)) (pa_cons (pv 1) pa_nil)))
      (pss_cons (ps_set (i := 3) nd rfl (.inl rfl) (PE.nox (pe_split (pv 2) pe_str)))
      (pss_cons (ps_if (PT.nox (PW.pt (pw_or (pt_cmpR op_notIn_seq (pe_ix ix_list (pv 3) pe_int (fun _ _ => rfl)) (pe_tup (pa_cons pe_str (pa_cons pe_str pa_nil))) (by rfl))
          (pw_or (pt_not (pt_val (pe_c (ok_are T) (hr.mono (by decide)) pass0 (pa_cons (pe_slice sl_list (pv 3) (po_some pe_int) po_none) pa_nil))))
          (pw_or1 (pt_cmpR (op_eqD hu) (pv 3) (pe_lst (pa_cons pe_str pa_nil)) (nomark _))))))) (pss_one (ps_raise rfl (takes_of rfl rfl rfl rfl) (pmk_pap (k := 1) T2.pap hr (by rfl) (pa_cons pe_int pa_nil)))) pss_nil)
      pss_never)), ?_⟩
    refine ⟨_, rfl, q, C, rfl, hq, bC, fun ok H1 e1 => ?_, fun nok H1 e1 => ?_⟩
    · rcases h with ⟨n, _⟩ | ⟨_, ⟨s0, ss, B⟩, k⟩
      · exact absurd ok n
      · refine q_asgL (split_new (ss := s0 :: ss) (ev_var rfl) B.words (Nat.le_trans (show _ ≤ 600002 by have := B.len; omega) (by decide))) fun l H2 hl e2 hl2 => ?_
        have e12 := e1.trans e2
        have sl : ∀ {σ : L2.St} {H' : Hp}, σ[3]? = some (some (.ref l)) → Ex H2 H' → EvL (tSl (rSlL K) (tVar 3) (tPart (tC (.int 1))) tNoPart) σ H' (ss.map V.str) := fun {σ H'} h e => el_is (el_sl (xs := (s0 :: ss).map V.str) (lo := some 1) (hi := none) (ev_var h) (eo_some ev_c) eo_none (SqL.of (e _ _ hl2))) (cut_tail _ _)
        have w0 : ∀ {σ : L2.St} {H' : Hp}, σ[3]? = some (some (.ref l)) → Ex H2 H' → Ev (tOp (rIxL K) (tVar 3) (tC (.int 0))) σ H' (.str s0) := fun {σ H'} h e => ev_ixL (xs := (s0 :: ss).map V.str) (ev_var h) ev_c (e _ _ hl2) (atI_nat (j := 0) rfl)
        refine q_when (b := true) (et_is (et_or (et_test (ev_niU (w0 rfl (Ex.refl _)) (eu_tup (ea_cons ev_c (ea_cons ev_c ea_nil)) (show 2 ≤ 100000 by decide)) rfl rfl)) (fun _ => et_or (et_not (et_test (ev_callL (sl rfl (Ex.refl _)) (fun p H3 e3 hp3 Q' q' => ⟨p, ss, rfl, hp3, B.many, q'⟩)))) (fun _ => et_test (ev_opL (xs := ([sThere] : List Str).map V.str) (ev_var rfl) (el_lst (ea_cons ev_c ea_nil) (show 1 ≤ 100000 by decide)) (fun p H3 hp3 e3 => rv_eqStrs (xs := s0 :: ss) (e3 _ _ hl2) hp3 B.small (fun s hs => by rw [List.mem_singleton.mp hs]; exact small_there)))))) B.bad) (fun _ H3 e3 => ?_) (fun z => nomatch z)
        refine ⟨_, rfl, fun d hd => k _ d ((e12.trans e3).trans (Ex.new hd)) upd_same⟩
    · rcases h with ⟨_, k⟩ | ⟨ok, _⟩
      · exact k H1 e1
      · exact absurd ok nok
/-! ### _law_refused -/
def spRef (a : Ad) : Sp := fun vs H Q _ => ∃ (o q : Addr) (C : Ci) (t : Str), vs = [.ref o, .ref q, .str t] ∧ CS H q C ∧ Bd C ∧
  ((¬ C.ok ∧ ∀ H', Ex H H' → Q (.str "circle") H') ∨ (C.ok ∧ (∃ s0 ss, BadT t s0 ss) ∧ ∀ H', Ex H H' → Q (.int 1) H'))
theorem sc_ref : FnScope ["_law_four_here", "_law_circle", "_law_text", "e"] ["_law_four_here", "_law_circle", "_law_text"] (defScope s_l_refused) := ⟨rfl, rfl, rfl, by decide +kernel, rfl, by decide +kernel, by decide +kernel⟩
theorem ok_ref (T : Txt K mg a) (T2 : Pap2 P K mg a cc cda) : Okd P w K mg base CX0 4 "_law_refused" a.l_refused ["_law_four_here", "_law_circle", "_law_text"] (spRef a) := by
  refine T.l_refused.ok sc_ref (fun vs H Q E h => ?_) (fun cdv A outer s H vs Q E hr h => ?_)
  · obtain ⟨o, q, C, t, rfl, _⟩ := h
    rfl
  · obtain ⟨o, q, C, t, rfl, hq, bC, h⟩ := h
    have nd := sc_ref.nd
    refine ⟨_, pss_cons (ps_try_asM (i := 3) rfl rfl nd rfl rfl ⟨by rfl, by decide, .inl T2.pap.gl⟩ takes_none5
        (fun W pn xe tk po => pss_one (ps_expr (pe_c (E := fun cls d H => ∀ σ : L2.St, σ.length = 4 → W cls d σ H) (okX_chkp T T2) hr (fun _ σ _ _ e s' I c => tk e s' (XE.of_call I (fun cls d H' h => h σ I.len) c)) (pa_cons (pv 0) (pa_cons (pv 1) (pa_cons (pv 2) pa_nil))))))
        (fun x oe cls d pn hz hf => pss_one (ps_ret (pe_op op_mul (pe_xf T2.xf T2.pap.noN hz hf (pv 3)) (pe_callTy (T := "int") (r := rInt1) call_int1 (by rfl) T.b_int (by decide +kernel) (pa_cons (pe_and (pe_callB (call_isD T2.is hz hf) (by rfl) T.b_isinstance (by decide +kernel) (pa_cons (pv 3) (pa_cons (pe_bltn (v := .ty "ValueError") (by rfl) T.b_ValueError (by decide +kernel) rfl) pa_nil)))
          (pe_one (pe_not (pe_callB (call_isD T2.is hz hf) (by rfl) T.b_isinstance (by decide +kernel) (pa_cons (pv 3) (pa_cons (pe_glob (v := .ref a.cNotation) (by rfl) T2.gN rfl) pa_nil)))))) pa_nil)))))
        (HdsOk.cons ⟨by rfl, by decide, .inl T.gCircle⟩ (fun x oe cls d pn hz hf => pss_one (ps_ret pe_str)) HdsOk.nil))
      (pss_one (ps_ret pe_int)), ?_⟩
    refine ⟨_, rfl, _, rfl, _, rfl, o, q, C, t, rfl, hq, bC, ?_⟩
    rcases h with ⟨n, k⟩ | ⟨ok, B, k⟩
    · exact .inl ⟨n, fun H' e σ hσ => ⟨false, T2.e2, (fun z => nomatch z), fun _ => ⟨true, T2.e3, fun _ x hx => k H' e, fun z => nomatch z⟩⟩⟩
    · refine .inr ⟨ok, B, fun H' d e hd σ hσ => ⟨true, T2.e1, fun _ x hx => ?_, fun z => nomatch z⟩⟩
      have hs3 : (σ.set 3 (some (.ref x)))[3]? = some (some (.ref x)) := List.getElem?_set_self (by omega)
      have e1 : Ev (tCB (rIsD K a.cPaper x (.ref a.cPaper) (some d)) (tCons (tVar 3) (tCons (tC (.ty "ValueError")) tNil))) (σ.set 3 (some (.ref x))) H' (.bl true) := fun H1 e Q q => ⟨_, hs3, .ty "ValueError", .type "ValueError", true, _, d, rfl, rfl, rfl, fun u h => h, T2.k1, e _ _ hd, q _ (Ex.refl _)⟩
      have e2 : Ev (tCB (rIsD K a.cPaper x (.ref a.cPaper) (some d)) (tCons (tVar 3) (tCons (tC (.ref a.cNotation)) tNil))) (σ.set 3 (some (.ref x))) H' (.bl false) := fun H1 e Q q => ⟨_, hs3, .ref a.cNotation, .ref a.cNotation, false, _, d, rfl, rfl, rfl, fun u h => h, T2.k2, e _ _ hd, q _ (Ex.refl _)⟩
      have eX : Ev (tXf x (.ref a.cPaper) (some d) a.cPaper "line" (tVar 3)) (σ.set 3 (some (.ref x))) H' (.int 1) := fun H1 e Q q => ⟨.ref x, hs3, rfl, rfl, d, _, .int 1, rfl, e _ _ hd, by simp [List.lookup], q _ (Ex.refl _)⟩
      exact s_ret (ev_mulL eX (ev_intB (ev_andV e1 (fun _ => ev_notV e2))) (by decide)) fun H2 e2 => k H2 (e.trans e2)
end
end K64


namespace K64
open PySem PySem.Spec PyProof.Rows L2 Evl
/-! ### The plain law -/
def circ0 (ns : List Int) : Ci := (exFs (fourOf ns) (wordN ns 30 (nth ns 20 % 9).toNat)).get (nth ns 21 % 4).toNat
def circ2 (ns : List Int) : Ci := layN ns 46 ((giv (nth ns 45)).get (nth ns 21 % 4).toNat)
/-- what the law's circle has -/
structure Good (F : Fo) (C : Ci) (th : Option Bool) : Prop where
  ok : C.ok
  bd : Bd C
  en : Enough F C
  yes : th = some true → ∃ v n, parts F C = some v ∧ K64.Ends IsUnit n v
  no : th = some false → (srch (parts F C)).2 = none
theorem four_ok (ns : List Int) : Valid (fourOf ns) ∧ Frame (fourOf ns) ∧ BdF 100 (fourOf ns) := by
  obtain ⟨n, L, hn, d⟩ := drawn_four ns
  exact ⟨d.valid.1, d.valid.2, d.bd (by omega)⟩
theorem good0 (ns : List Int) : Good (fourOf ns) (circ0 ns) (some true) := by
  obtain ⟨n, L, hn, d⟩ := drawn_four ns
  have hw := wordN_lt ns 30 (nth ns 20 % 9).toNat
  have hk : (nth ns 21 % 4).toNat < 4 := by omega
  obtain ⟨v, hv, he, hq⟩ := heap_reach _ d.valid.1 hw hk
  have d2 := d.exs _ hw
  rw [wordN_len] at d2
  rw [wordN_len] at he
  refine ⟨(d.valid.1.exs _ hw).1 _ hk, ⟨100, by decide, by decide, (d2.bd (by omega)).at hk⟩, fun u hu => ?_, fun _ => ⟨v, _, hv, he⟩, (fun z => nomatch z)⟩
  have hv' : parts (fourOf ns) (circ0 ns) = some v := hv
  rw [hv'] at hu
  cases hu
  exact (he.weaken fun _ _ => trivial).mono (by omega)
theorem good1 (ns : List Int) : Good (fourOf ns) (circ0 ns).opp (some false) := by
  have g := good0 ns
  obtain ⟨v, n, hv, he⟩ := g.yes rfl
  have hp := parts_opp hv
  obtain ⟨h1, h2⟩ := opp_absent he
  obtain ⟨m, m0, m1, b1, b2, b3, b4⟩ := g.bd
  refine ⟨opp_ok g.ok, ⟨m, m0, m1, ?_⟩, fun u hu => ?_, (fun z => nomatch z), fun _ => ?_⟩
  · unfold Ci.opp BdN
    simp only
    rw [Int.zero_sub, Int.zero_sub, Int.zero_sub, Int.zero_sub, Int.natAbs_neg, Int.natAbs_neg, Int.natAbs_neg, Int.natAbs_neg]
    exact ⟨b1, b2, b3, b4⟩
  · rw [hp] at hu
    cases hu
    exact .stop h1 trivial
  · rw [hp, srch_some, run_none h1]
    simp [h2]
theorem good2 (ns : List Int) : Good (fourOf ns) (circ2 ns) none := by
  obtain ⟨n, L, hn, d⟩ := drawn_four ns
  have hk : (nth ns 21 % 4).toNat < 4 := by omega
  have s1 := ls_bd (nth ns 47) (nth ns 48)
  have s2 := ls_bd (nth ns 47) (nth ns 49)
  refine ⟨(iso_laid _ _ _ _).ok ((valid_giv _).1 _ hk), ⟨40, by decide, by decide, (mx_laid s1 s2 (giv_mx _ hk)).bd⟩, fun u hu => ?_, (fun z => nomatch z), (fun z => nomatch z)⟩
  exact (d.ends hk s1 s2 hu).mono (by omega)
theorem lin_unit (G : Fo) {k : Nat} (hk : k < 4) : lin (unitV k) G = G.get k := by
  rcases four_cases hk with rfl | rfl | rfl | rfl <;> simp [lin, unitV, Fo.get]
theorem chk_run {T : V4 → Prop} {n : Nat} {v : V4} (h : K64.Ends T n v) : chkGo v (run n v).1 = !decide (IsUnit (run n v).2) := by
  induction h with
  | @stop n v a b =>
    rw [run_none a]
    simp [chkGo, a]
  | @step n v k a _ ih =>
    rw [run_some a]
    have nu : ¬ IsUnit v := fun u => by rw [unit_nxt u] at a; cases a
    rw [chkGo_cons, if_neg (by rintro (u | u); exact nu u; exact u a)]
    exact ih
/-- the text that is told is borne out -/
theorem own_text {F : Fo} {C : Ci} (hF : Frame F) (en : Enough F C) : ∃ hd w, plWords (srch (parts F C)) = hd :: lts w ∧ WF hd w ∧ w.length ≤ 20001 ∧ chkPl F C hd w = true ∧ ((srch (parts F C)).2 = none → hd = sAbsent) ∧ ((srch (parts F C)).2 ≠ none → hd = sThere) := by
  obtain ⟨h4, hl⟩ := srch_letters (parts F C)
  cases hs : (srch (parts F C)).2 with
  | none =>
    refine ⟨sAbsent, (srch (parts F C)).1, by unfold plWords; rw [hs], ⟨.inr rfl, fun z => absurd z (by decide +kernel), h4⟩, by omega, ?_, fun _ => rfl, fun z => absurd rfl z⟩
    unfold chkPl
    rw [if_pos rfl]
    cases hp : parts F C with
    | none => rfl
    | some v =>
      have e := chk_run (en v hp)
      rw [hp, srch_some] at hs
      show chkGo v (run 20000 v).1 = true
      rw [e]
      by_cases u : IsUnit (run 20000 v).2
      · simp [u] at hs
      · simp [u]
  | some j =>
    have j4 := srch_num hs
    refine ⟨sThere, j :: (srch (parts F C)).1, by unfold plWords; rw [hs]; rfl, ⟨.inl rfl, fun _ => by simp, fun k hk => ?_⟩, by rw [List.length_cons]; omega, ?_, (fun z => nomatch z), fun _ => rfl⟩
    · rcases List.mem_cons.mp hk with rfl | hk
      · exact j4
      · exact h4 _ hk
    · unfold chkPl
      rw [if_neg (by decide +kernel)]
      show decide ((exFs F (srch (parts F C)).1).get j = C) = true
      cases hp : parts F C with
      | none => rw [hp] at hs; cases hs
      | some v =>
        rw [hp] at hs h4
        rw [srch_some] at hs h4 ⊢
        dsimp only at hs h4 ⊢
        by_cases u : IsUnit (run 20000 v).2
        · rw [if_pos u] at hs
          have hj : ix (run 20000 v).2 = j := Option.some.inj hs
          have hx := parts_exs (run 20000 v).1 F C h4
          rw [hp, Option.map_some, run_behs] at hx
          have hl := (hF.exs (run 20000 v).1).parts hx
          rw [unit_ix u, hj, lin_unit _ j4] at hl
          exact decide_eq_true hl
        · rw [if_neg u] at hs
          cases hs
theorem chk_heap {n : Nat} {v : V4} (h : K64.Ends IsUnit n v) : ∀ w, chkGo v w = false := by
  induction h with
  | @stop n v a b =>
    intro w
    cases w with
    | nil => simp [chkGo, b]
    | cons k w => rw [chkGo_cons, if_pos (.inl b)]
  | @step n v k a _ ih =>
    intro w
    cases w with
    | nil => simp [chkGo, a]
    | cons j w =>
      rw [chkGo_cons]
      split
      · rfl
      · rename_i z
        have : k = j := by
          apply Classical.byContradiction
          intro hn
          exact z (.inr fun y => by rw [a] at y; exact hn (Option.some.inj y))
        subst this
        exact ih w
theorem Good.absent {F : Fo} {C : Ci} (g : Good F C (some true)) (w : List Nat) : chkAbs (parts F C) w = false := by
  obtain ⟨v, n, hv, he⟩ := g.yes rfl
  rw [hv]
  exact chk_heap he w
theorem Good.flag {F : Fo} {C : Ci} {b : Bool} (g : Good F C (some b)) (en : Enough F C) : (srch (parts F C)).2 ≠ none ↔ b = true := by
  cases b with
  | false => simp [g.no rfl]
  | true =>
    obtain ⟨v, n, hv, he⟩ := g.yes rfl
    have e20 := en v hv
    have : IsUnit (run 20000 v).2 := by
      have e1 : ∀ {n : Nat} {v : V4}, K64.Ends IsUnit n v → ∀ {m : Nat}, K64.Ends (fun _ => True) m v → IsUnit (run m v).2 := by
        intro n v h
        induction h with
        | stop a b => intro m _; rw [run_none a]; exact b
        | step a _ ih =>
          intro m hm
          obtain ⟨m', rfl, hm'⟩ := Ends.step_inv hm a
          rw [run_some a]
          exact ih hm'
      exact e1 he e20
    rw [hv, srch_some]
    simp [this]
end K64


namespace K64
open PySem PySem.Spec PyProof.Rows L2 Evl
/-! ### Texts that are none -/
theorem str_app_nil (x : Str) : x ++ ("" : Str) = x := by
  obtain ⟨c⟩ := x
  show (⟨c ++ ("" : Str).cps⟩ : Str) = ⟨c⟩
  have : ("" : Str).cps = #[] := by decide +kernel
  rw [this, Array.append_empty]
theorem str_assoc (x y z : Str) : x ++ y ++ z = x ++ (y ++ z) := by
  show (⟨x.cps ++ y.cps ++ z.cps⟩ : Str) = ⟨x.cps ++ (y.cps ++ z.cps)⟩
  rw [Array.append_assoc]
theorem small_e : Small "" := by decide +kernel
theorem small_0 : Small "0" := by decide +kernel
theorem join_behind {s0 : Str} {ss : List Str} (y : Str) : Txt.join SP (s0 :: ss) ++ (SP ++ y) = Txt.join SP (s0 :: (ss ++ [y])) := by
  rw [TL.join_eq, TL.join_eq]
  have := FinIter.join_snoc SP y (s0 :: ss)
  rw [if_neg (by simp)] at this
  rw [← str_assoc, ← this]
  rfl
theorem join_ahead {s0 : Str} {ss : List Str} : SP ++ Txt.join SP (s0 :: ss) = Txt.join SP ("" :: s0 :: ss) := by
  rw [TL.join_eq, TL.join_eq]
  show SP ++ Str.join SP (s0 :: ss) = "" ++ SP ++ Str.join SP (s0 :: ss)
  have : (("" : Str) ++ SP) = SP := by decide +kernel
  rw [this]
theorem bad_of {s0 : Str} {ss : List Str} (h : ∀ s ∈ s0 :: ss, Small s) (hl : ss.length ≤ 30000) (hb : (!inV (.str s0) [.str sThere, .str sAbsent] || (!(ss.all isLetter) || decide (s0 :: ss = [sThere]))) = true) : BadT (Txt.join SP (s0 :: ss)) s0 ss :=
  ⟨split_words (by simp) h, Nat.le_trans (join_len _ h) (by rw [List.length_cons]; omega), by omega, h, hb⟩
theorem all_app {ss : List Str} {y : Str} (h : isLetter y = false) : (ss ++ [y]).all isLetter = false := by
  rw [List.all_append]
  simp [h]
theorem bad_1 {hd : Str} {w : List Nat} (h : WF hd w) (hl : w.length ≤ 20001) : ∃ s0 ss, BadT (Txt.join SP (hd :: lts w) ++ SP) s0 ss := by
  refine ⟨hd, lts w ++ [("" : Str)], ?_⟩
  have e : (SP ++ ("" : Str)) = SP := by decide +kernel
  have := join_behind (s0 := hd) (ss := lts w) ""
  rw [e] at this
  rw [this]
  refine bad_of (fun s hs => ?_) (by rw [List.length_append, lts_len, List.length_singleton]; omega) ?_
  · rw [← List.cons_append] at hs
    rcases List.mem_append.mp hs with hs | hs
    · exact h.small s hs
    · rw [List.mem_singleton.mp hs]; exact small_e
  · rw [all_app (by decide +kernel)]
    simp
theorem bad_2 {hd : Str} {w : List Nat} (h : WF hd w) (hl : w.length ≤ 20001) : ∃ s0 ss, BadT (SP ++ Txt.join SP (hd :: lts w)) s0 ss := by
  refine ⟨"", hd :: lts w, ?_⟩
  rw [join_ahead]
  refine bad_of (fun s hs => ?_) (by rw [List.length_cons, lts_len]; omega) ?_
  · rcases List.mem_cons.mp hs with rfl | hs
    · exact small_e
    · exact h.small s hs
  · have : inV (.str "") [.str sThere, .str sAbsent] = false := by decide +kernel
    rw [this]
    rfl
theorem bad_3 {hd : Str} {w : List Nat} (h : WF hd w) (hl : w.length ≤ 20001) : ∃ s0 ss, BadT (Txt.join SP (hd :: lts w) ++ " 0") s0 ss := by
  refine ⟨hd, lts w ++ [("0" : Str)], ?_⟩
  have e : (SP ++ ("0" : Str)) = " 0" := by decide +kernel
  have := join_behind (s0 := hd) (ss := lts w) "0"
  rw [e] at this
  rw [this]
  refine bad_of (fun s hs => ?_) (by rw [List.length_append, lts_len, List.length_singleton]; omega) ?_
  · rw [← List.cons_append] at hs
    rcases List.mem_append.mp hs with hs | hs
    · exact h.small s hs
    · rw [List.mem_singleton.mp hs]; exact small_0
  · rw [all_app (by decide +kernel)]
    simp
theorem bad_c1 : BadT "there" "there" [] := ⟨by decide +kernel, by decide +kernel, by decide, by decide +kernel, by decide +kernel⟩
theorem bad_c2 : BadT "" "" [] := ⟨by decide +kernel, by decide +kernel, by decide, by decide +kernel, by decide +kernel⟩
theorem bad_c3 : BadT "absent 5" "absent" ["5"] := ⟨by decide +kernel, by decide +kernel, by decide, by decide +kernel, by decide +kernel⟩
theorem bad_c4 : BadT "theres 1" "theres" ["1"] := ⟨by decide +kernel, by decide +kernel, by decide, by decide +kernel, by decide +kernel⟩
theorem bad_c5 : BadT "there 1\n2" "there" ["1\n2"] := ⟨by decide +kernel, by decide +kernel, by decide, by decide +kernel, by decide +kernel⟩
theorem bad_c6 : BadT "absent\n" "absent\n" [] := ⟨by decide +kernel, by decide +kernel, by decide, by decide +kernel, by decide +kernel⟩
/-- the nine -/
def bads (t : Str) : List Str := ["there", "", "absent 5", t ++ " ", " " ++ t, t ++ " 0", "theres 1", "there 1\n2", "absent\n"]
theorem bads_bad {hd : Str} {w : List Nat} (h : WF hd w) (hl : w.length ≤ 20001) : ∀ b ∈ bads (Txt.join SP (hd :: lts w)), ∃ s0 ss, BadT b s0 ss := fun b hb => by
  unfold bads at hb
  simp only [List.mem_cons, List.not_mem_nil, or_false] at hb
  rcases hb with rfl | rfl | rfl | rfl | rfl | rfl | rfl | rfl | rfl
  · exact ⟨_, _, bad_c1⟩
  · exact ⟨_, _, bad_c2⟩
  · exact ⟨_, _, bad_c3⟩
  · exact bad_1 h hl
  · exact bad_2 h hl
  · exact bad_3 h hl
  · exact ⟨_, _, bad_c4⟩
  · exact ⟨_, _, bad_c5⟩
  · exact ⟨_, _, bad_c6⟩
def unC : Ci := ⟨1, 1, 1, 0⟩
theorem unC_bad : ¬ unC.ok := by unfold unC Ci.ok; decide
theorem unC_bd : Bd unC := ⟨10, by decide, by decide, by decide +kernel, by decide +kernel, by decide +kernel, by decide +kernel⟩
end K64


namespace K64
open PySem PySem.Spec PyProof.Rows L2 Evl
/-! ### law -/
/-- x is b, x None or a bool -/
def rIsP : R2 := fun x y H Q => ∃ b : Bool, y = .bl b ∧ ((x = .non ∧ Q (.bl false) H) ∨ ∃ a : Bool, x = .bl a ∧ Q (.bl (decide (a = b))) H)
theorem op_isP {X : Cx} : OpR X (compareOp .Is) rIsP := by
  intro pins s σ H x y v u Q I rx ry h
  obtain ⟨b, rfl, ⟨rfl, q⟩ | ⟨a, rfl, q⟩⟩ := h
  · cases (show v = Value.none from rx)
    cases (show u = Value.bool b from ry)
    exact wpAny_is_other rfl (fun z => nomatch z) ⟨.bl false, H, I, rfl, q⟩
  · exact op_isBl pins s σ H (.bl a) (.bl b) v u Q I rx ry ⟨a, b, rfl, rfl, q⟩
def thV : Option Bool → V | none => .non | some b => .bl b
abbrev NL : List Str := ["_law_script", "_law_numbers_here", "_law_circles", "_law_four_here", "_law_word", "_law_circle", "_law_there", "_law_text", "_law_words", "_law_told", "_law_place", "_law_bad", "_law_k", "_law_letter"]
section
variable {K : PySem.W.Frag} {σ : L2.St} {H : Hp}
theorem ev_callA {sp : Sp} {E : XK} {ta : TA} {vs : List V} {z : V} (h : EvA ta σ H vs) (hs : ∀ H1, Ex H H1 → ∀ Q : VK, (∀ H2, Ex H1 H2 → Q z H2) → sp (vs ++ []) H1 Q E) : Ev (tCall sp [] E ta) σ H z := fun H1 e Q q =>
  h H1 e _ fun H2 e2 => hs H2 (e.trans e2) Q fun H3 e3 => q H3 (e2.trans e3)
theorem ev_joinV {te : TE} {l : Addr} {ss : List Str} (h : Ev te σ H (.ref l)) (hl : H l = some (.lst (ss.map V.str))) (hs : ∀ s ∈ ss, Small s) (hz : ss.length ≤ 40000) :
    Ev (tM1 (fun x xs H Q => ∃ a p, ∃ ys : List Str, x = .str a ∧ xs = [.ref p] ∧ (SqL K H p (ys.map V.str) ∨ SqT K H p (ys.map V.str)) ∧ (ys.map (·.length)).sum + ys.length * a.length ≤ 16777216 ∧ Q (.str (Txt.join a ys)) H) (tC (.str SP)) te) σ H (.str (Txt.join SP ss)) := fun H1 e Q q => by
  refine ⟨⟨_, rfl⟩, h H1 e _ fun H2 e2 => ?_⟩
  refine ⟨SP, l, ss, rfl, rfl, .inl (SqL.of ((e.trans e2) _ _ hl)), ?_, q H2 e2⟩
  have := sum_small ss hs
  rw [sp_len]
  omega
end
theorem go_make {c lc : Addr} {i n : Nat} {F : Fo} {E : XK} {σ : L2.St} {H : Hp} {Q : VK} (h0 : σ[i]? = some (some (.ref lc))) (hF : LFo H lc F) (n0 : 0 < n) (n1 : n ≤ 400000) (hB : BdF n F) (hV : Valid F) (k : ∀ H2 o, Ex H H2 → ObF c H2 o F → Q (.ref o) H2) :
    tMake c (spInit c) [] E (tCons (tVar i) tNil) σ H Q := by
  obtain ⟨a1, a2, a3, a4, hlc, hC4⟩ := hF
  exact ⟨_, h0, fun x dx nx ndx nex => made_four nx ndx hlc hC4 n0 n1 hB hV k⟩
theorem q_asgO {c lc : Addr} {i j n : Nat} {F : Fo} {E : XK} {σ : L2.St} {H : Hp} {tz : TS} {D : L2.Ends} (h0 : σ[i]? = some (some (.ref lc))) (hF : LFo H lc F) (n0 : 0 < n) (n1 : n ≤ 400000) (hB : BdF n F) (hV : Valid F) (k : ∀ H2 o, Ex H H2 → ObF c H2 o F → tz D (σ.set j (some (.ref o))) H2) :
    tSeq (tAsg (tMake c (spInit c) [] E (tCons (tVar i) tNil)) (gName j)) tz D σ H := go_make (Q := fun v H1 => tz D (σ.set j (some v)) H1) h0 hF n0 n1 hB hV k
section
variable {P : Program} {w : World} {K : PySem.W.Frag} {mg : Str → Option Value} {base : Heap} {a : Ad} {cc cda : Addr}
def spLaw (K : PySem.W.Frag) : Sp := fun vs H Q _ => ∃ (l : Addr) (ns : List Int), vs = [.ref l] ∧ SqL K H l (ns.map V.int) ∧ ns.length ≤ 63 ∧ ∀ H', Q (.bl true) H'
theorem sc_law : FnScope NL ["_law_script"] (defScope s_law) := ⟨rfl, rfl, rfl, by decide +kernel, rfl, by decide +kernel, by decide +kernel⟩
theorem law_fn (T : Txt K mg a) (T2 : Pap2 P K mg a cc cda) {f : Addr} {fd : FuncData} (F : Fun K "law" "law" s_law f fd) : FnOk P w K mg base CX0 12 f fd ["_law_script"] (spLaw K) := by
  refine F.ok sc_law (fun vs H Q E h => ?_) (fun cdv A outer s H vs Q E hr h => ?_)
  · obtain ⟨l, ns, rfl, _⟩ := h
    rfl
  · obtain ⟨ls, ms, rfl, hls, hms, k⟩ := h
    have nd := sc_law.nd
    have hu : (A.deeper (envOfC "law" (defScope s_law) s.heap.objs.size f cdv)).units + 64 < cLine := by have := hr.un; omega
    have r1 := hr.mono (j := 1) (by decide)
    have r2 := hr.mono (j := 2) (by decide)
    have r3 := hr.mono (j := 3) (by decide)
    have r4 := hr.mono (j := 4) (by decide)
    have r6 := hr.mono (j := 6) (by decide)
    have r8 := hr.mono (j := 8) (by decide)
    refine ⟨_, pss_cons (ps_set (i := 1) nd rfl (.inr rfl) (pe_c (ok_nums T) r2 pass0 (pa_cons (pv 0) (pa_cons pe_int pa_nil))))
      (pss_cons (ps_set (i := 2) nd rfl (.inl rfl) (pe_c (ok_four T) r3 pass0 (pa_cons (pv 1) (pa_cons pe_int pa_nil))))
      (pss_cons (ps_set (i := 3) nd rfl (.inl rfl) (pe_k T.made (ok_init T) r6 T.gFour pass0 (pa_cons (pv 2) pa_nil)))
      (pss_cons (ps_setLc (i := 4) rfl nd rfl rfl (by rfl) (own := [("_law_k", 12)]) (g := gName 12) (tt := tYes) (pi_range1 (by rfl) T.b_range (pa_cons (pe_op op_mod (pe_callTy call_int1 (by rfl) T.b_int (by decide +kernel) (pa_cons (pe_ix (r := rIxL K) ix_list (pv 1) pe_int (fun _ _ => rfl)) pa_nil)) pe_int) pa_nil)) (blkOk_by (N := NL) (sc := defScope s_law) (by decide +kernel)) (fun _ _ _ _ _ => pg_name (i := 12) nd rfl (.inl rfl)) (fun _ _ _ _ _ => pts_nil)
        (fun _ _ _ _ _ => pe_op op_mod (pe_callTy (T := "int") (r := rInt1) call_int1 (by rfl) T.b_int (by decide +kernel) (pa_cons (pe_ix (r := rIxL K) ix_list (pv 1) (pe_op op_add pe_int (pv 12)) (fun _ _ => rfl)) pa_nil)) pe_int))
      (pss_cons (ps_set (i := 5) nd rfl (.inl rfl) (pe_ix (r := rIxL K) ix_list (pe_c (ok_fall T) r2 pass0 (pa_cons (pv 2) (pa_cons (pv 4) pa_nil))) (pe_op op_mod (pe_callTy call_int1 (by rfl) T.b_int (by decide +kernel) (pa_cons (pe_ix (r := rIxL K) ix_list (pv 1) pe_int (fun _ _ => rfl)) pa_nil)) pe_int) (fun _ _ => rfl)))
      (pss_cons (ps_set (i := 6) nd rfl (.inl rfl) pe_bl)
      (pss_cut (ps_if (pt_cmpR op_eq (pe_op op_mod (pe_callTy call_int1 (by rfl) T.b_int (by decide +kernel) (pa_cons (pe_ix (r := rIxL K) ix_list (pv 1) pe_int (fun _ _ => rfl)) pa_nil)) pe_int) pe_int (nomark _)) (pss_cons (ps_set (i := 5) nd rfl (.inl rfl) (pe_c (ok_opp T) r1 pass0 (pa_cons (pv 5) pa_nil))) (pss_one (ps_set (i := 6) nd rfl (.inl rfl) pe_bl))) pss_nil)
      (pss_cut (ps_if (pt_cmpR op_eq (pe_op op_mod (pe_callTy call_int1 (by rfl) T.b_int (by decide +kernel) (pa_cons (pe_ix (r := rIxL K) ix_list (pv 1) pe_int (fun _ _ => rfl)) pa_nil)) pe_int) pe_int (nomark _)) (pss_cons (ps_set (i := 5) nd rfl (.inl rfl) (pe_c (ok_laid T) r2 pass0 (pa_cons (pv 1) (pa_cons pe_int (pa_cons (pe_ix (r := rIxL K) ix_list (pe_c (ok_given T) r1 pass0 (pa_cons (pe_ix (r := rIxL K) ix_list (pv 1) pe_int (fun _ _ => rfl)) pa_nil)) (pe_op op_mod (pe_callTy call_int1 (by rfl) T.b_int (by decide +kernel) (pa_cons (pe_ix (r := rIxL K) ix_list (pv 1) pe_int (fun _ _ => rfl)) pa_nil)) pe_int) (fun _ _ => rfl)) pa_nil))))) (pss_one (ps_set (i := 6) nd rfl (.inl rfl) pe_non))) pss_nil)
      (pss_cons (ps_set (i := 7) nd rfl (.inl rfl) (pe_c (ok_place T) r8 pass0 (pa_cons (pv 3) (pa_cons (pv 5) pa_nil))))
      (pss_cons (ps_if (PW.pt (pw_or (pt_not (pt_val (pe_callB call_isi (by rfl) T.b_isinstance (by decide +kernel) (pa_cons (pv 7) (pa_cons (pe_bltn (v := .ty "str") (by rfl) T.b_str (by decide +kernel) rfl) pa_nil)))))
          (pw_or (pt_cmpR op_ne (pv 7) (pe_c (ok_due T) r3 pass0 (pa_cons (pv 2) (pa_cons (pv 5) pa_nil))) (nomark _)) (pw_or1 (pt_cmpR op_notBl (pe_c (ok_chkp T) hr pass0 (pa_cons (pv 3) (pa_cons (pv 5) (pa_cons (pv 7) pa_nil)))) pe_bl (nomark _)))))) (pss_one (ps_ret pe_bl)) pss_nil)
      (pss_cons (ps_if (PW.pt (pw_and (pt_cmpR op_notN (pv 6) pe_non (nomark _)) (pw_and1 (pt_cmpR op_ne (pe_ix (r := rIxL K) ix_list (pe_split (pv 7) pe_str) pe_int (fun _ _ => rfl)) (pe_ix (r := rIxL K) ix_list (pe_lst (pa_cons pe_str (pa_cons pe_str pa_nil))) (pe_callTy call_int1 (by rfl) T.b_int (by decide +kernel) (pa_cons (pv 6) pa_nil)) (fun _ _ => rfl)) (nomark _))))) (pss_one (ps_ret pe_bl)) pss_nil)
      (pss_cons (ps_set (i := 8) nd rfl (.inl rfl) (pe_c (ok_changed T) r1 pass0 (pa_cons (pe_split (pv 7) pe_str) (pa_cons (pv 1) pa_nil))))
      (pss_cons (ps_set (i := 9) nd rfl (.inl rfl) (pe_c (ok_chkp T) hr pass0 (pa_cons (pv 3) (pa_cons (pe_callTy (T := "list") call_list_of (by rfl) T.b_list (by decide +kernel) (pa_cons (pv 5) pa_nil)) (pa_cons (pe_join pe_str (pv 8)) pa_nil)))))
      (pss_cons (ps_if (pt_not (pt_val (pe_callB call_isi (by rfl) T.b_isinstance (by decide +kernel) (pa_cons (pv 9) (pa_cons (pe_bltn (v := .ty "bool") (by rfl) T.b_bool (by decide +kernel) rfl) pa_nil))))) (pss_one (ps_ret pe_bl)) pss_nil)
      (pss_cut (ps_if (pt_cmpR op_eq (pe_ix (r := rIxL K) ix_list (pv 8) pe_int (fun _ _ => rfl)) pe_str (nomark _))
          (pss_cons (ps_set (i := 10) nd rfl (.inl rfl) (pe_ix (r := rIxL K) ix_list (pe_c (ok_fall T) r2 pass0 (pa_cons (pv 2) (pa_cons (pe_lc (own := [("_law_letter", 13)]) (g := gName 13) (tt := tYes) rfl nd (pi_list (pe_slice sl_list (pv 8) (po_some pe_int) po_none)) (blkOk_by (N := NL) (sc := defScope s_law) (by decide +kernel)) (fun _ _ _ _ _ => pg_name (i := 13) nd rfl (.inl rfl)) (fun _ _ _ _ _ => pts_nil)
              (fun _ _ _ _ _ => pe_op op_sub (pe_callTy (T := "int") (r := rIntS) call_int_str (by rfl) T.b_int (by decide +kernel) (pa_cons (pv 13) pa_nil)) pe_int)) pa_nil)))
              (pe_op op_sub (pe_callTy (T := "int") (r := rIntS) call_int_str (by rfl) T.b_int (by decide +kernel) (pa_cons (pe_ix (r := rIxL K) ix_list (pv 8) pe_int (fun _ _ => rfl)) pa_nil)) pe_int) (fun _ _ => rfl)))
          (pss_one (ps_if (pt_cmpR op_ne (pv 9) (pe_cmpR (op_eqD hu) (pv 10) (pv 5) (nomark _)) (nomark _)) (pss_one (ps_ret pe_bl)) pss_nil))) pss_nil)
      (pss_cons (ps_if (PW.pt (pw_and (pt_cmpR op_eq (pe_ix (r := rIxL K) ix_list (pv 8) pe_int (fun _ _ => rfl)) pe_str (nomark _)) (pw_and1 (pt_cmpR op_ne (pv 9) (pe_c (ok_shows T) r3 pass0 (pa_cons (pv 2) (pa_cons (pv 5) (pa_cons (pe_slice sl_list (pv 8) (po_some pe_int) po_none) pa_nil)))) (nomark _))))) (pss_one (ps_ret pe_bl)) pss_nil)
      (pss_cons (ps_if (PW.pt (pw_and (pt_cmpR op_isP (pv 6) pe_bl (nomark _)) (pw_and1 (pt_cmpR op_notBl (pe_c (ok_chkp T) hr pass0 (pa_cons (pv 3) (pa_cons (pv 5) (pa_cons (pe_join pe_str (pe_op op_cat (pe_lst (pa_cons pe_str pa_nil)) (pe_slice sl_list (pv 8) (po_some pe_int) po_none))) pa_nil)))) pe_bl (nomark _))))) (pss_one (ps_ret pe_bl)) pss_nil)
      (pss_cons (ps_for PassesOwn.never rfl (pi_list (pe_lst (pa_cons pe_str (pa_cons pe_str (pa_cons pe_str (pa_cons (pe_op op_add_str (pv 7) pe_str) (pa_cons (pe_op op_add_str pe_str (pv 7)) (pa_cons (pe_op op_add_str (pv 7) pe_str) (pa_cons pe_str (pa_cons pe_str (pa_cons pe_str pa_nil))))))))))) (pg_name (i := 11) nd rfl (.inl rfl))
        (pss_one (ps_if (PW.pt (pw_or (pt_cmpR op_ne (pe_c (ok_ref T T2) r4 pass0 (pa_cons (pv 3) (pa_cons (pv 5) (pa_cons (pv 11) pa_nil)))) pe_int (nomark _)) (pw_or1 (pt_cmpR op_ne (pe_c (ok_ref T T2) r4 pass0 (pa_cons (pv 3) (pa_cons (pe_tup (pa_cons pe_int (pa_cons pe_int (pa_cons pe_int (pa_cons pe_int pa_nil))))) (pa_cons (pv 11) pa_nil)))) pe_str (nomark _))))) (pss_one (ps_ret pe_bl)) pss_nil)))
      (pss_one (ps_ret (pe_cmpR op_eq (pe_c (ok_ref T T2) r4 pass0 (pa_cons (pv 3) (pa_cons (pe_tup (pa_cons pe_int (pa_cons pe_int (pa_cons pe_int (pa_cons pe_int pa_nil))))) (pa_cons (pv 7) pa_nil)))) pe_str (nomark _))))))))))))))))))))), ?_⟩
    refine ⟨_, rfl, ls, ms, rfl, hls, hms, fun H1 ln ns e1 hn hln => ?_⟩
    refine ⟨_, rfl, ln, ns, rfl, hln, hn, fun H2 lc e2 hF => ?_⟩
    obtain ⟨hV, hFr, hB⟩ := four_ok ns
    refine q_asgO (n := 100) rfl hF (by decide) (by decide) hB hV fun H3 lo e3 hO => ?_
    have l3 : H3 ln = some (.lst (ns.map V.int)) := (e2.trans e3) _ _ hln
    have nj : ∀ (j : Nat) {σ : L2.St} {H' : Hp}, j < 60 → σ[1]? = some (some (.ref ln)) → Ex H3 H' → Ev (tCB rInt1 (tCons (tOp (rIxL K) (tVar 1) (tC (.int (j : Int)))) tNil)) σ H' (.int (nth ns j)) := fun j {σ H'} hj h1 e => ev_int (ev_ixL (ev_var h1) ev_c (e _ _ l3) (nth_at (ns := ns) (i := j) (by omega)))
    refine q_asgL (xs := wL (wordN ns 30 (nth ns 20 % 9).toNat)) (el_is (el_lcR1 (n := nth ns 20 % 9) (fun _ => true) (fun k => .int (nth ns (30 + k) % 4)) (ea_cons (ev_mod (nj 20 (by decide) rfl (Ex.refl _)) ev_c (by decide)) ea_nil) (by omega) (fun _ => rfl) (fun _ _ _ _ => et_yes rfl) (fun i H4 e4 hi _ => ?_)) (wordN_given ns 30 _)) fun lw H4 _ e4 hw => ?_
    · refine ev_mod (ev_int (ev_ixL (ev_var rfl) (ev_add ev_c (ev_var rfl)) (e4 _ _ l3) ?_)) ev_c (by decide)
      have := nth_at (ns := ns) (i := 30 + i) (by omega)
      rw [Int.natCast_add] at this
      exact this
    have hF4 := hF.ex (e3.trans e4)
    have k21 : (nth ns 21 % 4).toNat < 4 := by omega
    have i21 : ((nth ns 21 % 4).toNat : Int) = nth ns 21 % 4 := Int.toNat_of_nonneg (Int.emod_nonneg _ (by decide))
    have at4 : ∀ (b1 b2 b3 b4 : Addr), atI (R4 b1 b2 b3 b4) (nth ns 21 % 4) = some (.ref (adr b1 b2 b3 b4 (nth ns 21 % 4).toNat)) := fun b1 b2 b3 b4 => by
      rw [← i21]
      rcases four_cases k21 with z | z | z | z <;> rw [z] <;> rfl
    refine ⟨_, rfl, _, rfl, lc, lw, _, _, rfl, hF4, SqL.of hw, wordN_lt _ _ _, fun H5 l5 e5 ⟨b1, b2, b3, b4, hl5, hB5⟩ => ?_⟩
    refine (ev_mod (nj 21 (by decide) rfl (e4.trans e5)) ev_c (by decide)) H5 (Ex.refl _) _ fun H6 e6 => ?_
    refine rv_ixL (SqL.of hl5) (at4 b1 b2 b3 b4) H6 e6 _ fun H7 e7 => ?_
    have hC7 : CT H7 (adr b1 b2 b3 b4 (nth ns 21 % 4).toNat) (circ0 ns) := ((hB5.ex (e6.trans e7)).at k21)
    refine q_asg ev_c fun H8 e8 => ?_
    have e38 := (((e4.trans e5).trans e6).trans e7).trans e8
    refine q_cut (M := fun σ' H' => ∃ q C th, σ' = [some (.ref ls), some (.ref ln), some (.ref lc), some (.ref lo), some (.ref lw), some (.ref q), some (thV th), none, none, none, none, none, none, none] ∧ Ex H3 H' ∧ CT H' q C ∧ Good (fourOf ns) C th) ?_ ?_
    · refine s_when (et_test (ev_eqI (ev_mod (nj 22 (by decide) rfl e38) ev_c (by decide)) ev_c)) (fun _ H9 e9 => ?_) (fun _ H9 e9 => ?_)
      · refine ⟨_, rfl, _, circ0 ns, rfl, hC7.ex (e8.trans e9), fun H10 q e10 hq => ?_⟩
        exact s_asg ev_c fun H11 e11 => ⟨q, _, some false, rfl, ((e38.trans e9).trans e10).trans e11, hq.ex e11, good1 ns⟩
      · exact ⟨_, _, some true, rfl, e38.trans e9, hC7.ex (e8.trans e9), good0 ns⟩
    rintro σ' H9 ⟨q, C, th, rfl, e39, hC, hG⟩
    refine q_cut (M := fun σ' H' => ∃ q C th, σ' = [some (.ref ls), some (.ref ln), some (.ref lc), some (.ref lo), some (.ref lw), some (.ref q), some (thV th), none, none, none, none, none, none, none] ∧ Ex H3 H' ∧ CT H' q C ∧ Good (fourOf ns) C th) ?_ ?_
    · refine s_when (et_test (ev_eqI (ev_mod (nj 22 (by decide) rfl e39) ev_c (by decide)) ev_c)) (fun _ H10 e10 => ?_) (fun _ H10 e10 => ⟨q, C, th, rfl, e39.trans e10, hC.ex e10, hG⟩)
      have e310 := e39.trans e10
      refine ⟨_, rfl, ?_⟩
      refine (ev_ixL (ev_var rfl) ev_c (e310 _ _ l3) (nth_at (ns := ns) (i := 45) (by omega))) H10 (Ex.refl _) _ fun H11 e11 => ?_
      refine ⟨nth ns 45, rfl, fun H12 lg e12 ⟨g1, g2, g3, g4, hlg, hGv⟩ => ?_⟩
      refine (ev_mod (nj 21 (by decide) rfl ((e310.trans e11).trans e12)) ev_c (by decide)) H12 (Ex.refl _) _ fun H13 e13 => ?_
      refine rv_ixL (SqL.of hlg) (at4 g1 g2 g3 g4) H13 e13 _ fun H14 e14 => ?_
      have e314 := (((e310.trans e11).trans e12).trans e13).trans e14
      refine ⟨ln, _, ns, 46, _, rfl, e314 _ _ l3, by omega, (hGv.ex (e13.trans e14)).at k21, fun H15 q' e15 hq' => ?_⟩
      exact s_asg ev_c fun H16 e16 => ⟨q', _, none, rfl, (e314.trans e15).trans e16, hq'.ex e16, good2 ns⟩
    clear hC hG e39 hC7
    clear q C th
    rintro σ' H10 ⟨q, C, th, rfl, e310, hC, hG⟩
    obtain ⟨hd, w, ew, wf, wz, hown, hno, hyes⟩ := own_text hFr hG.en
    have hFH : LFo H10 lc (fourOf ns) := hF.ex (e3.trans e310)
    have hOH := hO.ex e310
    have pre : ∀ {H' : Hp}, Ex H10 H' → Pre a.cFour H' lo q (fourOf ns) C 100 := fun e => ⟨hOH.ex e, (hC.ex e).cs, by decide, by decide, hB, hG.bd, hV, hG.ok⟩
    have tlen : (Txt.join SP (hd :: lts w)).length ≤ 300000 := by
      have := join_len _ wf.small
      rw [List.length_cons, lts_len] at this
      omega
    have etx : plText (srch (parts (fourOf ns) C)) = Txt.join SP (hd :: lts w) := by unfold plText; rw [ew]
    refine ⟨_, rfl, _, rfl, lo, q, _, C, 100, rfl, pre (Ex.refl _), hG.en, fun H11 e11 => ?_⟩
    rw [etx]
    have placeE : ∀ {σ : L2.St} {H' : Hp}, σ[2]? = some (some (.ref lc)) → σ[5]? = some (some (.ref q)) → Ex H10 H' → Ev (tCall spDue [] E0 (tCons (tVar 2) (tCons (tVar 5) tNil))) σ H' (.str (Txt.join SP (hd :: lts w))) := fun {σ H'} h2 h5 e => ev_callA (ea_cons (ev_var h2) (ea_cons (ev_var h5) ea_nil)) fun H1 e1 Q' q' => ⟨lc, q, _, C, 100, rfl, hFH.ex (e.trans e1), hC.ex (e.trans e1), by decide, by decide, hB, hG.bd, hG.en, by rw [etx]; exact q'⟩
    have chkE : ∀ {σ : L2.St} {H' : Hp} {te : TE} {hd' : Str} {w' : List Nat}, σ[3]? = some (some (.ref lo)) → σ[5]? = some (some (.ref q)) → WF hd' w' → w'.length ≤ 30000 → Ev te σ H' (.str (Txt.join SP (hd' :: lts w'))) → Ex H10 H' → Ev (tCall (spChkP a.cFour) [] E0 (tCons (tVar 3) (tCons (tVar 5) (tCons te tNil)))) σ H' (.bl (chkPl (fourOf ns) C hd' w')) := fun {σ H' te hd' w'} h3 h5 wf' wz' ht e => ev_callA (ea_cons (ev_var h3) (ea_cons (ev_var h5) (ea_cons ht ea_nil))) fun H1 e1 Q' q' => ⟨lo, q, _, C, 100, hd', w', rfl, pre (e.trans e1), wf'.head, wf'.some, wf'.four, wz', by omega, q'⟩
    refine q_when (b := false) (et_is (et_or (et_not (et_test (ev_isi (K := K) (t := "str") (b := true) (ev_var rfl) (fun _ _ => .base (.str _)) (by decide +kernel)))) (fun _ => et_or (et_test (ev_op (ev_var rfl) (placeE rfl rfl e11) (rv_ne rfl))) (fun _ => et_test (ev_op (chkE rfl rfl wf (by omega) (ev_var rfl) e11) ev_c (rv_val fun H1 _ Q' q' => ⟨_, true, rfl, rfl, q'⟩))))) (by rw [hown]; simp)) (fun z => nomatch z) (fun _ H12 e12 => ?_)
    have e1012 := e11.trans e12
    have splitE : ∀ {σ : L2.St} {H' : Hp}, σ[7]? = some (some (.str (Txt.join SP (hd :: lts w)))) → EvL (tM1 (fun x xs H Q => ∃ a b, x = .str a ∧ xs = [.str b] ∧ (b.length == 0) = false ∧ a.length + 2 ≤ sizeLine ∧ rNewStrs (Txt.split a b) H Q) (tVar 7) (tC (.str SP))) σ H' ((hd :: lts w).map V.str) := fun {σ H'} h7 => split_new (ev_var h7) (split_words (by simp) wf.small) (Nat.le_trans (show _ ≤ 300002 by omega) (by decide))
    have flagT : EvT (tAnd (tTest (tOp (fun x y H Q => y = .non ∧ Q (.bl (!decide (x = .non))) H) (tVar 6) (tC .non))) (tTest (tOp rNe (tOp (rIxL K) (tM1 (fun x xs H Q => ∃ a b, x = .str a ∧ xs = [.str b] ∧ (b.length == 0) = false ∧ a.length + 2 ≤ sizeLine ∧ rNewStrs (Txt.split a b) H Q) (tVar 7) (tC (.str SP))) (tC (.int 0))) (tOp (rIxL K) (tLst (tCons (tC (.str sAbsent)) (tCons (tC (.str sThere)) tNil))) (tCB rInt1 (tCons (tVar 6) tNil))))))
        [some (.ref ls), some (.ref ln), some (.ref lc), some (.ref lo), some (.ref lw), some (.ref q), some (thV th), some (.str (Txt.join SP (hd :: lts w))), none, none, none, none, none, none] H12 false := by
      cases hth : th with
      | none => exact et_is (et_and (b := false) (et_test (ev_notN (ev_var rfl) rfl)) (fun z => nomatch z)) rfl
      | some b =>
        subst hth
        have hfl := hG.flag hG.en
        have eh : hd = if b then sThere else sAbsent := by
          cases b with
          | true => exact hyes (hfl.mpr rfl)
          | false =>
            refine hno ?_
            apply Classical.byContradiction
            intro z
            have := hfl.mp z
            cases this
        refine et_is (et_and (b := !decide (V.str hd = V.str (if b then sThere else sAbsent))) (et_test (ev_notN (ev_var rfl) rfl)) (fun _ => et_test (ev_op (ev_opL1 (splitE rfl) (fun _ _ => ev_c) (fun p H1 hp e => rv_ixL (SqL.of hp) (atI_nat (j := 0) rfl))) (ev_opL1 (xs := [.str sAbsent, .str sThere]) (y := .int (if b then 1 else 0)) (el_lst (ea_cons ev_c (ea_cons ev_c ea_nil)) (show 2 ≤ 100000 by decide)) (fun _ _ => ev_intB (ev_var rfl)) (fun p H1 hp e => rv_ixL (SqL.of hp) (by cases b <;> rfl))) (rv_ne rfl)))) ?_
        rw [eh]
        simp
    refine q_when (b := false) flagT (fun z => nomatch z) (fun _ H13 e13 => ?_)
    refine (splitE rfl) H13 (Ex.refl _) _ fun p H14 _ e14 hp => ?_
    have e1014 := (e1012.trans e13).trans e14
    refine ⟨_, rfl, p, ln, hd, w, ns, rfl, hp, wf, by omega, (e310.trans e1014) _ _ l3, hn, fun H15 lw' hd' w' e15 hlw' wf' wz' => ?_⟩
    have e1015 := e1014.trans e15
    have wz2 : w'.length ≤ 30000 := by omega
    have w0E : ∀ {σ : L2.St} {H' : Hp}, σ[8]? = some (some (.ref lw')) → Ex H15 H' → Ev (tOp (rIxL K) (tVar 8) (tC (.int 0))) σ H' (.str hd') := fun {σ H'} h8 e => ev_ixL (xs := (hd' :: lts w').map V.str) (ev_var h8) ev_c (e _ _ hlw') (atI_nat (j := 0) rfl)
    have tailE : ∀ {σ : L2.St} {H' : Hp}, σ[8]? = some (some (.ref lw')) → Ex H15 H' → EvL (tSl (rSlL K) (tVar 8) (tPart (tC (.int 1))) tNoPart) σ H' ((lts w').map V.str) := fun {σ H'} h8 e => el_is (el_sl (xs := (hd' :: lts w').map V.str) (lo := some 1) (hi := none) (ev_var h8) (eo_some ev_c) eo_none (SqL.of (e _ _ hlw'))) (cut_tail _ _)
    have hFH15 : ∀ {H' : Hp}, Ex H15 H' → LFo H' lc (fourOf ns) := fun e => hFH.ex (e1015.trans e)
    refine ⟨_, rfl, _, rfl, q, CiV C, rfl, .inr (SqT.of (e1015 _ _ hC)), fun lq hlq => ?_⟩
    have e16 : Ex H15 (upd H15 lq (.lst (CiV C))) := Ex.new hlq
    refine (ev_joinV (ev_var rfl) (e16 _ _ hlw') wf'.small (by rw [List.length_cons, lts_len]; omega)) _ (Ex.refl _) _ fun H17 e17 => ?_
    refine ⟨lo, lq, _, C, 100, hd', w', rfl, ⟨hOH.ex ((e1015.trans e16).trans e17), .inr (e17 _ _ upd_same), by decide, by decide, hB, hG.bd, hV, hG.ok⟩, wf'.head, wf'.some, wf'.four, wz2, by omega, fun H18 e18 => ?_⟩
    have e1518 := (e16.trans e17).trans e18
    refine q_when (b := false) (et_is (et_not (et_test (ev_isi (K := K) (t := "bool") (b := true) (ev_var rfl) (fun _ _ => .base (.bl _)) (by decide +kernel)))) rfl) (fun z => nomatch z) (fun _ H19 e19 => ?_)
    have e1519 := e1518.trans e19
    refine q_cut (M := fun σ' H' => ∃ pv, σ' = [some (.ref ls), some (.ref ln), some (.ref lc), some (.ref lo), some (.ref lw), some (.ref q), some (thV th), some (.str (Txt.join SP (hd :: lts w))), some (.ref lw'), some (.bl (chkPl (fourOf ns) C hd' w')), pv, none, none, none] ∧ Ex H15 H') ?_ ?_
    · refine s_when (b := decide (V.str hd' = V.str sThere)) (et_test (ev_op (w0E rfl e1519) ev_c (rv_eq rfl))) (fun z H20 e20 => ?_) (fun z H20 e20 => ⟨_, rfl, e1519.trans e20⟩)
      have z : hd' = sThere := V.str.inj (of_decide_eq_true z)
      have hne := wf'.some z
      have e1520 := e1519.trans e20
      obtain ⟨j, w2, ew'⟩ : ∃ j w2, w' = j :: w2 := by
        cases w' with
        | nil => exact absurd rfl hne
        | cons j w2 => exact ⟨j, w2, rfl⟩
      subst ew'
      have j4 := wf'.four j (by simp)
      have w24 : ∀ x ∈ w2, x < 4 := fun x hx => wf'.four x (by simp [hx])
      rw [List.length_cons] at wz2
      have compE : ∀ {σ : L2.St} {H' : Hp}, σ[8]? = some (some (.ref lw')) → (wipe σ [13])[8]? = some (some (.ref lw')) → (∀ x, wipe ((wipe σ [13]).set 13 (some x)) [13] = wipe σ [13]) → (∀ x, ((wipe σ [13]).set 13 (some x))[13]? = some (some x)) → Ex H15 H' → EvL (tLc (iList K (tSl (rSlL K) (tVar 8) (tPart (tC (.int 2))) tNoPart)) (gName 13) tYes (tOp rSub (tCB rIntS (tCons (tVar 13) tNil)) (tC (.int 1))) [13]) σ H' (wL w2) := fun {σ H'} h8 h8' hw hg e => by
        refine el_is (el_lcNL (xs := (lts w2).map V.str) (fun _ => true) (fun i => .int ((w2.getD i 0 : Nat) : Int)) (el_is (el_sl (xs := (hd' :: lts (j :: w2)).map V.str) (lo := some ((2 : Nat) : Int)) (hi := none) (ev_var h8) (eo_some ev_c) eo_none (SqL.of (e _ _ hlw'))) (cut_drop 2)) (by rw [List.length_map, lts_len]; omega) hw (fun _ _ _ _ _ => et_yes rfl) (fun i x H1 e1 hx _ => ?_)) ?_
        · obtain ⟨k2, hk2, rfl⟩ := lts_at hx
          rw [getD_of hk2]
          exact ev_is (ev_sub (ev_intS (w24 k2 (List.mem_of_getElem? hk2)) (ev_var (hg _))) ev_c) (congrArg V.int (by omega))
        · rw [List.length_map, lts_len]
          exact given_map w2 (fun k : Nat => V.int (k : Int)) 0
      refine ⟨_, rfl, ?_⟩
      refine (compE rfl rfl (fun _ => rfl) (fun _ => rfl) e1520) H20 (Ex.refl _) _ fun lw2 H21 _ e21 hlw2 => ?_
      refine ⟨lc, lw2, _, w2, rfl, hFH15 (e1520.trans e21), SqL.of hlw2, w24, fun H22 lf e22 ⟨b1, b2, b3, b4, hlf, hBf⟩ => ?_⟩
      have e1522 := (e1520.trans e21).trans e22
      refine (ev_sub (ev_intS j4 (ev_ixL (xs := (hd' :: lts (j :: w2)).map V.str) (ev_var rfl) ev_c (e1522 _ _ hlw') (atI_nat (j := 1) rfl))) ev_c) H22 (Ex.refl _) _ fun H23 e23 => ?_
      have ej : ((j : Int) + 1 - 1) = (j : Int) := by omega
      rw [ej]
      refine rv_ixL (v := .ref (adr b1 b2 b3 b4 j)) (SqL.of hlf) (by rcases four_cases j4 with rfl | rfl | rfl | rfl <;> rfl) H23 e23 _ fun H24 e24 => ?_
      have e1524 := (e1522.trans e23).trans e24
      have hA : CT H24 (adr b1 b2 b3 b4 j) ((exFs (fourOf ns) w2).get j) := (hBf.ex (e23.trans e24)).at j4
      have hC24 : CT H24 q C := (hC.ex (e1015.trans e1524))
      refine s_when (b := false) (et_is (et_test (ev_op (ev_var rfl) (ev_op (ev_var rfl) (ev_var rfl) (rv_val (z := .bl (decide ((exFs (fourOf ns) w2).get j = C))) fun H1 e1 Q' q' => ⟨_, _, dp_ci (hA.ex e1), dp_ci (hC24.ex e1), by rfl, by rfl, by rw [ctup_eq]; exact q'⟩)) (rv_ne rfl))) ?_) (fun z => nomatch z) (fun _ H25 e25 => ⟨_, rfl, e1524.trans e25⟩)
      unfold chkPl
      rw [if_neg (by rw [z]; decide +kernel)]
      simp
    rintro σ' H20 ⟨pv, rfl, e1520⟩
    have showE : Ev (tCall spShows [] E0 (tCons (tVar 2) (tCons (tVar 5) (tCons (tSl (rSlL K) (tVar 8) (tPart (tC (.int 1))) tNoPart) tNil)))) [some (.ref ls), some (.ref ln), some (.ref lc), some (.ref lo), some (.ref lw), some (.ref q), some (thV th), some (.str (Txt.join SP (hd :: lts w))), some (.ref lw'), some (.bl (chkPl (fourOf ns) C hd' w')), pv, none, none, none] H20 (.bl (chkAbs (parts (fourOf ns) C) w')) := fun H1 e1 Q' q' =>
      ⟨_, rfl, _, rfl, (tailE rfl (e1520.trans e1)) H1 (Ex.refl _) _ fun p H2 _ e2 h2 => ⟨lc, q, p, _, C, 100, w', rfl, hFH15 ((e1520.trans e1).trans e2), hC.ex (e1015.trans ((e1520.trans e1).trans e2)), h2, wf'.four, by decide, by decide, hB, hG.bd, fun H3 e3 => q' H3 (e2.trans e3)⟩⟩
    refine q_when (b := false) (et_is (et_and (a := decide (V.str hd' = V.str sAbsent)) (et_test (ev_op (w0E rfl e1520) ev_c (rv_eq rfl))) (fun _ => et_test (ev_op (ev_var rfl) showE (rv_ne rfl)))) ?_) (fun z => nomatch z) (fun _ H21 e21 => ?_)
    · by_cases z : hd' = sAbsent
      · unfold chkPl
        rw [if_pos z]
        simp
      · have : V.str hd' ≠ V.str sAbsent := fun y => z (V.str.inj y)
        simp [this]
    have e1521 := e1520.trans e21
    have isE : Ev (tOp rIsP (tVar 6) (tC (.bl true))) [some (.ref ls), some (.ref ln), some (.ref lc), some (.ref lo), some (.ref lw), some (.ref q), some (thV th), some (.str (Txt.join SP (hd :: lts w))), some (.ref lw'), some (.bl (chkPl (fourOf ns) C hd' w')), pv, none, none, none] H21 (.bl (decide (th = some true))) := by
      refine ev_op (ev_var rfl) ev_c (rv_val fun H1 _ Q' q' => ⟨true, rfl, ?_⟩)
      cases th with
      | none => exact .inl ⟨rfl, q'⟩
      | some b => cases b <;> exact .inr ⟨_, rfl, q'⟩
    have wfa : WF sAbsent w' := ⟨.inr rfl, (fun z => absurd z (by decide +kernel)), wf'.four⟩
    refine q_when (b := false) (et_is (et_and (et_test isE) (fun _ => et_test (ev_op (chkE rfl rfl wfa wz2 (ev_joinL (ss := sAbsent :: lts w') (el_is (el_cat (xs := [.str sAbsent]) (el_lst (ea_cons ev_c ea_nil) (show 1 ≤ 100000 by decide)) (tailE rfl e1521) (by rw [List.length_map, lts_len, List.length_singleton]; omega)) rfl) wfa.small (by rw [List.length_cons, lts_len]; omega)) (e1015.trans e1521)) ev_c (rv_val fun H1 _ Q' q' => ⟨_, false, rfl, rfl, q'⟩)))) ?_) (fun z => nomatch z) (fun _ H22 e22 => ?_)
    · by_cases z : th = some true
      · subst z
        unfold chkPl
        rw [if_pos rfl, hG.absent w']
        rfl
      · simp [z]
    have e1522 := e1521.trans e22
    have refE2 : ∀ {σ : L2.St} {H' : Hp} {i : Nat} {b : Str}, σ[3]? = some (some (.ref lo)) → σ[i]? = some (some (.str b)) → Ev (tCall (spRef a) [] E0 (tCons (tVar 3) (tCons (tTup (tCons (tC (.int 1)) (tCons (tC (.int 1)) (tCons (tC (.int 1)) (tCons (tC (.int 0)) tNil))))) (tCons (tVar i) tNil)))) σ H' (.str "circle") := fun {σ H' i b} h3 hi H1 e1 Q' q' =>
      ⟨_, h3, (eu_tup (ea4 (C := unC) ev_c ev_c ev_c ev_c) (show 4 ≤ 100000 by decide)) H1 e1 _ fun p H2 _ e2 h2 => ⟨_, hi, lo, p, unC, b, rfl, .inl h2, unC_bd, .inl ⟨unC_bad, fun H3 e3 => q' H3 (e2.trans e3)⟩⟩⟩
    have addS : ∀ {ta tb : TE} {σ : L2.St} {H' : Hp} {x y : Str}, Ev ta σ H' (.str x) → Ev tb σ H' (.str y) → x.length + y.length ≤ 400000 → Ev (tOp (fun x y H Q => ∃ i j, x = .str i ∧ y = .str j ∧ i.length + j.length ≤ sizeLine ∧ Q (.str (i ++ j)) H) ta tb) σ H' (.str (x ++ y)) := fun ha hb hl => ev_op ha hb (rv_val fun H1 _ Q' q' => ⟨_, _, rfl, rfl, Nat.le_trans hl (by decide), q'⟩)
    have s1 : (" " : Str).length = 1 := by decide +kernel
    have s2 : (" 0" : Str).length = 2 := by decide +kernel
    refine q_forNLn (xs := (bads (Txt.join SP (hd :: lts w))).map V.str) (el_lst (ea_cons ev_c (ea_cons ev_c (ea_cons ev_c (ea_cons (addS (ev_var rfl) ev_c (by omega)) (ea_cons (addS ev_c (ev_var rfl) (by omega)) (ea_cons (addS (ev_var rfl) ev_c (by omega)) (ea_cons ev_c (ea_cons ev_c (ea_cons ev_c ea_nil))))))))) (show 9 ≤ 100000 by decide))
      (fun p i σ' H' => (∃ bv, σ' = [some (.ref ls), some (.ref ln), some (.ref lc), some (.ref lo), some (.ref lw), some (.ref q), some (thV th), some (.str (Txt.join SP (hd :: lts w))), some (.ref lw'), some (.bl (chkPl (fourOf ns) C hd' w')), pv, bv, none, none]) ∧ Ex H15 H' ∧ H' p = some (.lst ((bads (Txt.join SP (hd :: lts w))).map V.str)))
      (fun p H23 _ e23 hp => ⟨⟨none, rfl⟩, e1522.trans e23, hp⟩) (fun p i σ' H' _ h => SqL.of h.2.2) ?_ ?_
    · rintro p i x σ' H' hx ⟨⟨bv, rfl⟩, e15', hp⟩
      obtain ⟨b, hb, rfl⟩ := strs_at hx
      have bd := bads_bad wf wz b (List.mem_of_getElem? hb)
      refine s_when (b := false) (et_is (et_or (et_test (ev_op (ev_callA (z := .int 1) (ea_cons (ev_var rfl) (ea_cons (ev_var rfl) (ea_cons (ev_var rfl) ea_nil))) fun H1 e1 Q' q' => ⟨lo, q, C, b, rfl, (hC.ex (e1015.trans (e15'.trans e1))).cs, hG.bd, .inr ⟨hG.ok, bd, q'⟩⟩) ev_c (rv_ne rfl))) (fun _ => et_test (ev_op (refE2 rfl rfl) ev_c (rv_ne rfl)))) (by simp)) (fun z => nomatch z) (fun _ H24 e24 => ⟨⟨_, rfl⟩, e15'.trans e24, e24 _ _ hp⟩)
    · rintro p σ' H' ⟨⟨bv, rfl⟩, e15', hp⟩
      exact s_ret (ev_is (ev_op (refE2 rfl rfl) ev_c (rv_eq rfl)) (by simp)) fun H1 _ => k H1
end
end K64


namespace K64
open PySem PySem.Spec PyProof.Rows L2
/-! ### What the top has written; the end -/
theorem kit_ref {K : PySem.W.Frag} {t : Value} {C : Addr} {b : Bool} (hn : (t == Value.ref C) = false) (hd : PySem.W.hasDictIn K C = true) (ht : PySem.W.typeIn K (.ref C) = some (.type "type")) (h : PySem.W.subIn K t (.ref C) = some b) : PySem.W.kitOne K t (.ref C) = some b := by
  obtain ⟨cd, hc, _⟩ := PySem.W.any_some hd
  unfold PySem.W.kitOne PySem.W.kitCls
  rw [if_neg (by rw [hn]; exact Bool.false_ne_true)]
  show (if ((PySem.W.clsIn K C).isSome && PySem.W.typeIn K (.ref C) == some (.type "type")) = true then PySem.W.subIn K t (.ref C) else none) = some b
  rw [if_pos (by rw [hc, ht]; rfl)]
  exact h
theorem kit_ve {K : PySem.W.Frag} {C : Addr} {b : Bool} (h : PySem.W.subIn K (.ref C) (.type "ValueError") = some b) : PySem.W.kitOne K (.ref C) (.type "ValueError") = some b := by
  unfold PySem.W.kitOne PySem.W.kitCls
  rw [if_neg (show ¬ ((Value.ref C == Value.type "ValueError") = true) from fun z => nomatch (beq_iff_eq.mp z))]
  show (if PySem.W.kitMeta "ValueError" = true then PySem.W.subIn K (.ref C) (.type "ValueError") else none) = some b
  rw [if_pos (by decide +kernel)]
  exact h
theorem all_mk {l : PySem.W.OpenLaw} {w : World} {K : PySem.W.Frag} {h : Heap} {mg : Str → Option Value} {fa : Addr} (X : K.In h) (G : h.Ns mainGlobals mg) (hfa : mg "law" = some (.ref fa))
    {f_0 : Addr} {oc_0 kV_0 dc_0 pm_0 cd_0 ct_0 : Value} {od_0 an_0 : Option Addr} {sl_0 : Array (Option Value)}
    {f_1 : Addr} {oc_1 kV_1 dc_1 pm_1 cd_1 ct_1 : Value} {od_1 an_1 : Option Addr} {sl_1 : Array (Option Value)}
    {f_2 : Addr} {oc_2 kV_2 dc_2 pm_2 cd_2 ct_2 : Value} {od_2 an_2 : Option Addr} {sl_2 : Array (Option Value)}
    {f_3 : Addr} {oc_3 kV_3 dc_3 pm_3 cd_3 ct_3 : Value} {od_3 an_3 : Option Addr} {sl_3 : Array (Option Value)}
    {f_4 : Addr} {oc_4 kV_4 dc_4 pm_4 cd_4 ct_4 : Value} {od_4 an_4 : Option Addr} {sl_4 : Array (Option Value)}
    {f_5 : Addr} {oc_5 kV_5 dc_5 pm_5 cd_5 ct_5 : Value} {od_5 an_5 : Option Addr} {sl_5 : Array (Option Value)}
    {f_6 : Addr} {oc_6 kV_6 dc_6 pm_6 cd_6 ct_6 : Value} {od_6 an_6 : Option Addr} {sl_6 : Array (Option Value)}
    {f_7 : Addr} {oc_7 kV_7 dc_7 pm_7 cd_7 ct_7 : Value} {od_7 an_7 : Option Addr} {sl_7 : Array (Option Value)}
    {f_8 : Addr} {oc_8 kV_8 dc_8 pm_8 cd_8 ct_8 : Value} {od_8 an_8 : Option Addr} {sl_8 : Array (Option Value)}
    {f_9 : Addr} {oc_9 kV_9 dc_9 pm_9 cd_9 ct_9 : Value} {od_9 an_9 : Option Addr} {sl_9 : Array (Option Value)}
    {f_10 : Addr} {oc_10 kV_10 dc_10 pm_10 cd_10 ct_10 : Value} {od_10 an_10 : Option Addr} {sl_10 : Array (Option Value)}
    {f_11 : Addr} {oc_11 kV_11 dc_11 pm_11 cd_11 ct_11 : Value} {od_11 an_11 : Option Addr} {sl_11 : Array (Option Value)}
    {f_12 : Addr} {oc_12 kV_12 dc_12 pm_12 cd_12 ct_12 : Value} {od_12 an_12 : Option Addr} {sl_12 : Array (Option Value)}
    {f_13 : Addr} {oc_13 kV_13 dc_13 pm_13 cd_13 ct_13 : Value} {od_13 an_13 : Option Addr} {sl_13 : Array (Option Value)}
    {f_14 : Addr} {oc_14 kV_14 dc_14 pm_14 cd_14 ct_14 : Value} {od_14 an_14 : Option Addr} {sl_14 : Array (Option Value)}
    {f_15 : Addr} {oc_15 kV_15 dc_15 pm_15 cd_15 ct_15 : Value} {od_15 an_15 : Option Addr} {sl_15 : Array (Option Value)}
    {f_16 : Addr} {oc_16 kV_16 dc_16 pm_16 cd_16 ct_16 : Value} {od_16 an_16 : Option Addr} {sl_16 : Array (Option Value)}
    {f_17 : Addr} {oc_17 kV_17 dc_17 pm_17 cd_17 ct_17 : Value} {od_17 an_17 : Option Addr} {sl_17 : Array (Option Value)}
    {f_18 : Addr} {oc_18 kV_18 dc_18 pm_18 cd_18 ct_18 : Value} {od_18 an_18 : Option Addr} {sl_18 : Array (Option Value)}
    {f_19 : Addr} {oc_19 kV_19 dc_19 pm_19 cd_19 ct_19 : Value} {od_19 an_19 : Option Addr} {sl_19 : Array (Option Value)}
    {f_20 : Addr} {oc_20 kV_20 dc_20 pm_20 cd_20 ct_20 : Value} {od_20 an_20 : Option Addr} {sl_20 : Array (Option Value)}
    {f_21 : Addr} {oc_21 kV_21 dc_21 pm_21 cd_21 ct_21 : Value} {od_21 an_21 : Option Addr} {sl_21 : Array (Option Value)}
    {f_22 : Addr} {oc_22 kV_22 dc_22 pm_22 cd_22 ct_22 : Value} {od_22 an_22 : Option Addr} {sl_22 : Array (Option Value)}
    {f_23 : Addr} {oc_23 kV_23 dc_23 pm_23 cd_23 ct_23 : Value} {od_23 an_23 : Option Addr} {sl_23 : Array (Option Value)}
    {f_24 : Addr} {oc_24 kV_24 dc_24 pm_24 cd_24 ct_24 : Value} {od_24 an_24 : Option Addr} {sl_24 : Array (Option Value)}
    {f_25 : Addr} {oc_25 kV_25 dc_25 pm_25 cd_25 ct_25 : Value} {od_25 an_25 : Option Addr} {sl_25 : Array (Option Value)}
    {f_26 : Addr} {oc_26 kV_26 dc_26 pm_26 cd_26 ct_26 : Value} {od_26 an_26 : Option Addr} {sl_26 : Array (Option Value)}
    {f_27 : Addr} {oc_27 kV_27 dc_27 pm_27 cd_27 ct_27 : Value} {od_27 an_27 : Option Addr} {sl_27 : Array (Option Value)}
    {f_28 : Addr} {oc_28 kV_28 dc_28 pm_28 cd_28 ct_28 : Value} {od_28 an_28 : Option Addr} {sl_28 : Array (Option Value)}
    {f_29 : Addr} {oc_29 kV_29 dc_29 pm_29 cd_29 ct_29 : Value} {od_29 an_29 : Option Addr} {sl_29 : Array (Option Value)}
    {f_30 : Addr} {oc_30 kV_30 dc_30 pm_30 cd_30 ct_30 : Value} {od_30 an_30 : Option Addr} {sl_30 : Array (Option Value)}
    {f_31 : Addr} {oc_31 kV_31 dc_31 pm_31 cd_31 ct_31 : Value} {od_31 an_31 : Option Addr} {sl_31 : Array (Option Value)}
    {f_32 : Addr} {oc_32 kV_32 dc_32 pm_32 cd_32 ct_32 : Value} {od_32 an_32 : Option Addr} {sl_32 : Array (Option Value)}
    {f_33 : Addr} {oc_33 kV_33 dc_33 pm_33 cd_33 ct_33 : Value} {od_33 an_33 : Option Addr} {sl_33 : Array (Option Value)}
    {f_34 : Addr} {oc_34 kV_34 dc_34 pm_34 cd_34 ct_34 : Value} {od_34 an_34 : Option Addr} {sl_34 : Array (Option Value)}
    {f_35 : Addr} {oc_35 kV_35 dc_35 pm_35 cd_35 ct_35 : Value} {od_35 an_35 : Option Addr} {sl_35 : Array (Option Value)}
    {f_36 : Addr} {oc_36 kV_36 dc_36 pm_36 cd_36 ct_36 : Value} {od_36 an_36 : Option Addr} {sl_36 : Array (Option Value)}
    {f_37 : Addr} {oc_37 kV_37 dc_37 pm_37 cd_37 ct_37 : Value} {od_37 an_37 : Option Addr} {sl_37 : Array (Option Value)}
    {f_38 : Addr} {oc_38 kV_38 dc_38 pm_38 cd_38 ct_38 : Value} {od_38 an_38 : Option Addr} {sl_38 : Array (Option Value)}
    {f_39 : Addr} {oc_39 kV_39 dc_39 pm_39 cd_39 ct_39 : Value} {od_39 an_39 : Option Addr} {sl_39 : Array (Option Value)}
    {f_40 : Addr} {oc_40 kV_40 dc_40 pm_40 cd_40 ct_40 : Value} {od_40 an_40 : Option Addr} {sl_40 : Array (Option Value)}
    {cF : Addr}
    {f_m0 : Addr} {oc_m0 kV_m0 dc_m0 pm_m0 cd_m0 ct_m0 : Value} {od_m0 an_m0 : Option Addr} {sl_m0 : Array (Option Value)}
    {f_m1 : Addr} {oc_m1 kV_m1 dc_m1 pm_m1 cd_m1 ct_m1 : Value} {od_m1 an_m1 : Option Addr} {sl_m1 : Array (Option Value)}
    {f_m2 : Addr} {oc_m2 kV_m2 dc_m2 pm_m2 cd_m2 ct_m2 : Value} {od_m2 an_m2 : Option Addr} {sl_m2 : Array (Option Value)}
    {f_m3 : Addr} {oc_m3 kV_m3 dc_m3 pm_m3 cd_m3 ct_m3 : Value} {od_m3 an_m3 : Option Addr} {sl_m3 : Array (Option Value)}
    {tWords : Addr} {tdWords : Option Addr} {tnWords : Nat} {tsWords : Array (Option Value)} {t1Words t2Words t3Words t4Words : Tok}
    {tNumbers : Addr} {tdNumbers : Option Addr} {tnNumbers : Nat} {tsNumbers : Array (Option Value)} {t1Numbers t2Numbers t3Numbers t4Numbers : Tok}
    {tTexts : Addr} {tdTexts : Option Addr} {tnTexts : Nat} {tsTexts : Array (Option Value)} {t1Texts t2Texts t3Texts t4Texts : Tok}
    {cC cP fP cN cc cda fe : Addr} {nmP qP : Str} {NP : Addr} {bsP : List Value} {snP : List Str} {subP : List Value} {abP : Bool} {colP : Option Bool} {ddP : Option Addr} {m0 m1 m2 m3 m5 : Option Value} {ocP kVP dcP pmP ctP : Value} {odP anP : Option Addr} {slP : Array (Option Value)} {ccl : Value} {cdd : Option Addr} {vsP : Array Value} {ccs : Array (Option Value)} {fileP : Str} {tfP : Tok} {clP : Value} {cldP : Option Addr} {cslP : Array (Option Value)}
    (a_0 : PySem.W.nsIn K mainGlobals "is_circle" = some (some (.ref f_0)))
    (l_0 : K.lookup f_0 = some ⟨oc_0, od_0, .func (PySem.W.fnOf "is_circle" "is_circle" (defArgs s_is_circle) (defBody s_is_circle) (defScope s_is_circle) .none kV_0 dc_0 pm_0 an_0 cd_0 ct_0), sl_0⟩) (c_0 : PySem.W.codeIn K cd_0 "is_circle" = true) (k_0 : PySem.W.keepIn K (.ref f_0) = true)
    (a_1 : PySem.W.nsIn K mainGlobals "check_circle" = some (some (.ref f_1)))
    (l_1 : K.lookup f_1 = some ⟨oc_1, od_1, .func (PySem.W.fnOf "check_circle" "check_circle" (defArgs s_check_circle) (defBody s_check_circle) (defScope s_check_circle) .none kV_1 dc_1 pm_1 an_1 cd_1 ct_1), sl_1⟩) (c_1 : PySem.W.codeIn K cd_1 "check_circle" = true) (k_1 : PySem.W.keepIn K (.ref f_1) = true)
    (a_2 : PySem.W.nsIn K mainGlobals "double" = some (some (.ref f_2)))
    (l_2 : K.lookup f_2 = some ⟨oc_2, od_2, .func (PySem.W.fnOf "double" "double" (defArgs s_double) (defBody s_double) (defScope s_double) .none kV_2 dc_2 pm_2 an_2 cd_2 ct_2), sl_2⟩) (c_2 : PySem.W.codeIn K cd_2 "double" = true) (k_2 : PySem.W.keepIn K (.ref f_2) = true)
    (a_3 : PySem.W.nsIn K mainGlobals "are_outward" = some (some (.ref f_3)))
    (l_3 : K.lookup f_3 = some ⟨oc_3, od_3, .func (PySem.W.fnOf "are_outward" "are_outward" (defArgs s_are_outward) (defBody s_are_outward) (defScope s_are_outward) .none kV_3 dc_3 pm_3 an_3 cd_3 ct_3), sl_3⟩) (c_3 : PySem.W.codeIn K cd_3 "are_outward" = true) (k_3 : PySem.W.keepIn K (.ref f_3) = true)
    (a_4 : PySem.W.nsIn K mainGlobals "touch" = some (some (.ref f_4)))
    (l_4 : K.lookup f_4 = some ⟨oc_4, od_4, .func (PySem.W.fnOf "touch" "touch" (defArgs s_touch) (defBody s_touch) (defScope s_touch) .none kV_4 dc_4 pm_4 an_4 cd_4 ct_4), sl_4⟩) (c_4 : PySem.W.codeIn K cd_4 "touch" = true) (k_4 : PySem.W.keepIn K (.ref f_4) = true)
    (a_5 : PySem.W.nsIn K mainGlobals "check_word" = some (some (.ref f_5)))
    (l_5 : K.lookup f_5 = some ⟨oc_5, od_5, .func (PySem.W.fnOf "check_word" "check_word" (defArgs s_check_word) (defBody s_check_word) (defScope s_check_word) .none kV_5 dc_5 pm_5 an_5 cd_5 ct_5), sl_5⟩) (c_5 : PySem.W.codeIn K cd_5 "check_word" = true) (k_5 : PySem.W.keepIn K (.ref f_5) = true)
    (a_6 : PySem.W.nsIn K mainGlobals "four_at" = some (some (.ref f_6)))
    (l_6 : K.lookup f_6 = some ⟨oc_6, od_6, .func (PySem.W.fnOf "four_at" "four_at" (defArgs s_four_at) (defBody s_four_at) (defScope s_four_at) .none kV_6 dc_6 pm_6 an_6 cd_6 ct_6), sl_6⟩) (c_6 : PySem.W.codeIn K cd_6 "four_at" = true) (k_6 : PySem.W.keepIn K (.ref f_6) = true)
    (a_7 : PySem.W.nsIn K mainGlobals "fours_along" = some (some (.ref f_7)))
    (l_7 : K.lookup f_7 = some ⟨oc_7, od_7, .func (PySem.W.fnOf "fours_along" "fours_along" (defArgs s_fours_along) (defBody s_fours_along) (defScope s_fours_along) .none kV_7 dc_7 pm_7 an_7 cd_7 ct_7), sl_7⟩) (c_7 : PySem.W.codeIn K cd_7 "fours_along" = true) (k_7 : PySem.W.keepIn K (.ref f_7) = true)
    (a_8 : PySem.W.nsIn K mainGlobals "eighths" = some (some (.ref f_8)))
    (l_8 : K.lookup f_8 = some ⟨oc_8, od_8, .func (PySem.W.fnOf "eighths" "eighths" (defArgs s_eighths) (defBody s_eighths) (defScope s_eighths) .none kV_8 dc_8 pm_8 an_8 cd_8 ct_8), sl_8⟩) (c_8 : PySem.W.codeIn K cd_8 "eighths" = true) (k_8 : PySem.W.keepIn K (.ref f_8) = true)
    (a_9 : PySem.W.nsIn K mainGlobals "whole_coordinates" = some (some (.ref f_9)))
    (l_9 : K.lookup f_9 = some ⟨oc_9, od_9, .func (PySem.W.fnOf "whole_coordinates" "whole_coordinates" (defArgs s_whole_coordinates) (defBody s_whole_coordinates) (defScope s_whole_coordinates) .none kV_9 dc_9 pm_9 an_9 cd_9 ct_9), sl_9⟩) (c_9 : PySem.W.codeIn K cd_9 "whole_coordinates" = true) (k_9 : PySem.W.keepIn K (.ref f_9) = true)
    (a_10 : PySem.W.nsIn K mainGlobals "is_unit" = some (some (.ref f_10)))
    (l_10 : K.lookup f_10 = some ⟨oc_10, od_10, .func (PySem.W.fnOf "is_unit" "is_unit" (defArgs s_is_unit) (defBody s_is_unit) (defScope s_is_unit) .none kV_10 dc_10 pm_10 an_10 cd_10 ct_10), sl_10⟩) (c_10 : PySem.W.codeIn K cd_10 "is_unit" = true) (k_10 : PySem.W.keepIn K (.ref f_10) = true)
    (a_11 : PySem.W.nsIn K mainGlobals "next_number" = some (some (.ref f_11)))
    (l_11 : K.lookup f_11 = some ⟨oc_11, od_11, .func (PySem.W.fnOf "next_number" "next_number" (defArgs s_next_number) (defBody s_next_number) (defScope s_next_number) .none kV_11 dc_11 pm_11 an_11 cd_11 ct_11), sl_11⟩) (c_11 : PySem.W.codeIn K cd_11 "next_number" = true) (k_11 : PySem.W.keepIn K (.ref f_11) = true)
    (a_12 : PySem.W.nsIn K mainGlobals "exchanged" = some (some (.ref f_12)))
    (l_12 : K.lookup f_12 = some ⟨oc_12, od_12, .func (PySem.W.fnOf "exchanged" "exchanged" (defArgs s_exchanged) (defBody s_exchanged) (defScope s_exchanged) .none kV_12 dc_12 pm_12 an_12 cd_12 ct_12), sl_12⟩) (c_12 : PySem.W.codeIn K cd_12 "exchanged" = true) (k_12 : PySem.W.keepIn K (.ref f_12) = true)
    (a_13 : PySem.W.nsIn K mainGlobals "search" = some (some (.ref f_13)))
    (l_13 : K.lookup f_13 = some ⟨oc_13, od_13, .func (PySem.W.fnOf "search" "search" (defArgs s_search) (defBody s_search) (defScope s_search) .none kV_13 dc_13 pm_13 an_13 cd_13 ct_13), sl_13⟩) (c_13 : PySem.W.codeIn K cd_13 "search" = true) (k_13 : PySem.W.keepIn K (.ref f_13) = true)
    (a_14 : PySem.W.nsIn K mainGlobals "address_of" = some (some (.ref f_14)))
    (l_14 : K.lookup f_14 = some ⟨oc_14, od_14, .func (PySem.W.fnOf "address_of" "address_of" (defArgs s_address_of) (defBody s_address_of) (defScope s_address_of) .none kV_14 dc_14 pm_14 an_14 cd_14 ct_14), sl_14⟩) (c_14 : PySem.W.codeIn K cd_14 "address_of" = true) (k_14 : PySem.W.keepIn K (.ref f_14) = true)
    (a_15 : PySem.W.nsIn K mainGlobals "absence" = some (some (.ref f_15)))
    (l_15 : K.lookup f_15 = some ⟨oc_15, od_15, .func (PySem.W.fnOf "absence" "absence" (defArgs s_absence) (defBody s_absence) (defScope s_absence) .none kV_15 dc_15 pm_15 an_15 cd_15 ct_15), sl_15⟩) (c_15 : PySem.W.codeIn K cd_15 "absence" = true) (k_15 : PySem.W.keepIn K (.ref f_15) = true)
    (a_16 : PySem.W.nsIn K mainGlobals "check_absence" = some (some (.ref f_16)))
    (l_16 : K.lookup f_16 = some ⟨oc_16, od_16, .func (PySem.W.fnOf "check_absence" "check_absence" (defArgs s_check_absence) (defBody s_check_absence) (defScope s_check_absence) .none kV_16 dc_16 pm_16 an_16 cd_16 ct_16), sl_16⟩) (c_16 : PySem.W.codeIn K cd_16 "check_absence" = true) (k_16 : PySem.W.keepIn K (.ref f_16) = true)
    (a_17 : PySem.W.nsIn K mainGlobals "check_number" = some (some (.ref f_17)))
    (l_17 : K.lookup f_17 = some ⟨oc_17, od_17, .func (PySem.W.fnOf "check_number" "check_number" (defArgs s_check_number) (defBody s_check_number) (defScope s_check_number) .none kV_17 dc_17 pm_17 an_17 cd_17 ct_17), sl_17⟩) (c_17 : PySem.W.codeIn K cd_17 "check_number" = true) (k_17 : PySem.W.keepIn K (.ref f_17) = true)
    (a_18 : PySem.W.nsIn K mainGlobals "line_of" = some (some (.ref f_18)))
    (l_18 : K.lookup f_18 = some ⟨oc_18, od_18, .func (PySem.W.fnOf "line_of" "line_of" (defArgs s_line_of) (defBody s_line_of) (defScope s_line_of) .none kV_18 dc_18 pm_18 an_18 cd_18 ct_18), sl_18⟩) (c_18 : PySem.W.codeIn K cd_18 "line_of" = true) (k_18 : PySem.W.keepIn K (.ref f_18) = true)
    (a_19 : PySem.W.nsIn K mainGlobals "are_letters" = some (some (.ref f_19)))
    (l_19 : K.lookup f_19 = some ⟨oc_19, od_19, .func (PySem.W.fnOf "are_letters" "are_letters" (defArgs s_are_letters) (defBody s_are_letters) (defScope s_are_letters) .none kV_19 dc_19 pm_19 an_19 cd_19 ct_19), sl_19⟩) (c_19 : PySem.W.codeIn K cd_19 "are_letters" = true) (k_19 : PySem.W.keepIn K (.ref f_19) = true)
    (a_20 : PySem.W.nsIn K mainGlobals "letters_of" = some (some (.ref f_20)))
    (l_20 : K.lookup f_20 = some ⟨oc_20, od_20, .func (PySem.W.fnOf "letters_of" "letters_of" (defArgs s_letters_of) (defBody s_letters_of) (defScope s_letters_of) .none kV_20 dc_20 pm_20 an_20 cd_20 ct_20), sl_20⟩) (c_20 : PySem.W.codeIn K cd_20 "letters_of" = true) (k_20 : PySem.W.keepIn K (.ref f_20) = true)
    (a_21 : PySem.W.nsIn K mainGlobals "place_text" = some (some (.ref f_21)))
    (l_21 : K.lookup f_21 = some ⟨oc_21, od_21, .func (PySem.W.fnOf "place_text" "place_text" (defArgs s_place_text) (defBody s_place_text) (defScope s_place_text) .none kV_21 dc_21 pm_21 an_21 cd_21 ct_21), sl_21⟩) (c_21 : PySem.W.codeIn K cd_21 "place_text" = true) (k_21 : PySem.W.keepIn K (.ref f_21) = true)
    (a_22 : PySem.W.nsIn K mainGlobals "check_place_text" = some (some (.ref f_22)))
    (l_22 : K.lookup f_22 = some ⟨oc_22, od_22, .func (PySem.W.fnOf "check_place_text" "check_place_text" (defArgs s_check_place_text) (defBody s_check_place_text) (defScope s_check_place_text) .none kV_22 dc_22 pm_22 an_22 cd_22 ct_22), sl_22⟩) (c_22 : PySem.W.codeIn K cd_22 "check_place_text" = true) (k_22 : PySem.W.keepIn K (.ref f_22) = true)
    (a_23 : PySem.W.nsIn K mainGlobals "_law_row" = some (some (.ref f_23)))
    (l_23 : K.lookup f_23 = some ⟨oc_23, od_23, .func (PySem.W.fnOf "_law_row" "_law_row" (defArgs s_l_row) (defBody s_l_row) (defScope s_l_row) .none kV_23 dc_23 pm_23 an_23 cd_23 ct_23), sl_23⟩) (c_23 : PySem.W.codeIn K cd_23 "_law_row" = true) (k_23 : PySem.W.keepIn K (.ref f_23) = true)
    (a_24 : PySem.W.nsIn K mainGlobals "_law_numbers" = some (some (.ref f_24)))
    (l_24 : K.lookup f_24 = some ⟨oc_24, od_24, .func (PySem.W.fnOf "_law_numbers" "_law_numbers" (defArgs s_l_numbers) (defBody s_l_numbers) (defScope s_l_numbers) .none kV_24 dc_24 pm_24 an_24 cd_24 ct_24), sl_24⟩) (c_24 : PySem.W.codeIn K cd_24 "_law_numbers" = true) (k_24 : PySem.W.keepIn K (.ref f_24) = true)
    (a_25 : PySem.W.nsIn K mainGlobals "_law_given" = some (some (.ref f_25)))
    (l_25 : K.lookup f_25 = some ⟨oc_25, od_25, .func (PySem.W.fnOf "_law_given" "_law_given" (defArgs s_l_given) (defBody s_l_given) (defScope s_l_given) .none kV_25 dc_25 pm_25 an_25 cd_25 ct_25), sl_25⟩) (c_25 : PySem.W.codeIn K cd_25 "_law_given" = true) (k_25 : PySem.W.keepIn K (.ref f_25) = true)
    (a_26 : PySem.W.nsIn K mainGlobals "_law_moved" = some (some (.ref f_26)))
    (l_26 : K.lookup f_26 = some ⟨oc_26, od_26, .func (PySem.W.fnOf "_law_moved" "_law_moved" (defArgs s_l_moved) (defBody s_l_moved) (defScope s_l_moved) .none kV_26 dc_26 pm_26 an_26 cd_26 ct_26), sl_26⟩) (c_26 : PySem.W.codeIn K cd_26 "_law_moved" = true) (k_26 : PySem.W.keepIn K (.ref f_26) = true)
    (a_27 : PySem.W.nsIn K mainGlobals "_law_laid" = some (some (.ref f_27)))
    (l_27 : K.lookup f_27 = some ⟨oc_27, od_27, .func (PySem.W.fnOf "_law_laid" "_law_laid" (defArgs s_l_laid) (defBody s_l_laid) (defScope s_l_laid) .none kV_27 dc_27 pm_27 an_27 cd_27 ct_27), sl_27⟩) (c_27 : PySem.W.codeIn K cd_27 "_law_laid" = true) (k_27 : PySem.W.keepIn K (.ref f_27) = true)
    (a_28 : PySem.W.nsIn K mainGlobals "_law_other" = some (some (.ref f_28)))
    (l_28 : K.lookup f_28 = some ⟨oc_28, od_28, .func (PySem.W.fnOf "_law_other" "_law_other" (defArgs s_l_other) (defBody s_l_other) (defScope s_l_other) .none kV_28 dc_28 pm_28 an_28 cd_28 ct_28), sl_28⟩) (c_28 : PySem.W.codeIn K cd_28 "_law_other" = true) (k_28 : PySem.W.keepIn K (.ref f_28) = true)
    (a_29 : PySem.W.nsIn K mainGlobals "_law_fallen" = some (some (.ref f_29)))
    (l_29 : K.lookup f_29 = some ⟨oc_29, od_29, .func (PySem.W.fnOf "_law_fallen" "_law_fallen" (defArgs s_l_fallen) (defBody s_l_fallen) (defScope s_l_fallen) .none kV_29 dc_29 pm_29 an_29 cd_29 ct_29), sl_29⟩) (c_29 : PySem.W.codeIn K cd_29 "_law_fallen" = true) (k_29 : PySem.W.keepIn K (.ref f_29) = true)
    (a_30 : PySem.W.nsIn K mainGlobals "_law_four" = some (some (.ref f_30)))
    (l_30 : K.lookup f_30 = some ⟨oc_30, od_30, .func (PySem.W.fnOf "_law_four" "_law_four" (defArgs s_l_four) (defBody s_l_four) (defScope s_l_four) .none kV_30 dc_30 pm_30 an_30 cd_30 ct_30), sl_30⟩) (c_30 : PySem.W.codeIn K cd_30 "_law_four" = true) (k_30 : PySem.W.keepIn K (.ref f_30) = true)
    (a_31 : PySem.W.nsIn K mainGlobals "_law_double" = some (some (.ref f_31)))
    (l_31 : K.lookup f_31 = some ⟨oc_31, od_31, .func (PySem.W.fnOf "_law_double" "_law_double" (defArgs s_l_double) (defBody s_l_double) (defScope s_l_double) .none kV_31 dc_31 pm_31 an_31 cd_31 ct_31), sl_31⟩) (c_31 : PySem.W.codeIn K cd_31 "_law_double" = true) (k_31 : PySem.W.keepIn K (.ref f_31) = true)
    (a_32 : PySem.W.nsIn K mainGlobals "_law_opposite" = some (some (.ref f_32)))
    (l_32 : K.lookup f_32 = some ⟨oc_32, od_32, .func (PySem.W.fnOf "_law_opposite" "_law_opposite" (defArgs s_l_opposite) (defBody s_l_opposite) (defScope s_l_opposite) .none kV_32 dc_32 pm_32 an_32 cd_32 ct_32), sl_32⟩) (c_32 : PySem.W.codeIn K cd_32 "_law_opposite" = true) (k_32 : PySem.W.keepIn K (.ref f_32) = true)
    (a_33 : PySem.W.nsIn K mainGlobals "_law_parts" = some (some (.ref f_33)))
    (l_33 : K.lookup f_33 = some ⟨oc_33, od_33, .func (PySem.W.fnOf "_law_parts" "_law_parts" (defArgs s_l_parts) (defBody s_l_parts) (defScope s_l_parts) .none kV_33 dc_33 pm_33 an_33 cd_33 ct_33), sl_33⟩) (c_33 : PySem.W.codeIn K cd_33 "_law_parts" = true) (k_33 : PySem.W.keepIn K (.ref f_33) = true)
    (a_34 : PySem.W.nsIn K mainGlobals "_law_next" = some (some (.ref f_34)))
    (l_34 : K.lookup f_34 = some ⟨oc_34, od_34, .func (PySem.W.fnOf "_law_next" "_law_next" (defArgs s_l_next) (defBody s_l_next) (defScope s_l_next) .none kV_34 dc_34 pm_34 an_34 cd_34 ct_34), sl_34⟩) (c_34 : PySem.W.codeIn K cd_34 "_law_next" = true) (k_34 : PySem.W.keepIn K (.ref f_34) = true)
    (a_35 : PySem.W.nsIn K mainGlobals "_law_behind" = some (some (.ref f_35)))
    (l_35 : K.lookup f_35 = some ⟨oc_35, od_35, .func (PySem.W.fnOf "_law_behind" "_law_behind" (defArgs s_l_behind) (defBody s_l_behind) (defScope s_l_behind) .none kV_35 dc_35 pm_35 an_35 cd_35 ct_35), sl_35⟩) (c_35 : PySem.W.codeIn K cd_35 "_law_behind" = true) (k_35 : PySem.W.keepIn K (.ref f_35) = true)
    (a_36 : PySem.W.nsIn K mainGlobals "_law_due" = some (some (.ref f_36)))
    (l_36 : K.lookup f_36 = some ⟨oc_36, od_36, .func (PySem.W.fnOf "_law_due" "_law_due" (defArgs s_l_due) (defBody s_l_due) (defScope s_l_due) .none kV_36 dc_36 pm_36 an_36 cd_36 ct_36), sl_36⟩) (c_36 : PySem.W.codeIn K cd_36 "_law_due" = true) (k_36 : PySem.W.keepIn K (.ref f_36) = true)
    (a_37 : PySem.W.nsIn K mainGlobals "_law_shows" = some (some (.ref f_37)))
    (l_37 : K.lookup f_37 = some ⟨oc_37, od_37, .func (PySem.W.fnOf "_law_shows" "_law_shows" (defArgs s_l_shows) (defBody s_l_shows) (defScope s_l_shows) .none kV_37 dc_37 pm_37 an_37 cd_37 ct_37), sl_37⟩) (c_37 : PySem.W.codeIn K cd_37 "_law_shows" = true) (k_37 : PySem.W.keepIn K (.ref f_37) = true)
    (a_38 : PySem.W.nsIn K mainGlobals "_law_refused" = some (some (.ref f_38)))
    (l_38 : K.lookup f_38 = some ⟨oc_38, od_38, .func (PySem.W.fnOf "_law_refused" "_law_refused" (defArgs s_l_refused) (defBody s_l_refused) (defScope s_l_refused) .none kV_38 dc_38 pm_38 an_38 cd_38 ct_38), sl_38⟩) (c_38 : PySem.W.codeIn K cd_38 "_law_refused" = true) (k_38 : PySem.W.keepIn K (.ref f_38) = true)
    (a_39 : PySem.W.nsIn K mainGlobals "_law_changed" = some (some (.ref f_39)))
    (l_39 : K.lookup f_39 = some ⟨oc_39, od_39, .func (PySem.W.fnOf "_law_changed" "_law_changed" (defArgs s_l_changed) (defBody s_l_changed) (defScope s_l_changed) .none kV_39 dc_39 pm_39 an_39 cd_39 ct_39), sl_39⟩) (c_39 : PySem.W.codeIn K cd_39 "_law_changed" = true) (k_39 : PySem.W.keepIn K (.ref f_39) = true)
    (a_40 : PySem.W.nsIn K mainGlobals "law" = some (some (.ref f_40)))
    (l_40 : K.lookup f_40 = some ⟨oc_40, od_40, .func (PySem.W.fnOf "law" "law" (defArgs s_law) (defBody s_law) (defScope s_law) .none kV_40 dc_40 pm_40 an_40 cd_40 ct_40), sl_40⟩) (c_40 : PySem.W.codeIn K cd_40 "law" = true) (k_40 : PySem.W.keepIn K (.ref f_40) = true)
    (aF : PySem.W.nsIn K mainGlobals "Four" = some (some (.ref cF)))
    (a_m0 : PySem.W.findIn K (.ref cF) "__init__" = some (some (.ref f_m0))) (i_m0 : PySem.W.isFn K (.ref f_m0) = true)
    (l_m0 : K.lookup f_m0 = some ⟨oc_m0, od_m0, .func (PySem.W.fnOf "__init__" "Four.__init__" (defArgs m_init) (defBody m_init) (defScope m_init) .none kV_m0 dc_m0 pm_m0 an_m0 cd_m0 ct_m0), sl_m0⟩) (c_m0 : PySem.W.codeIn K cd_m0 "Four.__init__" = true) (k_m0 : PySem.W.keepIn K (.ref f_m0) = true)
    (a_m1 : PySem.W.findIn K (.ref cF) "circle" = some (some (.ref f_m1))) (i_m1 : PySem.W.isFn K (.ref f_m1) = true)
    (l_m1 : K.lookup f_m1 = some ⟨oc_m1, od_m1, .func (PySem.W.fnOf "circle" "Four.circle" (defArgs m_circle) (defBody m_circle) (defScope m_circle) .none kV_m1 dc_m1 pm_m1 an_m1 cd_m1 ct_m1), sl_m1⟩) (c_m1 : PySem.W.codeIn K cd_m1 "Four.circle" = true) (k_m1 : PySem.W.keepIn K (.ref f_m1) = true)
    (a_m2 : PySem.W.findIn K (.ref cF) "other" = some (some (.ref f_m2))) (i_m2 : PySem.W.isFn K (.ref f_m2) = true)
    (l_m2 : K.lookup f_m2 = some ⟨oc_m2, od_m2, .func (PySem.W.fnOf "other" "Four.other" (defArgs m_other) (defBody m_other) (defScope m_other) .none kV_m2 dc_m2 pm_m2 an_m2 cd_m2 ct_m2), sl_m2⟩) (c_m2 : PySem.W.codeIn K cd_m2 "Four.other" = true) (k_m2 : PySem.W.keepIn K (.ref f_m2) = true)
    (a_m3 : PySem.W.findIn K (.ref cF) "exchanged" = some (some (.ref f_m3))) (i_m3 : PySem.W.isFn K (.ref f_m3) = true)
    (l_m3 : K.lookup f_m3 = some ⟨oc_m3, od_m3, .func (PySem.W.fnOf "exchanged" "Four.exchanged" (defArgs m_exchanged) (defBody m_exchanged) (defScope m_exchanged) .none kV_m3 dc_m3 pm_m3 an_m3 cd_m3 ct_m3), sl_m3⟩) (c_m3 : PySem.W.codeIn K cd_m3 "Four.exchanged" = true) (k_m3 : PySem.W.keepIn K (.ref f_m3) = true)
    (pg : PySem.W.plainGet K cF Str.empty = true) (hd : PySem.W.hasDictIn K cF = true) (po : PySem.W.plainOver K cF = true) (sa : PySem.W.findIn K (.ref cF) "__setattr__" = some (some (.builtin "object.__setattr__"))) (mk : PySem.W.makesIn K cF = true) (kc : PySem.W.keepIn K (.ref cF) = true) (nC : PySem.W.findIn K (.ref cF) "circles" = some none)
    (aWords : PySem.W.nsIn K mainGlobals "LETTERS_words" = some (some (.ref tWords))) (lWords : K.lookup tWords = some ⟨.type "tuple", tdWords, .seq #[.int 1 t1Words, .int 2 t2Words, .int 3 t3Words, .int 4 t4Words] tnWords, tsWords⟩)
    (aNumbers : PySem.W.nsIn K mainGlobals "NUMBERS" = some (some (.ref tNumbers))) (lNumbers : K.lookup tNumbers = some ⟨.type "tuple", tdNumbers, .seq #[.int 1 t1Numbers, .int 2 t2Numbers, .int 3 t3Numbers, .int 4 t4Numbers] tnNumbers, tsNumbers⟩)
    (aTexts : PySem.W.nsIn K mainGlobals "LETTERS_texts" = some (some (.ref tTexts))) (lTexts : K.lookup tTexts = some ⟨.type "tuple", tdTexts, .seq #[.str "1" t1Texts, .str "2" t2Texts, .str "3" t3Texts, .str "4" t4Texts] tnTexts, tsTexts⟩)
    (eC0 : PySem.W.nsIn K mainGlobals "InvalidCircle" = some (some (.ref cC)))
    (eC1 : PySem.W.excIn K cC [.type "ValueError", .type "Exception", .type "BaseException", .type "object"] "ValueError.__new__" = true)
    (eC2 : PySem.W.keepIn K (.ref cC) = true)
    (eC3 : PySem.W.subIn K (.ref cC) (.type "BaseException") = some true)
    (eC4 : PySem.W.typeIn K (.ref cC) = some (.type "type"))
    (eP0 : PySem.W.nsIn K mainGlobals "InvalidPaper" = some (some (.ref cP)))
    (eP1 : K.lookup cP = some (excClassObj nmP qP cP NP bsP [.ref fe, .type "ValueError", .type "Exception", .type "BaseException", .type "object"] true snP subP abP colP ddP m0 m1 m2 m3 m5 "ValueError.__new__"))
    (eP2 : PySem.W.findIn K (.ref cP) "__setattr__" = some (some (.builtin "object.__setattr__")))
    (eP3 : PySem.W.subIn K (.ref cP) (.type "BaseException") = some true)
    (eP4 : PySem.W.typeIn K (.ref cP) = some (.type "type"))
    (eP5 : PySem.W.keepIn K (.ref cP) = true)
    (eP6 : PySem.W.findIn K (.ref cP) "__init__" = some (some (.ref fP)))
    (eP7 : PySem.W.typeIn K (.ref fP) = some (.type "function"))
    (eP8 : PySem.W.findIn K (.ref cP) "line" = some none)
    (eP9 : K.lookup fP = some ⟨ocP, odP, .func (PySem.W.ksFn "__init__" "InvalidPaper.__init__" (defArgs i_paper) (defBody i_paper) (defScope i_paper) .none kVP dcP pmP anP (.ref cda) ctP cc), slP⟩)
    (eP10 : PySem.W.codeIn K (.ref cda) "InvalidPaper.__init__" = true)
    (eP11 : K.lookup cda = some ⟨ccl, cdd, .fields vsP, ccs⟩)
    (eP12 : vsP[2]? = some (.str fileP tfP))
    (eP13 : ((l.prog.main.file : Str) == fileP) = true)
    (eP14 : K.lookup cc = some ⟨clP, cldP, .cell (some (.ref cP)), cslP⟩)
    (eP15 : PySem.W.nsIn K cStatics "thirdparty.any" = some none)
    (eP16 : PySem.W.subIn K (.ref cP) (.type "ValueError") = some true)
    (eP17 : PySem.W.ks_superIn K cP cP "__init__" = some (some (.builtin "ValueError.__init__")))
    (eP18 : PySem.W.mroIn K cP (.ref cP) = some true)
    (eP19 : (l.prog.main.scope.names.lookup ("super" : Str)).isSome = false)
    (eP20 : PySem.W.findIn K (.ref cP) "__getattribute__" = some (some (.builtin "BaseException.__getattribute__")))
    (eP21 : PySem.W.findIn K (.ref cP) "__getattr__" = some none)
    (eP22 : PySem.W.hasDictIn K cP = true)
    (eP23 : PySem.W.findIn K (.ref cP) "__class__" = some (some (.builtin "object.__class__")))
    (eP24 : PySem.W.specialIn K (.builtin "object.__class__") "__get__" = some (some (.builtin "getset_descriptor.__get__")))
    (eP25 : PySem.W.takesIn K (.builtin "object.__class__") = some true)
    (eP26 : PySem.W.mroIn K cP (.type "object") = some true)
    (eN0 : PySem.W.nsIn K mainGlobals "InvalidNotation" = some (some (.ref cN)))
    (eN1 : PySem.W.hasDictIn K cN = true)
    (eN2 : PySem.W.typeIn K (.ref cN) = some (.type "type"))
    (eN3 : PySem.W.subIn K (.ref cP) (.ref cN) = some false)
    (eN4 : ((Value.ref cP == Value.ref cN) = false))
    (eX1 : PySem.W.hasDictIn K cC = true)
    (eX2 : PySem.W.subIn K (.ref cP) (.ref cP) = some true)
    (eX3 : PySem.W.subIn K (.ref cC) (.ref cP) = some false)
    (eX4 : PySem.W.subIn K (.ref cC) (.ref cC) = some true)
    (zb_len : PySem.W.nsIn K mainGlobals "len" = some none)
    (zb_any : PySem.W.nsIn K mainGlobals "any" = some none)
    (zb_all : PySem.W.nsIn K mainGlobals "all" = some none)
    (zb_sum : PySem.W.nsIn K mainGlobals "sum" = some none)
    (zb_sorted : PySem.W.nsIn K mainGlobals "sorted" = some none)
    (zb_enumerate : PySem.W.nsIn K mainGlobals "enumerate" = some none)
    (zb_zip : PySem.W.nsIn K mainGlobals "zip" = some none)
    (zb_range : PySem.W.nsIn K mainGlobals "range" = some none)
    (zb_tuple : PySem.W.nsIn K mainGlobals "tuple" = some none)
    (zb_list : PySem.W.nsIn K mainGlobals "list" = some none)
    (zb_str : PySem.W.nsIn K mainGlobals "str" = some none)
    (zb_int : PySem.W.nsIn K mainGlobals "int" = some none)
    (zb_isinstance : PySem.W.nsIn K mainGlobals "isinstance" = some none)
    (zb_bool : PySem.W.nsIn K mainGlobals "bool" = some none)
    (zb_abs : PySem.W.nsIn K mainGlobals "abs" = some none)
    (zb_max : PySem.W.nsIn K mainGlobals "max" = some none)
    (zb_ValueError : PySem.W.nsIn K mainGlobals "ValueError" = some none)
    (zb_super : PySem.W.nsIn K mainGlobals "super" = some none) :
    ∃ fd : FuncData, (∀ (s : Shared) (v : Value), BindsTo s fd ⟨[v], []⟩ [("_law_script", v)]) ∧ ∀ base : Heap, K.In base → base.Ns mainGlobals mg → FnOk l.prog w K mg base CX0 12 fa fd ["_law_script"] (spLaw K) := by
  have e := hfa.symm.trans (PySem.W.mg_of X G a_40)
  cases e
  have T : Txt K mg { is_circle := f_0, check_circle := f_1, double := f_2, are_outward := f_3, touch := f_4, check_word := f_5, four_at := f_6, fours_along := f_7, eighths := f_8, whole_coordinates := f_9, is_unit := f_10, next_number := f_11, exchanged := f_12, search := f_13, address_of := f_14, absence := f_15, check_absence := f_16, check_number := f_17, line_of := f_18, are_letters := f_19, letters_of := f_20, place_text := f_21, check_place_text := f_22, l_row := f_23, l_numbers := f_24, l_given := f_25, l_moved := f_26, l_laid := f_27, l_other := f_28, l_fallen := f_29, l_four := f_30, l_double := f_31, l_opposite := f_32, l_parts := f_33, l_next := f_34, l_behind := f_35, l_due := f_36, l_shows := f_37, l_refused := f_38, l_changed := f_39, law := fa, m_init := f_m0, m_circle := f_m1, m_other := f_m2, m_exchanged := f_m3, cFour := cF, cCircle := cC, cPaper := cP, iPaper := fP, cNotation := cN, tWords := tWords, tNumbers := tNumbers, tTexts := tTexts } := {
    is_circle := ⟨⟨_, fun_mk (st := s_is_circle) l_0 c_0 k_0, (fun_mk (st := s_is_circle) l_0 c_0 k_0).binds (ps := ["circle"]) fun _ _ _ _ _ _ us hl => match us, hl with | [_], _ => rfl⟩, PySem.W.mg_of X G a_0⟩,
    check_circle := ⟨⟨_, fun_mk (st := s_check_circle) l_1 c_1 k_1, (fun_mk (st := s_check_circle) l_1 c_1 k_1).binds (ps := ["circle"]) fun _ _ _ _ _ _ us hl => match us, hl with | [_], _ => rfl⟩, PySem.W.mg_of X G a_1⟩,
    double := ⟨⟨_, fun_mk (st := s_double) l_2 c_2 k_2, (fun_mk (st := s_double) l_2 c_2 k_2).binds (ps := ["one", "other"]) fun _ _ _ _ _ _ us hl => match us, hl with | [_, _], _ => rfl⟩, PySem.W.mg_of X G a_2⟩,
    are_outward := ⟨⟨_, fun_mk (st := s_are_outward) l_3 c_3 k_3, (fun_mk (st := s_are_outward) l_3 c_3 k_3).binds (ps := ["one", "other"]) fun _ _ _ _ _ _ us hl => match us, hl with | [_, _], _ => rfl⟩, PySem.W.mg_of X G a_3⟩,
    touch := ⟨⟨_, fun_mk (st := s_touch) l_4 c_4 k_4, (fun_mk (st := s_touch) l_4 c_4 k_4).binds (ps := ["one", "other"]) fun _ _ _ _ _ _ us hl => match us, hl with | [_, _], _ => rfl⟩, PySem.W.mg_of X G a_4⟩,
    check_word := ⟨⟨_, fun_mk (st := s_check_word) l_5 c_5 k_5, (fun_mk (st := s_check_word) l_5 c_5 k_5).binds (ps := ["word"]) fun _ _ _ _ _ _ us hl => match us, hl with | [_], _ => rfl⟩, PySem.W.mg_of X G a_5⟩,
    four_at := ⟨⟨_, fun_mk (st := s_four_at) l_6 c_6 k_6, (fun_mk (st := s_four_at) l_6 c_6 k_6).binds (ps := ["four", "word"]) fun _ _ _ _ _ _ us hl => match us, hl with | [_, _], _ => rfl⟩, PySem.W.mg_of X G a_6⟩,
    fours_along := ⟨⟨_, fun_mk (st := s_fours_along) l_7 c_7 k_7, (fun_mk (st := s_fours_along) l_7 c_7 k_7).binds (ps := ["four", "word"]) fun _ _ _ _ _ _ us hl => match us, hl with | [_, _], _ => rfl⟩, PySem.W.mg_of X G a_7⟩,
    eighths := ⟨⟨_, fun_mk (st := s_eighths) l_8 c_8 k_8, (fun_mk (st := s_eighths) l_8 c_8 k_8).binds (ps := ["four", "circle"]) fun _ _ _ _ _ _ us hl => match us, hl with | [_, _], _ => rfl⟩, PySem.W.mg_of X G a_8⟩,
    whole_coordinates := ⟨⟨_, fun_mk (st := s_whole_coordinates) l_9 c_9 k_9, (fun_mk (st := s_whole_coordinates) l_9 c_9 k_9).binds (ps := ["four", "circle"]) fun _ _ _ _ _ _ us hl => match us, hl with | [_, _], _ => rfl⟩, PySem.W.mg_of X G a_9⟩,
    is_unit := ⟨⟨_, fun_mk (st := s_is_unit) l_10 c_10 k_10, (fun_mk (st := s_is_unit) l_10 c_10 k_10).binds (ps := ["parts"]) fun _ _ _ _ _ _ us hl => match us, hl with | [_], _ => rfl⟩, PySem.W.mg_of X G a_10⟩,
    next_number := ⟨⟨_, fun_mk (st := s_next_number) l_11 c_11 k_11, (fun_mk (st := s_next_number) l_11 c_11 k_11).binds (ps := ["parts"]) fun _ _ _ _ _ _ us hl => match us, hl with | [_], _ => rfl⟩, PySem.W.mg_of X G a_11⟩,
    exchanged := ⟨⟨_, fun_mk (st := s_exchanged) l_12 c_12 k_12, (fun_mk (st := s_exchanged) l_12 c_12 k_12).binds (ps := ["parts", "number"]) fun _ _ _ _ _ _ us hl => match us, hl with | [_, _], _ => rfl⟩, PySem.W.mg_of X G a_12⟩,
    search := ⟨⟨_, fun_mk (st := s_search) l_13 c_13 k_13, (fun_mk (st := s_search) l_13 c_13 k_13).binds (ps := ["four", "circle"]) fun _ _ _ _ _ _ us hl => match us, hl with | [_, _], _ => rfl⟩, PySem.W.mg_of X G a_13⟩,
    address_of := ⟨⟨_, fun_mk (st := s_address_of) l_14 c_14 k_14, (fun_mk (st := s_address_of) l_14 c_14 k_14).binds (ps := ["four", "circle"]) fun _ _ _ _ _ _ us hl => match us, hl with | [_, _], _ => rfl⟩, PySem.W.mg_of X G a_14⟩,
    absence := ⟨⟨_, fun_mk (st := s_absence) l_15 c_15 k_15, (fun_mk (st := s_absence) l_15 c_15 k_15).binds (ps := ["four", "circle"]) fun _ _ _ _ _ _ us hl => match us, hl with | [_, _], _ => rfl⟩, PySem.W.mg_of X G a_15⟩,
    check_absence := ⟨⟨_, fun_mk (st := s_check_absence) l_16 c_16 k_16, (fun_mk (st := s_check_absence) l_16 c_16 k_16).binds (ps := ["four", "circle", "word"]) fun _ _ _ _ _ _ us hl => match us, hl with | [_, _, _], _ => rfl⟩, PySem.W.mg_of X G a_16⟩,
    check_number := ⟨⟨_, fun_mk (st := s_check_number) l_17 c_17 k_17, (fun_mk (st := s_check_number) l_17 c_17 k_17).binds (ps := ["number"]) fun _ _ _ _ _ _ us hl => match us, hl with | [_], _ => rfl⟩, PySem.W.mg_of X G a_17⟩,
    line_of := ⟨⟨_, fun_mk (st := s_line_of) l_18 c_18 k_18, (fun_mk (st := s_line_of) l_18 c_18 k_18).binds (ps := ["words"]) fun _ _ _ _ _ _ us hl => match us, hl with | [_], _ => rfl⟩, PySem.W.mg_of X G a_18⟩,
    are_letters := ⟨⟨_, fun_mk (st := s_are_letters) l_19 c_19 k_19, (fun_mk (st := s_are_letters) l_19 c_19 k_19).binds (ps := ["words"]) fun _ _ _ _ _ _ us hl => match us, hl with | [_], _ => rfl⟩, PySem.W.mg_of X G a_19⟩,
    letters_of := ⟨⟨_, fun_mk (st := s_letters_of) l_20 c_20 k_20, (fun_mk (st := s_letters_of) l_20 c_20 k_20).binds (ps := ["words"]) fun _ _ _ _ _ _ us hl => match us, hl with | [_], _ => rfl⟩, PySem.W.mg_of X G a_20⟩,
    place_text := ⟨⟨_, fun_mk (st := s_place_text) l_21 c_21 k_21, (fun_mk (st := s_place_text) l_21 c_21 k_21).binds (ps := ["four", "circle"]) fun _ _ _ _ _ _ us hl => match us, hl with | [_, _], _ => rfl⟩, PySem.W.mg_of X G a_21⟩,
    check_place_text := ⟨⟨_, fun_mk (st := s_check_place_text) l_22 c_22 k_22, (fun_mk (st := s_check_place_text) l_22 c_22 k_22).binds (ps := ["four", "circle", "text"]) fun _ _ _ _ _ _ us hl => match us, hl with | [_, _, _], _ => rfl⟩, PySem.W.mg_of X G a_22⟩,
    l_row := ⟨⟨_, fun_mk (st := s_l_row) l_23 c_23 k_23, (fun_mk (st := s_l_row) l_23 c_23 k_23).binds (ps := ["_law_cell", "_law_many"]) fun _ _ _ _ _ _ us hl => match us, hl with | [_, _], _ => rfl⟩, PySem.W.mg_of X G a_23⟩,
    l_numbers := ⟨⟨_, fun_mk (st := s_l_numbers) l_24 c_24 k_24, (fun_mk (st := s_l_numbers) l_24 c_24 k_24).binds (ps := ["_law_script", "_law_many"]) fun _ _ _ _ _ _ us hl => match us, hl with | [_, _], _ => rfl⟩, PySem.W.mg_of X G a_24⟩,
    l_given := ⟨⟨_, fun_mk (st := s_l_given) l_25 c_25 k_25, (fun_mk (st := s_l_given) l_25 c_25 k_25).binds (ps := ["_law_number"]) fun _ _ _ _ _ _ us hl => match us, hl with | [_], _ => rfl⟩, PySem.W.mg_of X G a_25⟩,
    l_moved := ⟨⟨_, fun_mk (st := s_l_moved) l_26 c_26 k_26, (fun_mk (st := s_l_moved) l_26 c_26 k_26).binds (ps := ["_law_circle", "_law_s", "_law_t"]) fun _ _ _ _ _ _ us hl => match us, hl with | [_, _, _], _ => rfl⟩, PySem.W.mg_of X G a_26⟩,
    l_laid := ⟨⟨_, fun_mk (st := s_l_laid) l_27 c_27 k_27, (fun_mk (st := s_l_laid) l_27 c_27 k_27).binds (ps := ["_law_numbers_here", "_law_at", "_law_circle"]) fun _ _ _ _ _ _ us hl => match us, hl with | [_, _, _], _ => rfl⟩, PySem.W.mg_of X G a_27⟩,
    l_other := ⟨⟨_, fun_mk (st := s_l_other) l_28 c_28 k_28, (fun_mk (st := s_l_other) l_28 c_28 k_28).binds (ps := ["_law_circles", "_law_k"]) fun _ _ _ _ _ _ us hl => match us, hl with | [_, _], _ => rfl⟩, PySem.W.mg_of X G a_28⟩,
    l_fallen := ⟨⟨_, fun_mk (st := s_l_fallen) l_29 c_29 k_29, (fun_mk (st := s_l_fallen) l_29 c_29 k_29).binds (ps := ["_law_circles", "_law_word"]) fun _ _ _ _ _ _ us hl => match us, hl with | [_, _], _ => rfl⟩, PySem.W.mg_of X G a_29⟩,
    l_four := ⟨⟨_, fun_mk (st := s_l_four) l_30 c_30 k_30, (fun_mk (st := s_l_four) l_30 c_30 k_30).binds (ps := ["_law_numbers_here", "_law_at"]) fun _ _ _ _ _ _ us hl => match us, hl with | [_, _], _ => rfl⟩, PySem.W.mg_of X G a_30⟩,
    l_double := ⟨⟨_, fun_mk (st := s_l_double) l_31 c_31 k_31, (fun_mk (st := s_l_double) l_31 c_31 k_31).binds (ps := ["_law_one", "_law_other_here"]) fun _ _ _ _ _ _ us hl => match us, hl with | [_, _], _ => rfl⟩, PySem.W.mg_of X G a_31⟩,
    l_opposite := ⟨⟨_, fun_mk (st := s_l_opposite) l_32 c_32 k_32, (fun_mk (st := s_l_opposite) l_32 c_32 k_32).binds (ps := ["_law_circle"]) fun _ _ _ _ _ _ us hl => match us, hl with | [_], _ => rfl⟩, PySem.W.mg_of X G a_32⟩,
    l_parts := ⟨⟨_, fun_mk (st := s_l_parts) l_33 c_33 k_33, (fun_mk (st := s_l_parts) l_33 c_33 k_33).binds (ps := ["_law_circles", "_law_circle"]) fun _ _ _ _ _ _ us hl => match us, hl with | [_, _], _ => rfl⟩, PySem.W.mg_of X G a_33⟩,
    l_next := ⟨⟨_, fun_mk (st := s_l_next) l_34 c_34 k_34, (fun_mk (st := s_l_next) l_34 c_34 k_34).binds (ps := ["_law_parts_here"]) fun _ _ _ _ _ _ us hl => match us, hl with | [_], _ => rfl⟩, PySem.W.mg_of X G a_34⟩,
    l_behind := ⟨⟨_, fun_mk (st := s_l_behind) l_35 c_35 k_35, (fun_mk (st := s_l_behind) l_35 c_35 k_35).binds (ps := ["_law_parts_here", "_law_k"]) fun _ _ _ _ _ _ us hl => match us, hl with | [_, _], _ => rfl⟩, PySem.W.mg_of X G a_35⟩,
    l_due := ⟨⟨_, fun_mk (st := s_l_due) l_36 c_36 k_36, (fun_mk (st := s_l_due) l_36 c_36 k_36).binds (ps := ["_law_circles", "_law_circle"]) fun _ _ _ _ _ _ us hl => match us, hl with | [_, _], _ => rfl⟩, PySem.W.mg_of X G a_36⟩,
    l_shows := ⟨⟨_, fun_mk (st := s_l_shows) l_37 c_37 k_37, (fun_mk (st := s_l_shows) l_37 c_37 k_37).binds (ps := ["_law_circles", "_law_circle", "_law_words"]) fun _ _ _ _ _ _ us hl => match us, hl with | [_, _, _], _ => rfl⟩, PySem.W.mg_of X G a_37⟩,
    l_refused := ⟨⟨_, fun_mk (st := s_l_refused) l_38 c_38 k_38, (fun_mk (st := s_l_refused) l_38 c_38 k_38).binds (ps := ["_law_four_here", "_law_circle", "_law_text"]) fun _ _ _ _ _ _ us hl => match us, hl with | [_, _, _], _ => rfl⟩, PySem.W.mg_of X G a_38⟩,
    l_changed := ⟨⟨_, fun_mk (st := s_l_changed) l_39 c_39 k_39, (fun_mk (st := s_l_changed) l_39 c_39 k_39).binds (ps := ["_law_words", "_law_numbers_here"]) fun _ _ _ _ _ _ us hl => match us, hl with | [_, _], _ => rfl⟩, PySem.W.mg_of X G a_39⟩,
    law := ⟨⟨_, fun_mk (st := s_law) l_40 c_40 k_40, (fun_mk (st := s_law) l_40 c_40 k_40).binds (ps := ["_law_script"]) fun _ _ _ _ _ _ us hl => match us, hl with | [_], _ => rfl⟩, PySem.W.mg_of X G a_40⟩,
    m_init := ⟨⟨_, fun_mk (st := m_init) l_m0 c_m0 k_m0, (fun_mk (st := m_init) l_m0 c_m0 k_m0).binds (ps := ["self", "circles"]) fun _ _ _ _ _ _ us hl => match us, hl with | [_, _], _ => rfl⟩, ⟨a_m0, i_m0, k_m0⟩⟩,
    m_circle := ⟨⟨_, fun_mk (st := m_circle) l_m1 c_m1 k_m1, (fun_mk (st := m_circle) l_m1 c_m1 k_m1).binds (ps := ["self", "number"]) fun _ _ _ _ _ _ us hl => match us, hl with | [_, _], _ => rfl⟩, ⟨a_m1, i_m1, k_m1⟩⟩,
    m_other := ⟨⟨_, fun_mk (st := m_other) l_m2 c_m2 k_m2, (fun_mk (st := m_other) l_m2 c_m2 k_m2).binds (ps := ["self", "number"]) fun _ _ _ _ _ _ us hl => match us, hl with | [_, _], _ => rfl⟩, ⟨a_m2, i_m2, k_m2⟩⟩,
    m_exchanged := ⟨⟨_, fun_mk (st := m_exchanged) l_m3 c_m3 k_m3, (fun_mk (st := m_exchanged) l_m3 c_m3 k_m3).binds (ps := ["self", "number"]) fun _ _ _ _ _ _ us hl => match us, hl with | [_, _], _ => rfl⟩, ⟨a_m3, i_m3, k_m3⟩⟩,
    four := ⟨pg, hd, po, sa⟩,
    made := ⟨mk, a_m0, i_m0, kc⟩,
    gFour := PySem.W.mg_of X G aF,
    nCircles := nC,
    gWords := PySem.W.mg_of X G aWords,
    tWords := ⟨_, _, _, _, _, _, _, lWords⟩,
    gNumbers := PySem.W.mg_of X G aNumbers,
    tNumbers := ⟨_, _, _, _, _, _, _, lNumbers⟩,
    gTexts := PySem.W.mg_of X G aTexts,
    tTexts := ⟨_, _, _, _, _, _, _, lTexts⟩,
    gCircle := PySem.W.mg_of X G eC0,
    xCircle := eC1,
    kCircle := eC2,
    bCircle := eC3,
    yCircle := eC4,
    b_len := PySem.W.mg_none_of X G zb_len,
    b_any := PySem.W.mg_none_of X G zb_any,
    b_all := PySem.W.mg_none_of X G zb_all,
    b_sum := PySem.W.mg_none_of X G zb_sum,
    b_sorted := PySem.W.mg_none_of X G zb_sorted,
    b_enumerate := PySem.W.mg_none_of X G zb_enumerate,
    b_zip := PySem.W.mg_none_of X G zb_zip,
    b_range := PySem.W.mg_none_of X G zb_range,
    b_tuple := PySem.W.mg_none_of X G zb_tuple,
    b_list := PySem.W.mg_none_of X G zb_list,
    b_str := PySem.W.mg_none_of X G zb_str,
    b_int := PySem.W.mg_none_of X G zb_int,
    b_isinstance := PySem.W.mg_none_of X G zb_isinstance,
    b_bool := PySem.W.mg_none_of X G zb_bool,
    b_abs := PySem.W.mg_none_of X G zb_abs,
    b_max := PySem.W.mg_none_of X G zb_max,
    b_ValueError := PySem.W.mg_none_of X G zb_ValueError,
    b_super := PySem.W.mg_none_of X G zb_super }
  have hP : OexC K cP := ⟨⟨_, _, _, _, _, _, _, _, _, _, _, _, _, _, _, eP1, by rfl⟩, eP2, eP3, eP4, eP5⟩
  have T2 : Pap2 l.prog K mg { is_circle := f_0, check_circle := f_1, double := f_2, are_outward := f_3, touch := f_4, check_word := f_5, four_at := f_6, fours_along := f_7, eighths := f_8, whole_coordinates := f_9, is_unit := f_10, next_number := f_11, exchanged := f_12, search := f_13, address_of := f_14, absence := f_15, check_absence := f_16, check_number := f_17, line_of := f_18, are_letters := f_19, letters_of := f_20, place_text := f_21, check_place_text := f_22, l_row := f_23, l_numbers := f_24, l_given := f_25, l_moved := f_26, l_laid := f_27, l_other := f_28, l_fallen := f_29, l_four := f_30, l_double := f_31, l_opposite := f_32, l_parts := f_33, l_next := f_34, l_behind := f_35, l_due := f_36, l_shows := f_37, l_refused := f_38, l_changed := f_39, law := fa, m_init := f_m0, m_circle := f_m1, m_other := f_m2, m_exchanged := f_m3, cFour := cF, cCircle := cC, cPaper := cP, iPaper := fP, cNotation := cN, tWords := tWords, tNumbers := tNumbers, tTexts := tTexts } cc cda := {
    pap := { gl := PySem.W.mg_of X G eP0, oex := hP, iC := eP6, tI := eP7, noN := eP8, fn := ⟨_, _, _, _, _, _, _, _, eP9⟩, cdI := eP10, code := ⟨_, _, _, _, _, _, eP11, eP12, eP13⟩, cell := ⟨_, _, _, eP14⟩, opq := eP15, subV := eP16, sup := eP17, mro := eP18, htop := eP19, bsup := PySem.W.mg_none_of X G zb_super },
    xf := ⟨eP20, eP21, eP3, eP22⟩,
    is := ⟨by obtain ⟨cd, hc, _⟩ := PySem.W.any_some eP22; rw [hc]; rfl, eP20, eP21, eP3, eP23, eP24, eP25, eP26⟩,
    k1 := kit_ve eP16, k2 := kit_ref eN4 eN1 eN2 eN3, gN := PySem.W.mg_of X G eN0,
    e1 := PySem.W.exm_ref eP3 eP22 eP4 eX2, e2 := PySem.W.exm_ref eP3 eP22 eP4 eX3, e3 := PySem.W.exm_ref eC3 eX1 eC4 eX4 }
  refine ⟨PySem.W.fnOf "law" "law" (defArgs s_law) (defBody s_law) (defScope s_law) .none kV_40 dc_40 pm_40 an_40 cd_40 ct_40, fun s v => .of_eq rfl, fun base _ _ => ?_⟩
  exact law_fn T T2 (fun_mk (st := s_law) l_40 c_40 k_40)
theorem walk {l : PySem.W.OpenLaw} {q : Program} {loose : List Str} {XP : (Str → Option Value) → Heap → Prop} {YP : World → Heap → Prop} {d : DefRec} {K : Params → PySem.W.Frag} (hn : l.most = some 63) (hdf : d.params.defaults = [])
    (hY : ∀ (w : World) (h : Heap), YP w h → (K w.params).In h)
    (F : ∀ (w : World) (mg : Str → Option Value) (fa : Addr) (h : Heap), (K w.params).In h → h.Ns mainGlobals mg → mg d.name = some (.ref fa) →
      ∃ fd : FuncData, (∀ (s : Shared) (u : Value), BindsTo s fd ⟨[u], []⟩ [("_law_script", u)]) ∧ ∀ base : Heap, (K w.params).In base → base.Ns mainGlobals mg → FnOk l.prog w (K w.params) mg base CX0 12 fa fd ["_law_script"] (spLaw (K w.params))) :
    PySem.W.WalkO q loose XP YP l.row.toRowW d [] (fun f vs => PySem.call f vs) :=
  L2.walk_of (n := 63) (k := 12) (x := "_law_script") (CX := fun _ => CX0) (sp := fun w => spLaw (K w.params)) hn (by decide) hdf ⟨rfl, by decide, by decide⟩ hY F (fun _ _ a ns hl _ hS => ⟨a, ns, rfl, hS, hl, fun _ => rfl⟩) fun _ _ _ _ _ z => z
end K64


open PySem PySem.W PyProof.Rows in
set_option maxRecDepth 100000 in
set_option maxHeartbeats 0 in
theorem PySem.Challenge.cw_fourtouch_k64_whole_places_as_texts_holds : PySem.Challenge.rw_fourtouch_k64_whole_places_as_texts.Holds := by
  w_on; o_law; k_head; (case hw => w_witness2)
  k_fill
  refine K64.walk (l := PySem.Challenge.rw_fourtouch_k64_whole_places_as_texts) rfl rfl (fun w h Y => PySem.W.kIn_of Y) ?F
  case F =>
    intro w mg fa h KX G hmg
    refine' K64.all_mk KX G hmg ?a_0 ?l_0 ?c_0 ?k_0 ?a_1 ?l_1 ?c_1 ?k_1 ?a_2 ?l_2 ?c_2 ?k_2 ?a_3 ?l_3 ?c_3 ?k_3 ?a_4 ?l_4 ?c_4 ?k_4 ?a_5 ?l_5 ?c_5 ?k_5 ?a_6 ?l_6 ?c_6 ?k_6 ?a_7 ?l_7 ?c_7 ?k_7 ?a_8 ?l_8 ?c_8 ?k_8 ?a_9 ?l_9 ?c_9 ?k_9 ?a_10 ?l_10 ?c_10 ?k_10 ?a_11 ?l_11 ?c_11 ?k_11 ?a_12 ?l_12 ?c_12 ?k_12 ?a_13 ?l_13 ?c_13 ?k_13 ?a_14 ?l_14 ?c_14 ?k_14 ?a_15 ?l_15 ?c_15 ?k_15 ?a_16 ?l_16 ?c_16 ?k_16 ?a_17 ?l_17 ?c_17 ?k_17 ?a_18 ?l_18 ?c_18 ?k_18 ?a_19 ?l_19 ?c_19 ?k_19 ?a_20 ?l_20 ?c_20 ?k_20 ?a_21 ?l_21 ?c_21 ?k_21 ?a_22 ?l_22 ?c_22 ?k_22 ?a_23 ?l_23 ?c_23 ?k_23 ?a_24 ?l_24 ?c_24 ?k_24 ?a_25 ?l_25 ?c_25 ?k_25 ?a_26 ?l_26 ?c_26 ?k_26 ?a_27 ?l_27 ?c_27 ?k_27 ?a_28 ?l_28 ?c_28 ?k_28 ?a_29 ?l_29 ?c_29 ?k_29 ?a_30 ?l_30 ?c_30 ?k_30 ?a_31 ?l_31 ?c_31 ?k_31 ?a_32 ?l_32 ?c_32 ?k_32 ?a_33 ?l_33 ?c_33 ?k_33 ?a_34 ?l_34 ?c_34 ?k_34 ?a_35 ?l_35 ?c_35 ?k_35 ?a_36 ?l_36 ?c_36 ?k_36 ?a_37 ?l_37 ?c_37 ?k_37 ?a_38 ?l_38 ?c_38 ?k_38 ?a_39 ?l_39 ?c_39 ?k_39 ?a_40 ?l_40 ?c_40 ?k_40 ?aF ?a_m0 ?i_m0 ?l_m0 ?c_m0 ?k_m0 ?a_m1 ?i_m1 ?l_m1 ?c_m1 ?k_m1 ?a_m2 ?i_m2 ?l_m2 ?c_m2 ?k_m2 ?a_m3 ?i_m3 ?l_m3 ?c_m3 ?k_m3 ?pg ?hd ?po ?sa ?mk ?kc ?nC ?aWords ?lWords ?aNumbers ?lNumbers ?aTexts ?lTexts ?eC0 ?eC1 ?eC2 ?eC3 ?eC4 ?eP0 ?eP1 ?eP2 ?eP3 ?eP4 ?eP5 ?eP6 ?eP7 ?eP8 ?eP9 ?eP10 ?eP11 ?eP12 ?eP13 ?eP14 ?eP15 ?eP16 ?eP17 ?eP18 ?eP19 ?eP20 ?eP21 ?eP22 ?eP23 ?eP24 ?eP25 ?eP26 ?eN0 ?eN1 ?eN2 ?eN3 ?eN4 ?eX1 ?eX2 ?eX3 ?eX4 ?zb_len ?zb_any ?zb_all ?zb_sum ?zb_sorted ?zb_enumerate ?zb_zip ?zb_range ?zb_tuple ?zb_list ?zb_str ?zb_int ?zb_isinstance ?zb_bool ?zb_abs ?zb_max ?zb_ValueError ?zb_super
    (case a_0 => k_is)
    (case l_0 => k_is)
    (case c_0 => k_is)
    (case k_0 => k_is)
    (case a_1 => k_is)
    (case l_1 => k_is)
    (case c_1 => k_is)
    (case k_1 => k_is)
    (case a_2 => k_is)
    (case l_2 => k_is)
    (case c_2 => k_is)
    (case k_2 => k_is)
    (case a_3 => k_is)
    (case l_3 => k_is)
    (case c_3 => k_is)
    (case k_3 => k_is)
    (case a_4 => k_is)
    (case l_4 => k_is)
    (case c_4 => k_is)
    (case k_4 => k_is)
    (case a_5 => k_is)
    (case l_5 => k_is)
    (case c_5 => k_is)
    (case k_5 => k_is)
    (case a_6 => k_is)
    (case l_6 => k_is)
    (case c_6 => k_is)
    (case k_6 => k_is)
    (case a_7 => k_is)
    (case l_7 => k_is)
    (case c_7 => k_is)
    (case k_7 => k_is)
    (case a_8 => k_is)
    (case l_8 => k_is)
    (case c_8 => k_is)
    (case k_8 => k_is)
    (case a_9 => k_is)
    (case l_9 => k_is)
    (case c_9 => k_is)
    (case k_9 => k_is)
    (case a_10 => k_is)
    (case l_10 => k_is)
    (case c_10 => k_is)
    (case k_10 => k_is)
    (case a_11 => k_is)
    (case l_11 => k_is)
    (case c_11 => k_is)
    (case k_11 => k_is)
    (case a_12 => k_is)
    (case l_12 => k_is)
    (case c_12 => k_is)
    (case k_12 => k_is)
    (case a_13 => k_is)
    (case l_13 => k_is)
    (case c_13 => k_is)
    (case k_13 => k_is)
    (case a_14 => k_is)
    (case l_14 => k_is)
    (case c_14 => k_is)
    (case k_14 => k_is)
    (case a_15 => k_is)
    (case l_15 => k_is)
    (case c_15 => k_is)
    (case k_15 => k_is)
    (case a_16 => k_is)
    (case l_16 => k_is)
    (case c_16 => k_is)
    (case k_16 => k_is)
    (case a_17 => k_is)
    (case l_17 => k_is)
    (case c_17 => k_is)
    (case k_17 => k_is)
    (case a_18 => k_is)
    (case l_18 => k_is)
    (case c_18 => k_is)
    (case k_18 => k_is)
    (case a_19 => k_is)
    (case l_19 => k_is)
    (case c_19 => k_is)
    (case k_19 => k_is)
    (case a_20 => k_is)
    (case l_20 => k_is)
    (case c_20 => k_is)
    (case k_20 => k_is)
    (case a_21 => k_is)
    (case l_21 => k_is)
    (case c_21 => k_is)
    (case k_21 => k_is)
    (case a_22 => k_is)
    (case l_22 => k_is)
    (case c_22 => k_is)
    (case k_22 => k_is)
    (case a_23 => k_is)
    (case l_23 => k_is)
    (case c_23 => k_is)
    (case k_23 => k_is)
    (case a_24 => k_is)
    (case l_24 => k_is)
    (case c_24 => k_is)
    (case k_24 => k_is)
    (case a_25 => k_is)
    (case l_25 => k_is)
    (case c_25 => k_is)
    (case k_25 => k_is)
    (case a_26 => k_is)
    (case l_26 => k_is)
    (case c_26 => k_is)
    (case k_26 => k_is)
    (case a_27 => k_is)
    (case l_27 => k_is)
    (case c_27 => k_is)
    (case k_27 => k_is)
    (case a_28 => k_is)
    (case l_28 => k_is)
    (case c_28 => k_is)
    (case k_28 => k_is)
    (case a_29 => k_is)
    (case l_29 => k_is)
    (case c_29 => k_is)
    (case k_29 => k_is)
    (case a_30 => k_is)
    (case l_30 => k_is)
    (case c_30 => k_is)
    (case k_30 => k_is)
    (case a_31 => k_is)
    (case l_31 => k_is)
    (case c_31 => k_is)
    (case k_31 => k_is)
    (case a_32 => k_is)
    (case l_32 => k_is)
    (case c_32 => k_is)
    (case k_32 => k_is)
    (case a_33 => k_is)
    (case l_33 => k_is)
    (case c_33 => k_is)
    (case k_33 => k_is)
    (case a_34 => k_is)
    (case l_34 => k_is)
    (case c_34 => k_is)
    (case k_34 => k_is)
    (case a_35 => k_is)
    (case l_35 => k_is)
    (case c_35 => k_is)
    (case k_35 => k_is)
    (case a_36 => k_is)
    (case l_36 => k_is)
    (case c_36 => k_is)
    (case k_36 => k_is)
    (case a_37 => k_is)
    (case l_37 => k_is)
    (case c_37 => k_is)
    (case k_37 => k_is)
    (case a_38 => k_is)
    (case l_38 => k_is)
    (case c_38 => k_is)
    (case k_38 => k_is)
    (case a_39 => k_is)
    (case l_39 => k_is)
    (case c_39 => k_is)
    (case k_39 => k_is)
    (case a_40 => k_is)
    (case l_40 => k_is)
    (case c_40 => k_is)
    (case k_40 => k_is)
    (case aF => k_is)
    (case a_m0 => k_is)
    (case i_m0 => k_is)
    (case l_m0 => k_is)
    (case c_m0 => k_is)
    (case k_m0 => k_is)
    (case a_m1 => k_is)
    (case i_m1 => k_is)
    (case l_m1 => k_is)
    (case c_m1 => k_is)
    (case k_m1 => k_is)
    (case a_m2 => k_is)
    (case i_m2 => k_is)
    (case l_m2 => k_is)
    (case c_m2 => k_is)
    (case k_m2 => k_is)
    (case a_m3 => k_is)
    (case i_m3 => k_is)
    (case l_m3 => k_is)
    (case c_m3 => k_is)
    (case k_m3 => k_is)
    (case pg => k_is)
    (case hd => k_is)
    (case po => k_is)
    (case sa => k_is)
    (case mk => k_is)
    (case kc => k_is)
    (case nC => k_is)
    (case aWords => k_is)
    (case lWords => k_is)
    (case aNumbers => k_is)
    (case lNumbers => k_is)
    (case aTexts => k_is)
    (case lTexts => k_is)
    (case eC0 => k_is)
    (case eC1 => k_exc)
    (case eC2 => k_is)
    (case eC3 => k_is)
    (case eC4 => k_is)
    (case eP0 => k_is)
    (case eP1 => k_is)
    (case eP2 => k_is)
    (case eP3 => k_is)
    (case eP4 => k_is)
    (case eP5 => k_is)
    (case eP6 => k_is)
    (case eP7 => k_is)
    (case eP8 => k_is)
    (case eP9 => k_is)
    (case eP10 => k_is)
    (case eP11 => k_is)
    (case eP12 => rfl)
    (case eP13 => decide +kernel)
    (case eP14 => k_is)
    (case eP15 => k_is)
    (case eP16 => k_is)
    (case eP17 => ks_is)
    (case eP18 => k_is)
    (case eP19 => decide +kernel)
    (case eP20 => k_is)
    (case eP21 => k_is)
    (case eP22 => k_is)
    (case eP23 => k_is)
    (case eP24 => k_is)
    (case eP25 => k_is)
    (case eP26 => k_is)
    (case eN0 => k_is)
    (case eN1 => k_is)
    (case eN2 => k_is)
    (case eN3 => k_is)
    (case eN4 => rfl)
    (case eX1 => k_is)
    (case eX2 => k_is)
    (case eX3 => k_is)
    (case eX4 => k_is)
    (case zb_len => k_is)
    (case zb_any => k_is)
    (case zb_all => k_is)
    (case zb_sum => k_is)
    (case zb_sorted => k_is)
    (case zb_enumerate => k_is)
    (case zb_zip => k_is)
    (case zb_range => k_is)
    (case zb_tuple => k_is)
    (case zb_list => k_is)
    (case zb_str => k_is)
    (case zb_int => k_is)
    (case zb_isinstance => k_is)
    (case zb_bool => k_is)
    (case zb_abs => k_is)
    (case zb_max => k_is)
    (case zb_ValueError => k_is)
    (case zb_super => k_is)


