import PyProof.Rows.All
import Wide.All
import OpenK.AllK
import Wide.FinOn
import HandS.ForMost
import HandS.Defaults
import HandS.HeadHook4
import PySem.Challenge.RW_leapfit_k63_whole_pairs_of_multiples
import HandS.Head2
import HandS.HeadWalk
import HandS.Nested
import KE.KMinKey
import PyProof.Walks
import HandS.SortKw
import HandS.Wide
import HandS.WideMore
import HandS.IsInst
import HandS.Style
import HandS.Walk
/-! ## KA -/
/-! Plain mathematics of the law: sums over ranges of integers, pieces of lines, signed divisors, the sum over divisors. -/
set_option maxHeartbeats 4000000
namespace M

/-- the sum of g over a, a + 1, .., a + n - 1 -/
def sumN (g : Int → Int) (a : Int) : Nat → Int
  | 0 => 0
  | n + 1 => sumN g a n + g (a + (n : Int))
/-- the sum of g over a <= x < b -/
def sumZ (g : Int → Int) (a b : Int) : Int := sumN g a (b - a).toNat

theorem sumZ_empty (g : Int → Int) {a b : Int} (h : b ≤ a) : sumZ g a b = 0 := by
  unfold sumZ
  have e : (b - a).toNat = 0 := by omega
  rw [e]; rfl
theorem sumZ_succ (g : Int → Int) {a b : Int} (h : a ≤ b) : sumZ g a (b + 1) = sumZ g a b + g b := by
  unfold sumZ
  have e : (b + 1 - a).toNat = (b - a).toNat + 1 := by omega
  rw [e]
  show sumN g a (b - a).toNat + g (a + (((b - a).toNat : Nat) : Int)) = _
  have e2 : a + (((b - a).toNat : Nat) : Int) = b := by omega
  rw [e2]
/-- induction upward from a -/
theorem up (a : Int) (P : Int → Prop) (h0 : P a) (hs : ∀ b, a ≤ b → P b → P (b + 1)) : ∀ b, a ≤ b → P b := by
  have key : ∀ n : Nat, P (a + (n : Int)) := by
    intro n
    induction n with
    | zero => simpa using h0
    | succ n ih =>
      have e : a + ((n + 1 : Nat) : Int) = a + (n : Int) + 1 := by omega
      rw [e]
      exact hs _ (by omega) ih
  intro b hb
  have e : b = a + ((b - a).toNat : Int) := by omega
  rw [e]
  exact key _
theorem sumZ_split (g : Int → Int) {a b : Int} (hab : a ≤ b) : ∀ c, b ≤ c → sumZ g a c = sumZ g a b + sumZ g b c := by
  refine up b _ ?_ ?_
  · rw [sumZ_empty g (Int.le_refl b)]; omega
  · intro c hc ih
    rw [sumZ_succ g (by omega), sumZ_succ g hc, ih]; omega
theorem sumZ_congr (g h : Int → Int) {a b : Int} (e : ∀ x, a ≤ x → x < b → g x = h x) : sumZ g a b = sumZ h a b := by
  by_cases hab : a ≤ b
  · have key : ∀ c, a ≤ c → c ≤ b → sumZ g a c = sumZ h a c := by
      refine up a _ ?_ ?_
      · intro _
        rw [sumZ_empty g (Int.le_refl a), sumZ_empty h (Int.le_refl a)]
      · intro c hc ih hcb
        rw [sumZ_succ g hc, sumZ_succ h hc, ih (by omega), e c hc (by omega)]
    exact key b hab (Int.le_refl b)
  · rw [sumZ_empty g (by omega), sumZ_empty h (by omega)]
theorem sumZ_zero (g : Int → Int) {a b : Int} (e : ∀ x, a ≤ x → x < b → g x = 0) : sumZ g a b = 0 := by
  by_cases hab : a ≤ b
  · have key : ∀ c, a ≤ c → c ≤ b → sumZ g a c = 0 := by
      refine up a _ ?_ ?_
      · intro _
        exact sumZ_empty g (Int.le_refl a)
      · intro c hc ih hcb
        rw [sumZ_succ g hc, ih (by omega), e c hc (by omega)]; rfl
    exact key b hab (Int.le_refl b)
  · exact sumZ_empty g (by omega)
theorem sumZ_add (g h : Int → Int) (a b : Int) : sumZ (fun x => g x + h x) a b = sumZ g a b + sumZ h a b := by
  by_cases hab : a ≤ b
  · revert hab
    revert b
    refine up a _ ?_ ?_
    · rw [sumZ_empty _ (Int.le_refl a), sumZ_empty _ (Int.le_refl a), sumZ_empty _ (Int.le_refl a)]; rfl
    · intro c hc ih
      rw [sumZ_succ _ hc, sumZ_succ _ hc, sumZ_succ _ hc, ih]; omega
  · rw [sumZ_empty _ (by omega), sumZ_empty _ (by omega), sumZ_empty _ (by omega)]; rfl
theorem sumZ_mul (k : Int) (g : Int → Int) (a b : Int) : sumZ (fun x => k * g x) a b = k * sumZ g a b := by
  by_cases hab : a ≤ b
  · revert hab
    revert b
    refine up a _ ?_ ?_
    · rw [sumZ_empty _ (Int.le_refl a), sumZ_empty _ (Int.le_refl a)]; simp
    · intro c hc ih
      rw [sumZ_succ _ hc, sumZ_succ _ hc, ih, Int.mul_add]
  · rw [sumZ_empty _ (by omega), sumZ_empty _ (by omega)]; simp
/-- a wider range over which g is 0 -/
theorem sumZ_widen (g : Int → Int) {A a b B : Int} (h1 : A ≤ a) (h2 : a ≤ b) (h3 : b ≤ B) (l : ∀ x, A ≤ x → x < a → g x = 0) (r : ∀ x, b ≤ x → x < B → g x = 0) : sumZ g A B = sumZ g a b := by
  rw [sumZ_split g (a := A) (b := a) h1 B (by omega), sumZ_zero g l, sumZ_split g (a := a) (b := b) h2 B h3, sumZ_zero g r]; omega
/-- one term alone -/
theorem sumZ_one (g : Int → Int) {a b x : Int} (h1 : a ≤ x) (h2 : x < b) (h : ∀ y, a ≤ y → y < b → y ≠ x → g y = 0) : sumZ g a b = g x := by
  rw [sumZ_widen g (a := x) (b := x + 1) h1 (by omega) (by omega) (fun y hy hx => h y hy (by omega) (by omega)) (fun y hy hx => h y (by omega) hx (by omega))]
  rw [sumZ_succ g (Int.le_refl x), sumZ_empty g (Int.le_refl x)]; omega
theorem sumZ_comm (g : Int → Int → Int) (a b c d : Int) : sumZ (fun x => sumZ (fun y => g x y) c d) a b = sumZ (fun y => sumZ (fun x => g x y) a b) c d := by
  by_cases hab : a ≤ b
  · revert hab
    revert b
    refine up a _ ?_ ?_
    · rw [sumZ_empty _ (Int.le_refl a)]
      exact (sumZ_zero _ fun y _ _ => sumZ_empty _ (Int.le_refl a)).symm
    · intro e he ih
      rw [sumZ_succ _ he, ih, ← sumZ_add]
      exact sumZ_congr _ _ fun y _ _ => (sumZ_succ (fun x => g x y) he).symm
  · rw [sumZ_empty _ (by omega)]
    exact (sumZ_zero _ fun y _ _ => sumZ_empty _ (by omega)).symm

/-! ### a line on a piece, by multiples of step -/
/-- least k with start <= k * step; greatest k with k * step <= stop - 1 -/
theorem ceil_lo {s a : Int} (hs : 0 < s) : a ≤ s * (-(-a / s)) ∧ s * (-(-a / s) - 1) < a := by
  have h1 := Int.mul_ediv_add_emod (-a) s
  have h2 := Int.emod_nonneg (-a) (Int.ne_of_gt hs)
  have h3 := Int.emod_lt_of_pos (-a) hs
  have e1 : s * (-(-a / s)) = -(s * (-a / s)) := by rw [Int.mul_neg]
  have e2 : s * (-(-a / s) - 1) = -(s * (-a / s)) - s := by rw [Int.mul_sub, Int.mul_neg, Int.mul_one]
  rw [e1, e2]; omega
theorem floor_hi {s a : Int} (hs : 0 < s) : s * (a / s) ≤ a ∧ a < s * (a / s + 1) := by
  have h1 := Int.mul_ediv_add_emod a s
  have h2 := Int.emod_nonneg a (Int.ne_of_gt hs)
  have h3 := Int.emod_lt_of_pos a hs
  have e2 : s * (a / s + 1) = s * (a / s) + s := by rw [Int.mul_add, Int.mul_one]
  rw [e2]; omega
theorem lt_of_mul {s a b : Int} (hs : 0 < s) (h : s * a < s * b) : a < b := Int.lt_of_mul_lt_mul_left h (Int.le_of_lt hs)

/-- what Pairs.total adds for a part -/
def piece (m o start stop last step : Int) : Int :=
  if -(-start / step) ≤ (if last < stop - 1 then last else stop - 1) / step then
    o * ((if last < stop - 1 then last else stop - 1) / step - -(-start / step) + 1)
      + m * step * ((-(-start / step) + (if last < stop - 1 then last else stop - 1) / step) * ((if last < stop - 1 then last else stop - 1) / step - -(-start / step) + 1) / 2)
  else 0
def clo (m o step one two : Int) : Int := o * (two - one + 1) + m * step * ((one + two) * (two - one + 1) / 2)
theorem clo_succ (m o step one two : Int) : clo m o step one (two + 1) = clo m o step one two + (m * (step * (two + 1)) + o) := by
  unfold clo
  have e1 : (one + (two + 1)) * (two + 1 - one + 1) = (one + two) * (two - one + 1) + (two + 1) * 2 := by
    have a1 : (two + 1 - one + 1) = (two - one + 1) + 1 := by omega
    rw [a1, Int.mul_add, Int.mul_one]
    have a2 : (one + (two + 1)) * (two - one + 1) = (one + two) * (two - one + 1) + (two - one + 1) := by
      rw [← Int.add_assoc, Int.add_mul, Int.one_mul]
    rw [a2]; omega
  rw [e1, Int.add_mul_ediv_right _ _ (by decide)]
  have e2 : two + 1 - one + 1 = (two - one + 1) + 1 := by omega
  have e3 : o * (two - one + 1 + 1) = o * (two - one + 1) + o := by rw [Int.mul_add, Int.mul_one]
  have e4 : m * step * ((one + two) * (two - one + 1) / 2 + (two + 1)) = m * step * ((one + two) * (two - one + 1) / 2) + m * (step * (two + 1)) := by rw [Int.mul_add, Int.mul_assoc m step (two + 1)]
  rw [e2, e3, e4]
  omega
theorem clo_zero (m o step one : Int) : clo m o step one (one - 1) = 0 := by
  unfold clo
  have e : one - 1 - one + 1 = 0 := by omega
  rw [e]; simp
theorem clo_sum (m o : Int) {step : Int} (hs : 0 < step) (a : Int) : ∀ b, a ≤ b → -(-a / step) ≤ (b - 1) / step + 1 ∧ clo m o step (-(-a / step)) ((b - 1) / step) = sumZ (fun x => if step ∣ x then m * x + o else 0) a b := by
  have hc := ceil_lo (s := step) (a := a) hs
  refine up a _ ?_ ?_
  · have hf := floor_hi (s := step) (a := a - 1) hs
    have l1 : (a - 1) / step < -(-a / step) := lt_of_mul hs (by omega)
    have l2 : -(-a / step) - 1 < (a - 1) / step + 1 := lt_of_mul hs (by omega)
    have e : (a - 1) / step = -(-a / step) - 1 := by omega
    refine ⟨by omega, ?_⟩
    rw [e, clo_zero, sumZ_empty _ (Int.le_refl a)]
  · intro b hb ih
    obtain ⟨i1, i2⟩ := ih
    have e0 : b + 1 - 1 = b := by omega
    rw [e0, sumZ_succ _ hb, ← i2]
    have hf := floor_hi (s := step) (a := b - 1) hs
    have hg := floor_hi (s := step) (a := b) hs
    by_cases hd : step ∣ b
    · obtain ⟨k, rfl⟩ := hd
      have e1 : step * k / step = k := Int.mul_ediv_cancel_left k (Int.ne_of_gt hs)
      have l1 : (step * k - 1) / step < k := lt_of_mul hs (by omega)
      have l2 : k < (step * k - 1) / step + 1 + 1 := by
        refine lt_of_mul hs ?_
        rw [Int.mul_add step ((step * k - 1) / step + 1) 1]
        omega
      have e2 : (step * k - 1) / step = k - 1 := by omega
      rw [e1, e2] at *
      refine ⟨by omega, ?_⟩
      have e3 : k = k - 1 + 1 := by omega
      have q := clo_succ m o step (-(-a / step)) (k - 1)
      rw [← e3] at q
      rw [q]
      simp only [Int.dvd_mul_right, if_true]
    · have l1 : (b - 1) / step ≤ b / step := Int.ediv_le_ediv hs (by omega)
      have ne : step * (b / step) ≠ b := fun e => hd ⟨b / step, e.symm⟩
      have l2 : b / step < (b - 1) / step + 1 := lt_of_mul hs (by omega)
      have e2 : b / step = (b - 1) / step := by omega
      rw [e2]
      refine ⟨i1, ?_⟩
      rw [if_neg hd]; omega
theorem piece_sum (m o : Int) {step a b last : Int} (hs : 0 < step) (hab : a ≤ b) (hl : b ≤ last + 1) : piece m o a b last step = sumZ (fun x => if step ∣ x then m * x + o else 0) a b := by
  obtain ⟨h1, h2⟩ := clo_sum m o hs a b hab
  unfold piece
  have e : (if last < b - 1 then last else b - 1) = b - 1 := if_neg (by omega)
  rw [e]
  by_cases h : -(-a / step) ≤ (b - 1) / step
  · rw [if_pos h, ← h2]; rfl
  · rw [if_neg h, ← h2]
    have e3 : (b - 1) / step = -(-a / step) - 1 := by omega
    rw [e3, clo_zero]

/-! ### lines and their minimum -/
abbrev Ln : Type := Int × Int
def val (l : Ln) (x : Int) : Int := l.1 * x + l.2
def minv : List Ln → Int → Int
  | [], _ => 0
  | [l], x => val l x
  | l :: k :: r, x => if minv (k :: r) x < val l x then minv (k :: r) x else val l x
theorem minv_le : ∀ {ls : List Ln} {l : Ln} (x : Int), l ∈ ls → minv ls x ≤ val l x
  | [], _, _, h => by cases h
  | [k], l, x, h => by
    rw [List.mem_singleton.mp h]
    exact Int.le_refl _
  | a :: k :: r, l, x, h => by
    unfold minv
    rcases List.mem_cons.mp h with rfl | h
    · split <;> omega
    · have := minv_le (ls := k :: r) x h
      split <;> omega
theorem minv_mem : ∀ {ls : List Ln} (x : Int), ls ≠ [] → ∃ l ∈ ls, minv ls x = val l x
  | [], _, h => absurd rfl h
  | [k], x, _ => ⟨k, List.mem_singleton.mpr rfl, rfl⟩
  | a :: k :: r, x, _ => by
    obtain ⟨l, hl, e⟩ := minv_mem (ls := k :: r) x (by simp)
    unfold minv
    split
    · exact ⟨l, List.mem_cons_of_mem _ hl, e⟩
    · exact ⟨a, List.mem_cons_self, rfl⟩
theorem minv_eq {ls : List Ln} {l : Ln} {x : Int} (hl : l ∈ ls) (h : ∀ k ∈ ls, val l x ≤ val k x) : val l x = minv ls x := by
  obtain ⟨k, hk, e⟩ := minv_mem x (List.ne_nil_of_mem hl)
  have h1 := h k hk
  have h2 := minv_le x hl
  omega
/-- the line of all offsets times k, at k times the place -/
theorem minv_scale (k : Int) (hk : 0 ≤ k) (x : Int) : ∀ ls : List Ln, minv (ls.map fun l => (l.1, k * l.2)) (k * x) = k * minv ls x
  | [] => by show (0 : Int) = k * 0; simp
  | [l] => by
    show l.1 * (k * x) + k * l.2 = k * (l.1 * x + l.2)
    rw [Int.mul_add, Int.mul_left_comm]
  | a :: b :: r => by
    have ih := minv_scale k hk x (b :: r)
    have e1 : val (a.1, k * a.2) (k * x) = k * val a x := by
      show a.1 * (k * x) + k * a.2 = k * (a.1 * x + a.2)
      rw [Int.mul_add, Int.mul_left_comm]
    show (if minv ((b :: r).map fun l => (l.1, k * l.2)) (k * x) < val (a.1, k * a.2) (k * x) then minv ((b :: r).map fun l => (l.1, k * l.2)) (k * x) else val (a.1, k * a.2) (k * x)) = k * (if minv (b :: r) x < val a x then minv (b :: r) x else val a x)
    rw [ih, e1]
    have m : minv (b :: r) x ≤ val a x → k * minv (b :: r) x ≤ k * val a x := fun h => Int.mul_le_mul_of_nonneg_left h hk
    have m2 : val a x ≤ minv (b :: r) x → k * val a x ≤ k * minv (b :: r) x := fun h => Int.mul_le_mul_of_nonneg_left h hk
    by_cases h : minv (b :: r) x < val a x
    · rw [if_pos h]
      have h1 := m (by omega)
      split <;> omega
    · rw [if_neg h]
      have h1 := m2 (by omega)
      split <;> omega

/-! ### the envelope -/
/-- the place where another line is less, after p -/
def below (l k : Ln) (p : Int) : Option Int := if l.1 ≤ k.1 then none else some ((if (k.2 - l.2) / (l.1 - k.1) > p then (k.2 - l.2) / (l.1 - k.1) else p) + 1)
/-- l is the least line at p, of several the one that falls fastest -/
def Lowest (ls : List Ln) (p : Int) (l : Ln) : Prop := l ∈ ls ∧ ∀ k ∈ ls, val l p < val k p ∨ (val l p = val k p ∧ l.1 ≤ k.1)
theorem below_gt {l k : Ln} {p c : Int} (h : below l k p = some c) : p < c := by
  unfold below at h
  split at h
  · cases h
  · have e := Option.some.inj h
    split at e <;> omega
theorem stay {ls : List Ln} {l : Ln} {p x : Int} (hl : Lowest ls p l) (hx : p ≤ x) (hc : ∀ k ∈ ls, ∀ c, below l k p = some c → x < c) : val l x = minv ls x := by
  refine minv_eq hl.1 fun k hk => ?_
  have h1 := hl.2 k hk
  have h2 := hc k hk
  unfold below at h2
  have ev : ∀ y, val k y - val l y = (k.1 - l.1) * y + (k.2 - l.2) := fun y => by
    unfold val
    rw [Int.sub_mul]; omega
  by_cases hs : l.1 ≤ k.1
  · have e1 := ev x
    have e2 := ev p
    have h3 : (k.1 - l.1) * p ≤ (k.1 - l.1) * x := Int.mul_le_mul_of_nonneg_left hx (by omega)
    omega
  · rw [if_neg hs] at h2
    have h3 := h2 _ rfl
    by_cases hxp : x = p
    · subst hxp; omega
    · have h4 : x ≤ (k.2 - l.2) / (l.1 - k.1) := by split at h3 <;> omega
      have h5 : x * (l.1 - k.1) ≤ k.2 - l.2 := (Int.le_ediv_iff_mul_le (by omega)).mp h4
      have e1 := ev x
      have e3 : (k.1 - l.1) * x = -(x * (l.1 - k.1)) := by rw [← Int.mul_neg, Int.mul_comm]; congr 1; omega
      omega
/-- parts (start, stop, line) from a to before b, each line the value of f on its part -/
def EnvOk (f : Int → Int) : Int → Int → List (Int × Int × Ln) → Prop
  | a, b, [] => a = b
  | a, b, (s, e, l) :: r => s = a ∧ a < e ∧ e ≤ b ∧ (∀ x, a ≤ x → x < e → val l x = f x) ∧ EnvOk f e b r
theorem EnvOk.le {f : Int → Int} : ∀ {ps : List (Int × Int × Ln)} {a b : Int}, EnvOk f a b ps → a ≤ b
  | [], _, _, h => Int.le_of_eq h
  | _ :: _, _, _, ⟨_, h1, h2, _, _⟩ => by omega
theorem EnvOk.snoc {f : Int → Int} {s e : Int} {l : Ln} : ∀ {ps : List (Int × Int × Ln)} {a : Int}, EnvOk f a s ps → s < e → (∀ x, s ≤ x → x < e → val l x = f x) → EnvOk f a e (ps ++ [(s, e, l)])
  | [], a, h, h1, h2 => by
    cases (show a = s from h)
    exact ⟨rfl, h1, Int.le_refl _, h2, rfl⟩
  | (s', e', l') :: r, a, ⟨h0, h1, h2, h3, h4⟩, g1, g2 => ⟨h0, h1, by omega, h3, EnvOk.snoc h4 g1 g2⟩
/-- what Pairs.total sums -/
def total (ps : List (Int × Int × Ln)) (last step : Int) : Int := (ps.map fun p => piece p.2.2.1 p.2.2.2 p.1 p.2.1 last step).sum
theorem total_nil (last step : Int) : total [] last step = 0 := rfl
theorem total_append (ps qs : List (Int × Int × Ln)) (last step : Int) : total (ps ++ qs) last step = total ps last step + total qs last step := by
  unfold total
  rw [List.map_append, List.sum_append]
theorem total_one (p : Int × Int × Ln) (last step : Int) : total [p] last step = piece p.2.2.1 p.2.2.2 p.1 p.2.1 last step := by
  unfold total
  simp
theorem EnvOk.total {f : Int → Int} {step : Int} (hs : 0 < step) : ∀ {ps : List (Int × Int × Ln)} {a b : Int}, EnvOk f a b ps → total ps (b - 1) step = sumZ (fun x => if step ∣ x then f x else 0) a b
  | [], a, b, h => by
    cases (show a = b from h)
    rw [sumZ_empty _ (Int.le_refl a)]; rfl
  | (s, e, l) :: r, a, b, ⟨h0, h1, h2, h3, h4⟩ => by
    subst h0
    have ih := EnvOk.total hs h4
    rw [sumZ_split _ (Int.le_of_lt h1) b h2, ← ih]
    show (piece l.1 l.2 s e (b - 1) step :: (r.map fun p => piece p.2.2.1 p.2.2.2 p.1 p.2.1 (b - 1) step)).sum = _
    rw [List.sum_cons, piece_sum l.1 l.2 hs (Int.le_of_lt h1) (by omega)]
    have e1 : sumZ (fun x => if step ∣ x then l.1 * x + l.2 else 0) s e = sumZ (fun x => if step ∣ x then f x else 0) s e := sumZ_congr _ _ fun x hx1 hx2 => by
      have q : l.1 * x + l.2 = f x := h3 x hx1 hx2
      rw [q]
    rw [e1]; rfl
end M

/-! ## KB -/
/-! Plain mathematics: signed divisors, prime factors, the sum over the divisors of a cycle. -/
set_option maxHeartbeats 4000000
namespace M

/-! ### signed divisors -/
def wsum (fs : List (Int × Int)) (x : Int) : Int := (fs.map fun e => if e.1 ∣ x then e.2 else 0).sum
/-- one prime factor more -/
def addP (fs : List (Int × Int)) (p : Int) : List (Int × Int) := fs ++ fs.map fun e => (p * e.1, -e.2)
def signedOf (ps : List Int) : List (Int × Int) := ps.foldl addP [(1, 1)]
theorem wsum_append (a b : List (Int × Int)) (x : Int) : wsum (a ++ b) x = wsum a x + wsum b x := by
  unfold wsum
  rw [List.map_append, List.sum_append]
theorem wsum_no {p x : Int} (h : ¬ p ∣ x) : ∀ fs : List (Int × Int), wsum (fs.map fun e => (p * e.1, -e.2)) x = 0
  | [] => rfl
  | e :: r => by
    have ih := wsum_no h r
    unfold wsum at ih ⊢
    rw [List.map_cons, List.map_cons, List.sum_cons, ih]
    have : ¬ p * e.1 ∣ x := fun q => h (Int.dvd_trans (Int.dvd_mul_right p e.1) q)
    rw [if_neg this]; rfl
theorem wsum_yes {p x : Int} (h : p ∣ x) : ∀ fs : List (Int × Int), (∀ e ∈ fs, Int.gcd p e.1 = 1) → wsum (fs.map fun e => (p * e.1, -e.2)) x = -wsum fs x
  | [], _ => rfl
  | e :: r, hc => by
    have ih := wsum_yes h r fun d hd => hc d (List.mem_cons_of_mem _ hd)
    unfold wsum at ih ⊢
    rw [List.map_cons, List.map_cons, List.map_cons, List.sum_cons, List.sum_cons, ih]
    have c := hc e List.mem_cons_self
    have q : p * e.1 ∣ x ↔ e.1 ∣ x := by
      refine ⟨fun z => Int.dvd_trans (Int.dvd_mul_left p e.1) z, fun z => ?_⟩
      have h1 : p.natAbs ∣ x.natAbs := Int.natAbs_dvd_natAbs.mpr h
      have h2 : e.1.natAbs ∣ x.natAbs := Int.natAbs_dvd_natAbs.mpr z
      have h3 : Nat.Coprime p.natAbs e.1.natAbs := c
      have h4 := Nat.Coprime.mul_dvd_of_dvd_of_dvd h3 h1 h2
      rw [← Int.natAbs_mul] at h4
      exact Int.natAbs_dvd_natAbs.mp h4
    by_cases hd : e.1 ∣ x
    · rw [if_pos hd, if_pos (q.mpr hd)]; omega
    · rw [if_neg hd, if_neg (fun z => hd (q.mp z))]; omega
theorem signed_fold : ∀ (ps : List Int) (fs : List (Int × Int)), (∀ p ∈ ps, ∀ e ∈ fs, Int.gcd p e.1 = 1) → ps.Pairwise (fun a b => Int.gcd b a = 1) → ∀ x, wsum (ps.foldl addP fs) x = if ∀ p ∈ ps, ¬ p ∣ x then wsum fs x else 0
  | [], fs, _, _, x => by simp
  | p :: r, fs, hc, hp, x => by
    obtain ⟨hp1, hp2⟩ := List.pairwise_cons.mp hp
    have ih := signed_fold r (addP fs p) (fun q hq e he => by
      rcases List.mem_append.mp he with he | he
      · exact hc q (List.mem_cons_of_mem _ hq) e he
      · obtain ⟨d, hd, rfl⟩ := List.mem_map.mp he
        have h1 : Nat.Coprime q.natAbs p.natAbs := hp1 q hq
        have h2 : Nat.Coprime q.natAbs d.1.natAbs := hc q (List.mem_cons_of_mem _ hq) d hd
        show Nat.gcd q.natAbs (p * d.1).natAbs = 1
        rw [Int.natAbs_mul]
        exact Nat.Coprime.mul_right h1 h2) hp2 x
    rw [List.foldl_cons, ih]
    have e1 : wsum (addP fs p) x = if p ∣ x then 0 else wsum fs x := by
      unfold addP
      rw [wsum_append]
      by_cases hd : p ∣ x
      · rw [wsum_yes hd fs (hc p List.mem_cons_self), if_pos hd]; omega
      · rw [wsum_no hd fs, if_neg hd]; omega
    rw [e1]
    by_cases hd : p ∣ x
    · rw [if_pos hd, if_neg (show ¬ ∀ q ∈ p :: r, ¬ q ∣ x from fun h => h p List.mem_cons_self hd)]
      split <;> rfl
    · rw [if_neg hd]
      by_cases h : ∀ q ∈ r, ¬ q ∣ x
      · rw [if_pos h, if_pos (fun q hq => by
          rcases List.mem_cons.mp hq with rfl | hq
          · exact hd
          · exact h q hq)]
      · rw [if_neg h, if_neg (fun z => h fun q hq => z q (List.mem_cons_of_mem _ hq))]
theorem signed_ok {ps : List Int} (hp : ps.Pairwise (fun a b => Int.gcd b a = 1)) (x : Int) : wsum (signedOf ps) x = if ∀ p ∈ ps, ¬ p ∣ x then 1 else 0 := by
  unfold signedOf
  rw [signed_fold ps [(1, 1)] (fun p _ e he => by
    rw [List.mem_singleton.mp he]
    exact Int.gcd_one_right p) hp x]
  have e : wsum [(1, 1)] x = 1 := by
    unfold wsum
    simp
  rw [e]
/-- the sums by each step, with its sign -/
theorem signed_sum (f : Int → Int) (a b : Int) : ∀ fs : List (Int × Int), (fs.map fun e => e.2 * sumZ (fun x => if e.1 ∣ x then f x else 0) a b).sum = sumZ (fun x => wsum fs x * f x) a b
  | [] => by
    symm
    refine sumZ_zero _ fun x _ _ => ?_
    show (0 : Int) * f x = 0
    simp
  | e :: r => by
    rw [List.map_cons, List.sum_cons, signed_sum f a b r, ← sumZ_mul, ← sumZ_add]
    refine sumZ_congr _ _ fun x _ _ => ?_
    show _ = (List.map (fun e => if e.1 ∣ x then e.2 else 0) (e :: r)).sum * f x
    rw [List.map_cons, List.sum_cons, Int.add_mul]
    show e.2 * (if e.1 ∣ x then f x else 0) + wsum r x * f x = (if e.1 ∣ x then e.2 else 0) * f x + wsum r x * f x
    split <;> simp

/-! ### prime factors -/
/-- what trial division has found: L the factors, m the rest, every divisor of m but 1 is at least f -/
structure PF (n : Int) (L : List Int) (m f : Int) : Prop where
  pos : 0 < m
  two : 2 ≤ f
  pr : ∀ p ∈ L, 2 ≤ p ∧ (∀ d : Int, 1 < d → d < p → ¬ d ∣ p) ∧ p < f ∧ ¬ p ∣ m
  pw : L.Pairwise (fun a b => Int.gcd b a = 1)
  co : ∀ x : Int, Int.gcd x n = 1 ↔ (∀ p ∈ L, Int.gcd x p = 1) ∧ Int.gcd x m = 1
  lo : ∀ d : Int, 1 < d → d < f → ¬ d ∣ m
/-- the same, f being divided out: f is in L already -/
structure PG (n : Int) (L : List Int) (m f : Int) : Prop where
  pos : 0 < m
  two : 2 ≤ f
  pr : ∀ p ∈ L, 2 ≤ p ∧ (∀ d : Int, 1 < d → d < p → ¬ d ∣ p) ∧ p ≤ f ∧ (p < f → ¬ p ∣ m)
  pw : L.Pairwise (fun a b => Int.gcd b a = 1)
  co : ∀ x : Int, Int.gcd x n = 1 ↔ (∀ p ∈ L, Int.gcd x p = 1) ∧ Int.gcd x m = 1
  lo : ∀ d : Int, 1 < d → d < f → ¬ d ∣ m
  inn : f ∈ L
theorem prime_gcd {p x : Int} (h2 : 2 ≤ p) (hp : ∀ d : Int, 1 < d → d < p → ¬ d ∣ p) : Int.gcd x p = 1 ↔ ¬ p ∣ x := by
  have hg : (Int.gcd x p : Int) ∣ p := Int.gcd_dvd_right x p
  have hx : (Int.gcd x p : Int) ∣ x := Int.gcd_dvd_left x p
  have pos : 0 < Int.gcd x p := Nat.pos_of_ne_zero fun z => by
    rw [Int.gcd_eq_zero_iff] at z
    omega
  have le : (Int.gcd x p : Int) ≤ p := Int.le_of_dvd (by omega) hg
  constructor
  · intro h1 hd
    have h3 : p ∣ (Int.gcd x p : Int) := Int.dvd_coe_gcd hd (Int.dvd_refl p)
    rw [h1] at h3
    have := Int.le_of_dvd (by decide) h3
    omega
  · intro hn
    by_cases h1 : Int.gcd x p = 1
    · exact h1
    · exfalso
      by_cases h3 : (Int.gcd x p : Int) = p
      · rw [h3] at hx
        exact hn hx
      · exact hp (Int.gcd x p : Int) (by omega) (by omega) hg
theorem gcd_mul_iff (x a b : Int) : Int.gcd x (a * b) = 1 ↔ Int.gcd x a = 1 ∧ Int.gcd x b = 1 := by
  show Nat.gcd x.natAbs (a * b).natAbs = 1 ↔ Nat.gcd x.natAbs a.natAbs = 1 ∧ Nat.gcd x.natAbs b.natAbs = 1
  rw [Int.natAbs_mul]
  constructor
  · intro h
    exact ⟨Nat.Coprime.coprime_mul_right_right h, Nat.Coprime.coprime_mul_left_right h⟩
  · intro ⟨h1, h2⟩
    exact Nat.Coprime.mul_right h1 h2
theorem PF.start {n : Int} (h : 0 < n) : PF n [] n 2 :=
  ⟨h, by omega, (fun p hp => nomatch hp), List.Pairwise.nil, fun x => ⟨fun h => ⟨(fun p hp => nomatch hp), h⟩, fun h => h.2⟩, fun d h1 h2 => by omega⟩
/-- f divides m: it is a new prime factor -/
theorem PF.found {n m f : Int} {L : List Int} (h : PF n L m f) (hd : f ∣ m) : PG n (L ++ [f]) m f := by
  have two := h.two
  have fp : ∀ d : Int, 1 < d → d < f → ¬ d ∣ f := fun d h1 h2 q => h.lo d h1 h2 (Int.dvd_trans q hd)
  refine ⟨h.pos, h.two, fun p hp => ?_, ?_, fun x => ?_, h.lo, by simp⟩
  · rcases List.mem_append.mp hp with hp | hp
    · obtain ⟨a, b, c, d⟩ := h.pr p hp
      exact ⟨a, b, by omega, fun _ => d⟩
    · rw [List.mem_singleton.mp hp]
      exact ⟨h.two, fp, Int.le_refl _, fun z => by omega⟩
  · refine List.pairwise_append.mpr ⟨h.pw, List.pairwise_singleton _ _, fun a ha b hb => ?_⟩
    rw [List.mem_singleton.mp hb]
    obtain ⟨a1, a2, a3, a4⟩ := h.pr a ha
    exact (prime_gcd a1 a2).mpr fun q => a4 (Int.dvd_trans q hd)
  · rw [h.co x]
    obtain ⟨k, rfl⟩ := hd
    constructor
    · intro ⟨h1, h2⟩
      refine ⟨fun p hp => ?_, h2⟩
      rcases List.mem_append.mp hp with hp | hp
      · exact h1 p hp
      · rw [List.mem_singleton.mp hp]
        exact ((gcd_mul_iff x f k).mp h2).1
    · intro ⟨h1, h2⟩
      exact ⟨fun p hp => h1 p (List.mem_append_left _ hp), h2⟩
/-- f divided out once more -/
theorem PG.next {n m f : Int} {L : List Int} (h : PG n L m f) (hd : f ∣ m) : PG n L (m / f) f ∧ m / f < m := by
  have two := h.two
  obtain ⟨k, rfl⟩ := hd
  have e : f * k / f = k := Int.mul_ediv_cancel_left k (by omega)
  rw [e]
  have hm := h.pos
  have kp : 0 < k := by
    refine lt_of_mul (s := f) (by omega) ?_
    rw [Int.mul_zero]; exact hm
  refine ⟨⟨kp, h.two, fun p hp => ?_, h.pw, fun x => ?_, fun d h1 h2 q => h.lo d h1 h2 (Int.dvd_trans q (Int.dvd_mul_left f k)), h.inn⟩, ?_⟩
  · obtain ⟨a, b, c, d⟩ := h.pr p hp
    exact ⟨a, b, c, fun z q => d z (Int.dvd_trans q (Int.dvd_mul_left f k))⟩
  · rw [h.co x]
    constructor
    · intro ⟨h1, h2⟩
      exact ⟨h1, ((gcd_mul_iff x f k).mp h2).2⟩
    · intro ⟨h1, h2⟩
      exact ⟨h1, (gcd_mul_iff x f k).mpr ⟨h1 f h.inn, h2⟩⟩
  · have := Int.mul_le_mul_of_nonneg_right two (Int.le_of_lt kp)
    omega
/-- f does not divide m any more: on to f + 1 -/
theorem PG.done {n m f : Int} {L : List Int} (h : PG n L m f) (hd : ¬ f ∣ m) : PF n L m (f + 1) := by
  have two := h.two
  refine ⟨h.pos, by omega, fun p hp => ?_, h.pw, h.co, fun d h1 h2 => ?_⟩
  · obtain ⟨a, b, c, d⟩ := h.pr p hp
    refine ⟨a, b, by omega, ?_⟩
    by_cases e : p = f
    · rw [e]; exact hd
    · exact d (by omega)
  · by_cases e : d = f
    · rw [e]; exact hd
    · exact h.lo d h1 (by omega)
theorem PF.skip {n m f : Int} {L : List Int} (h : PF n L m f) (hd : ¬ f ∣ m) : PF n L m (f + 1) := by
  have two := h.two
  refine ⟨h.pos, by omega, fun p hp => ?_, h.pw, h.co, fun d h1 h2 => ?_⟩
  · obtain ⟨a, b, c, d⟩ := h.pr p hp
    exact ⟨a, b, by omega, d⟩
  · by_cases e : d = f
    · rw [e]; exact hd
    · exact h.lo d h1 (by omega)
/-- what is asked of the prime factors -/
structure Factors (n : Int) (L : List Int) : Prop where
  pr : ∀ p ∈ L, 2 ≤ p ∧ (∀ d : Int, 1 < d → d < p → ¬ d ∣ p)
  pw : L.Pairwise (fun a b => Int.gcd b a = 1)
  co : ∀ x : Int, Int.gcd x n = 1 ↔ ∀ p ∈ L, Int.gcd x p = 1
theorem PF.end1 {n m f : Int} {L : List Int} (h : PF n L m f) (hm : ¬ m > 1) : Factors n L := by
  have hp := h.pos
  have e : m = 1 := by omega
  subst e
  refine ⟨fun p hp => ⟨(h.pr p hp).1, (h.pr p hp).2.1⟩, h.pw, fun x => ?_⟩
  rw [h.co x]
  exact ⟨fun z => z.1, fun z => ⟨z, Int.gcd_one_right x⟩⟩
theorem PF.end2 {n m f : Int} {L : List Int} (h : PF n L m f) (hm : m > 1) (hf : m < f * f) : Factors n (L ++ [m]) := by
  have two := h.two
  have mp : ∀ d : Int, 1 < d → d < m → ¬ d ∣ m := by
    intro d h1 h2 hd
    have a1 : f ≤ d := by
      by_cases z : d < f
      · exact absurd hd (h.lo d h1 z)
      · omega
    obtain ⟨k, rfl⟩ := hd
    have k1 : 1 < k := by
      refine lt_of_mul (s := d) (by omega) ?_
      omega
    have k2 : f ≤ k := by
      by_cases z : k < f
      · exact absurd (Int.dvd_mul_left d k) (h.lo k k1 z)
      · omega
    have b1 : f * f ≤ d * f := Int.mul_le_mul_of_nonneg_right a1 (by omega)
    have b2 : d * f ≤ d * k := Int.mul_le_mul_of_nonneg_left k2 (by omega)
    omega
  refine ⟨fun p hp => ?_, ?_, fun x => ?_⟩
  · rcases List.mem_append.mp hp with hp | hp
    · exact ⟨(h.pr p hp).1, (h.pr p hp).2.1⟩
    · rw [List.mem_singleton.mp hp]
      exact ⟨by omega, mp⟩
  · refine List.pairwise_append.mpr ⟨h.pw, List.pairwise_singleton _ _, fun a ha b hb => ?_⟩
    rw [List.mem_singleton.mp hb]
    obtain ⟨a1, a2, a3, a4⟩ := h.pr a ha
    exact (prime_gcd a1 a2).mpr a4
  · rw [h.co x]
    constructor
    · intro ⟨z1, z2⟩ p hp
      rcases List.mem_append.mp hp with hp | hp
      · exact z1 p hp
      · rw [List.mem_singleton.mp hp]
        exact z2
    · intro z
      exact ⟨fun p hp => z p (List.mem_append_left _ hp), z m (List.mem_append_right _ (List.mem_singleton.mpr rfl))⟩
theorem Factors.w {n : Int} {L : List Int} (h : Factors n L) (x : Int) : wsum (signedOf L) x = if Int.gcd x n = 1 then 1 else 0 := by
  rw [signed_ok h.pw x]
  by_cases g : Int.gcd x n = 1
  · rw [if_pos g, if_pos (fun p hp => (prime_gcd (h.pr p hp).1 (h.pr p hp).2).mp ((h.co x).mp g p hp))]
  · rw [if_neg g, if_neg (fun z => g ((h.co x).mpr fun p hp => (prime_gcd (h.pr p hp).1 (h.pr p hp).2).mpr (z p hp)))]

/-! ### the sum over the divisors of a cycle -/
/-- the ends of the rates: low (None: 0 fits), high -/
structure Ends where
  low : Option (Int × Int)
  high : Int × Int
def Ends.Ok (e : Ends) : Prop := (∀ l, e.low = some l → 0 < l.2) ∧ 0 < e.high.2 ∧ (match e.low with | none => 0 < e.high.1 | some l => l.1 * e.high.2 < e.high.1 * l.2)
def Ends.first (e : Ends) (d : Int) : Int := match e.low with
  | none => 0
  | some l => l.1 * d / l.2 + 1
def Ends.last (e : Ends) (d : Int) : Int := -(-e.high.1 * d / e.high.2) - 1
/-- a place is within the ends -/
def Ends.In (e : Ends) (d x : Int) : Prop := (match e.low with | none => 0 ≤ x | some l => l.1 * d < x * l.2) ∧ x * e.high.2 < e.high.1 * d
noncomputable instance decIn (e : Ends) (d x : Int) : Decidable (e.In d x) := Classical.propDecidable _
theorem Ends.in_iff {e : Ends} (h : e.Ok) (d x : Int) : e.In d x ↔ e.first d ≤ x ∧ x < e.last d + 1 := by
  obtain ⟨h1, h2, _⟩ := h
  unfold Ends.In Ends.first Ends.last
  have a : x * e.high.2 < e.high.1 * d ↔ x < -(-e.high.1 * d / e.high.2) - 1 + 1 := by
    have q : -e.high.1 * d / e.high.2 < -x ↔ -e.high.1 * d < -x * e.high.2 := Int.ediv_lt_iff_lt_mul h2
    have e1 : -e.high.1 * d = -(e.high.1 * d) := Int.neg_mul _ _
    have e2 : -x * e.high.2 = -(x * e.high.2) := Int.neg_mul _ _
    rw [e1, e2] at q
    rw [e1]
    omega
  rw [a]
  cases hl : e.low with
  | none => exact Iff.rfl
  | some l =>
    have q : l.1 * d / l.2 < x ↔ l.1 * d < x * l.2 := Int.ediv_lt_iff_lt_mul (h1 l hl)
    show (l.1 * d < x * l.2 ∧ _) ↔ (l.1 * d / l.2 + 1 ≤ x ∧ _)
    rw [← q]
    constructor
    · intro ⟨z1, z2⟩
      exact ⟨by omega, z2⟩
    · intro ⟨z1, z2⟩
      exact ⟨by omega, z2⟩
theorem Ends.in_scale (e : Ends) {k : Int} (hk : 0 < k) (d x : Int) : e.In (k * d) (k * x) ↔ e.In d x := by
  unfold Ends.In
  have m : ∀ a b : Int, k * a < k * b ↔ a < b := fun a b => ⟨fun h => lt_of_mul hk h, fun h => Int.mul_lt_mul_of_pos_left h hk⟩
  have a : k * x * e.high.2 < e.high.1 * (k * d) ↔ x * e.high.2 < e.high.1 * d := by
    rw [Int.mul_assoc, Int.mul_left_comm e.high.1 k d, m]
  rw [a]
  cases e.low with
  | none =>
    show (0 ≤ k * x ∧ _) ↔ (0 ≤ x ∧ _)
    have q : 0 ≤ k * x ↔ 0 ≤ x := by
      have q1 := m x 0
      rw [Int.mul_zero] at q1
      omega
    rw [q]
  | some l =>
    show (l.1 * (k * d) < k * x * l.2 ∧ _) ↔ (l.1 * d < x * l.2 ∧ _)
    rw [Int.mul_assoc k x l.2, Int.mul_left_comm l.1 k d, m]
/-- the range has no hole: first <= last + 1 -/
theorem Ends.le {e : Ends} (h : e.Ok) {d : Int} (hd : 0 < d) : e.first d ≤ e.last d + 1 := by
  obtain ⟨h1, h2, h3⟩ := h
  unfold Ends.first Ends.last
  have hc := ceil_lo (s := e.high.2) (a := e.high.1 * d) h2
  have e1 : -e.high.1 * d = -(e.high.1 * d) := Int.neg_mul _ _
  rw [e1]
  cases hl : e.low with
  | none =>
    rw [hl] at h3
    have h4 : 0 < e.high.1 * d := Int.mul_pos h3 hd
    have h5 : 0 < -(-(e.high.1 * d) / e.high.2) := by
      refine lt_of_mul h2 ?_
      rw [Int.mul_zero]; omega
    show (0 : Int) ≤ _
    omega
  | some l =>
    rw [hl] at h3
    have l2 := h1 l hl
    have hf := floor_hi (s := l.2) (a := l.1 * d) l2
    show l.1 * d / l.2 + 1 ≤ _
    have h6 : l.1 * d / l.2 < -(-(e.high.1 * d) / e.high.2) := by
      -- floor < ceil : multiply by both denominators
      refine lt_of_mul (s := l.2 * e.high.2) (Int.mul_pos l2 h2) ?_
      have a1 : l.2 * (l.1 * d / l.2) * e.high.2 ≤ l.1 * d * e.high.2 := Int.mul_le_mul_of_nonneg_right hf.1 (Int.le_of_lt h2)
      have a2 : e.high.1 * d * l.2 ≤ e.high.2 * -(-(e.high.1 * d) / e.high.2) * l.2 := Int.mul_le_mul_of_nonneg_right hc.1 (Int.le_of_lt l2)
      have a3 : l.1 * e.high.2 * d < e.high.1 * l.2 * d := Int.mul_lt_mul_of_pos_right h3 hd
      have b1 : l.2 * e.high.2 * (l.1 * d / l.2) = l.2 * (l.1 * d / l.2) * e.high.2 := by rw [Int.mul_right_comm]
      have b2 : l.2 * e.high.2 * -(-(e.high.1 * d) / e.high.2) = e.high.2 * -(-(e.high.1 * d) / e.high.2) * l.2 := by rw [Int.mul_comm l.2 e.high.2, Int.mul_right_comm]
      have b3 : l.1 * d * e.high.2 = l.1 * e.high.2 * d := Int.mul_right_comm _ _ _
      have b4 : e.high.1 * d * l.2 = e.high.1 * l.2 * d := Int.mul_right_comm _ _ _
      omega
    omega
theorem mulsum (G : Int → Int) {k : Int} (hk : 0 < k) (hG : ∀ X, ¬ k ∣ X → G X = 0) (a : Int) : ∀ b, a ≤ b → sumZ G (k * a) (k * b) = sumZ (fun x => G (k * x)) a b := by
  refine up a _ ?_ ?_
  · rw [sumZ_empty _ (Int.le_refl _), sumZ_empty _ (Int.le_refl _)]
  · intro b hb ih
    have h1 : k * a ≤ k * b := Int.mul_le_mul_of_nonneg_left hb (Int.le_of_lt hk)
    have e1 : k * (b + 1) = k * b + k := by rw [Int.mul_add, Int.mul_one]
    rw [sumZ_succ _ hb, ← ih, sumZ_split G h1 (k * (b + 1)) (by omega)]
    congr 1
    refine sumZ_one G (Int.le_refl _) (by omega) fun y y1 y2 y3 => hG y fun ⟨c, hc⟩ => ?_
    subst hc
    have c1 : b ≤ c := by
      have : b < c + 1 := lt_of_mul hk (by rw [Int.mul_add, Int.mul_one]; omega)
      omega
    have c2 : c < b + 1 := lt_of_mul hk (by omega)
    exact y3 (by rw [show c = b by omega])
/-- the function of a cycle: its lines of both kinds, offsets for the cycle 1 -/
structure Shape where
  e : Ends
  u : List Ln
  l : List Ln
def cyc (ls : List Ln) (d : Int) : List Ln := ls.map fun q => (q.1, d * q.2)
def Shape.f (s : Shape) (d x : Int) : Int := minv (cyc s.u d) x + minv (cyc s.l d) x
theorem cyc_mul (ls : List Ln) (k d : Int) : cyc ls (k * d) = (cyc ls d).map fun q => (q.1, k * q.2) := by
  unfold cyc
  rw [List.map_map]
  refine List.map_congr_left fun q _ => ?_
  show (q.1, k * d * q.2) = (q.1, k * (d * q.2))
  rw [Int.mul_assoc]
theorem Shape.scale (s : Shape) {k : Int} (hk : 0 < k) (d x : Int) : s.f (k * d) (k * x) = k * s.f d x := by
  unfold Shape.f
  rw [cyc_mul, cyc_mul, minv_scale k (Int.le_of_lt hk), minv_scale k (Int.le_of_lt hk), Int.mul_add]
/-- count_pairs, count_rules -/
def Shape.pairs (s : Shape) (d : Int) : Int := sumZ (s.f d) (s.e.first d) (s.e.last d + 1)
def Shape.rules (s : Shape) (d : Int) : Int := sumZ (fun x => if Int.gcd x d = 1 then s.f d x else 0) (s.e.first d) (s.e.last d + 1)
theorem Shape.part (s : Shape) (h : s.e.Ok) {q k d : Int} (hk : 0 < k) (hd : 0 < d) (hq : q = k * d) :
    k * s.rules d = sumZ (fun X => if (Int.gcd X q : Int) = k then s.f q X else 0) (s.e.first q) (s.e.last q + 1) := by
  subst hq
  have hq : 0 < k * d := Int.mul_pos hk hd
  have l1 := Ends.le h hd
  have l2 := Ends.le h hq
  -- a window
  obtain ⟨B, hB⟩ : ∃ B : Int, B = (s.e.first d).natAbs + (s.e.last d + 1).natAbs + (s.e.first (k * d)).natAbs + (s.e.last (k * d) + 1).natAbs := ⟨_, rfl⟩
  have B0 : 0 ≤ B := by omega
  have kB : B ≤ k * B := by
    have := Int.mul_le_mul_of_nonneg_right (show 1 ≤ k by omega) B0
    omega
  have e1 : k * s.rules d = sumZ (fun x => if s.e.In d x ∧ Int.gcd x d = 1 then k * s.f d x else 0) (-B) B := by
    unfold Shape.rules
    rw [← sumZ_mul]
    rw [sumZ_widen (fun x => if s.e.In d x ∧ Int.gcd x d = 1 then k * s.f d x else 0) (a := s.e.first d) (b := s.e.last d + 1) (by omega) l1 (by omega)
      (fun x _ hx => if_neg fun z => by have := (Ends.in_iff h d x).mp z.1; omega) (fun x hx _ => if_neg fun z => by have := (Ends.in_iff h d x).mp z.1; omega)]
    refine sumZ_congr _ _ fun x x1 x2 => ?_
    have hi : s.e.In d x := (Ends.in_iff h d x).mpr ⟨x1, x2⟩
    by_cases g : Int.gcd x d = 1
    · rw [if_pos g, if_pos ⟨hi, g⟩]
    · rw [if_neg g, if_neg fun z => g z.2, Int.mul_zero]
  have e2 : sumZ (fun X => if (Int.gcd X (k * d) : Int) = k then s.f (k * d) X else 0) (s.e.first (k * d)) (s.e.last (k * d) + 1)
      = sumZ (fun X => if (Int.gcd X (k * d) : Int) = k then (if s.e.In (k * d) X then s.f (k * d) X else 0) else 0) (k * -B) (k * B) := by
    rw [sumZ_widen (fun X => if (Int.gcd X (k * d) : Int) = k then (if s.e.In (k * d) X then s.f (k * d) X else 0) else 0) (A := k * -B) (a := s.e.first (k * d)) (b := s.e.last (k * d) + 1) (by rw [Int.mul_neg]; omega) l2 (by omega)
      (fun x _ hx => by
        have : ¬ s.e.In (k * d) x := fun z => by have := (Ends.in_iff h (k * d) x).mp z; omega
        rw [if_neg this]; split <;> rfl)
      (fun x hx _ => by
        have : ¬ s.e.In (k * d) x := fun z => by have := (Ends.in_iff h (k * d) x).mp z; omega
        rw [if_neg this]; split <;> rfl)]
    refine sumZ_congr _ _ fun x x1 x2 => ?_
    rw [if_pos ((Ends.in_iff h (k * d) x).mpr ⟨x1, x2⟩)]
  rw [e1, e2, mulsum _ hk (fun X hX => if_neg fun z => hX (by
    have := Int.gcd_dvd_left X (k * d)
    rw [z] at this
    exact this)) (-B) B (by omega)]
  refine sumZ_congr _ _ fun x _ _ => ?_
  have g : (Int.gcd (k * x) (k * d) : Int) = k ↔ Int.gcd x d = 1 := by
    rw [Int.gcd_mul_left]
    have ek : (k.natAbs : Int) = k := by omega
    constructor
    · intro z
      have z2 : k * (Int.gcd x d : Int) = k * 1 := by
        rw [Int.natCast_mul, ek] at z
        omega
      have z3 := Int.eq_of_mul_eq_mul_left (by omega) z2
      omega
    · intro z
      rw [z, Nat.mul_one]
      exact ek
  by_cases hi : s.e.In d x
  · have hi2 := (Ends.in_scale s.e hk d x).mpr hi
    by_cases gg : Int.gcd x d = 1
    · rw [if_pos ⟨hi, gg⟩, if_pos (g.mpr gg), if_pos hi2, Shape.scale s hk]
    · rw [if_neg fun z => gg z.2, if_neg fun z => gg (g.mp z)]
  · have hi2 : ¬ s.e.In (k * d) (k * x) := fun z => hi ((Ends.in_scale s.e hk d x).mp z)
    rw [if_neg fun z => hi z.1, if_neg hi2]
    split <;> rfl
/-- THE LAW: the pairs of a cycle are the rules of its divisors, each as often as the quotient says -/
theorem Shape.law (s : Shape) (h : s.e.Ok) {q : Int} (hq : 0 < q) : sumZ (fun d => if q / d * d = q then q / d * s.rules d else 0) 1 (q + 1) = s.pairs q := by
  have e1 : sumZ (fun d => if q / d * d = q then q / d * s.rules d else 0) 1 (q + 1)
      = sumZ (fun d => sumZ (fun X => if q / d * d = q ∧ (Int.gcd X q : Int) = q / d then s.f q X else 0) (s.e.first q) (s.e.last q + 1)) 1 (q + 1) := by
    refine sumZ_congr _ _ fun d d1 d2 => ?_
    by_cases hd : q / d * d = q
    · rw [if_pos hd]
      have kp : 0 < q / d := by
        refine lt_of_mul (s := d) (by omega) ?_
        rw [Int.mul_zero, Int.mul_comm]; omega
      rw [Shape.part s h kp (by omega) hd.symm]
      refine sumZ_congr _ _ fun X _ _ => ?_
      by_cases g : (Int.gcd X q : Int) = q / d
      · rw [if_pos g, if_pos ⟨hd, g⟩]
      · rw [if_neg g, if_neg fun z => g z.2]
    · rw [if_neg hd]
      exact (sumZ_zero _ fun X _ _ => if_neg fun z => hd z.1).symm
  rw [e1, sumZ_comm]
  unfold Shape.pairs
  refine sumZ_congr _ _ fun X _ _ => ?_
  -- exactly one divisor: q / gcd X q
  obtain ⟨c, hc⟩ : (Int.gcd X q : Int) ∣ q := Int.gcd_dvd_right X q
  have gp : 0 < (Int.gcd X q : Int) := by
    have : 0 < Int.gcd X q := Nat.pos_of_ne_zero fun z => by
      rw [Int.gcd_eq_zero_iff] at z
      omega
    omega
  have cp : 0 < c := by
    refine lt_of_mul gp ?_
    rw [Int.mul_zero]; omega
  have cq : q / c = (Int.gcd X q : Int) := by
    have e : q = c * (Int.gcd X q : Int) := by rw [Int.mul_comm]; exact hc
    generalize (Int.gcd X q : Int) = g at e
    rw [e]
    exact Int.mul_ediv_cancel_left g (by omega)
  have cl : c ≤ q := Int.le_of_dvd hq ⟨(Int.gcd X q : Int), by rw [Int.mul_comm]; exact hc⟩
  rw [sumZ_one _ (x := c) (by omega) (by omega) fun y y1 y2 y3 => if_neg fun z => y3 ?_]
  · rw [if_pos]
    exact ⟨by rw [cq]; exact hc.symm, cq.symm⟩
  · obtain ⟨z1, z2⟩ := z
    rw [← z2] at z1
    have : (Int.gcd X q : Int) * y = (Int.gcd X q : Int) * c := by omega
    exact Int.eq_of_mul_eq_mul_left (by omega) this
theorem Shape.law_one (s : Shape) : s.pairs 1 = s.rules 1 := by
  unfold Shape.pairs Shape.rules
  refine sumZ_congr _ _ fun x _ _ => ?_
  rw [if_pos (Int.gcd_one_right x)]
theorem Shape.law_prime (s : Shape) (h : s.e.Ok) {p : Int} (hp : 2 ≤ p) (pr : ∀ d : Int, 1 < d → d < p → ¬ d ∣ p) : s.pairs p = s.rules p + p * s.rules 1 := by
  rw [← Shape.law s h (show 0 < p by omega)]
  rw [sumZ_succ _ (show (1 : Int) ≤ p by omega)]
  rw [sumZ_one _ (x := 1) (by omega) (by omega) fun y y1 y2 y3 => if_neg fun z => pr y (by omega) y2 ⟨p / y, by rw [Int.mul_comm]; exact z.symm⟩]
  have e1 : p / 1 = p := Int.ediv_one p
  have e2 : p / p = 1 := Int.ediv_self (by omega)
  rw [e1, e2, if_pos (by omega), if_pos (by omega)]; omega
end M

/-! ## KT -/
set_option Elab.async false
set_option linter.all false
set_option maxRecDepth 100000
/-! The program's text by places: each def, its slots, its datum for the head. -/
namespace KN
open PySem PySem.Spec PyProof.Rows L2
abbrev P0 : Program := PySem.Challenge.pw_leapfit_k63_whole_pairs_of_multiples
def top (i : Nat) : Stmt := PySem.Challenge.pw_leapfit_k63_whole_pairs_of_multiples.main.body.getD i (.Pass ⟨0, 0, 0, 0⟩)
/-- is_integer('value',); cells: [] -/
abbrev s_is_integer : Stmt := top 10
abbrev n_is_integer : List Str := ["value"]
abbrev p_is_integer : List Str := ["value"]
theorem sc_is_integer : FnScope n_is_integer p_is_integer (defScope s_is_integer) := ⟨rfl, rfl, rfl, by decide +kernel, rfl, by decide +kernel, by decide +kernel⟩
def d_is_integer : He.DefD := ⟨("is_integer", none), "is_integer", "is_integer", defArgs s_is_integer, defBody s_is_integer, defScope s_is_integer, [], []⟩
/-- is_list('value',); cells: [] -/
abbrev s_is_list : Stmt := top 11
abbrev n_is_list : List Str := ["value"]
abbrev p_is_list : List Str := ["value"]
theorem sc_is_list : FnScope n_is_list p_is_list (defScope s_is_list) := ⟨rfl, rfl, rfl, by decide +kernel, rfl, by decide +kernel, by decide +kernel⟩
def d_is_list : He.DefD := ⟨("is_list", none), "is_list", "is_list", defArgs s_is_list, defBody s_is_list, defScope s_is_list, [], []⟩
/-- common_divisor('one', 'other'); cells: [] -/
abbrev s_common_divisor : Stmt := top 12
abbrev n_common_divisor : List Str := ["one", "other"]
abbrev p_common_divisor : List Str := ["one", "other"]
theorem sc_common_divisor : FnScope n_common_divisor p_common_divisor (defScope s_common_divisor) := ⟨rfl, rfl, rfl, by decide +kernel, rfl, by decide +kernel, by decide +kernel⟩
def d_common_divisor : He.DefD := ⟨("common_divisor", none), "common_divisor", "common_divisor", defArgs s_common_divisor, defBody s_common_divisor, defScope s_common_divisor, [], []⟩
/-- is_record('value',); cells: [] -/
abbrev s_is_record : Stmt := top 13
abbrev n_is_record : List Str := ["value"]
abbrev p_is_record : List Str := ["value"]
theorem sc_is_record : FnScope n_is_record p_is_record (defScope s_is_record) := ⟨rfl, rfl, rfl, by decide +kernel, rfl, by decide +kernel, by decide +kernel⟩
def d_is_record : He.DefD := ⟨("is_record", none), "is_record", "is_record", defArgs s_is_record, defBody s_is_record, defScope s_is_record, [], []⟩
/-- need_number('value', 'least', 'most'); cells: [] -/
abbrev s_need_number : Stmt := top 14
abbrev n_need_number : List Str := ["value", "least", "most"]
abbrev p_need_number : List Str := ["value", "least", "most"]
theorem sc_need_number : FnScope n_need_number p_need_number (defScope s_need_number) := ⟨rfl, rfl, rfl, by decide +kernel, rfl, by decide +kernel, by decide +kernel⟩
def d_need_number : He.DefD := ⟨("need_number", none), "need_number", "need_number", defArgs s_need_number, defBody s_need_number, defScope s_need_number, [.non, .non], []⟩
/-- need_records('value',); cells: [] -/
abbrev s_need_records : Stmt := top 15
abbrev n_need_records : List Str := ["value", "index", "item"]
abbrev p_need_records : List Str := ["value"]
theorem sc_need_records : FnScope n_need_records p_need_records (defScope s_need_records) := ⟨rfl, rfl, rfl, by decide +kernel, rfl, by decide +kernel, by decide +kernel⟩
def d_need_records : He.DefD := ⟨("need_records", none), "need_records", "need_records", defArgs s_need_records, defBody s_need_records, defScope s_need_records, [], []⟩
/-- lowest_terms('top', 'bottom'); cells: [] -/
abbrev s_lowest_terms : Stmt := top 17
abbrev n_lowest_terms : List Str := ["top", "bottom", "divisor"]
abbrev p_lowest_terms : List Str := ["top", "bottom"]
theorem sc_lowest_terms : FnScope n_lowest_terms p_lowest_terms (defScope s_lowest_terms) := ⟨rfl, rfl, rfl, by decide +kernel, rfl, by decide +kernel, by decide +kernel⟩
def d_lowest_terms : He.DefD := ⟨("lowest_terms", none), "lowest_terms", "lowest_terms", defArgs s_lowest_terms, defBody s_lowest_terms, defScope s_lowest_terms, [], []⟩
/-- is_less('one', 'other'); cells: [] -/
abbrev s_is_less : Stmt := top 18
abbrev n_is_less : List Str := ["one", "other"]
abbrev p_is_less : List Str := ["one", "other"]
theorem sc_is_less : FnScope n_is_less p_is_less (defScope s_is_less) := ⟨rfl, rfl, rfl, by decide +kernel, rfl, by decide +kernel, by decide +kernel⟩
def d_is_less : He.DefD := ⟨("is_less", none), "is_less", "is_less", defArgs s_is_less, defBody s_is_less, defScope s_is_less, [], []⟩
/-- RateBounds.__init__('self', 'records'); cells: [] -/
abbrev s_RateBounds_init : Stmt := inClass (top 19) 0
abbrev n_RateBounds_init : List Str := ["self", "records", "lower", "upper", "i", "one", "j", "other", "index", "record"]
abbrev p_RateBounds_init : List Str := ["self", "records"]
theorem sc_RateBounds_init : FnScope n_RateBounds_init p_RateBounds_init (defScope s_RateBounds_init) := ⟨rfl, rfl, rfl, by decide +kernel, rfl, by decide +kernel, by decide +kernel⟩
def d_RateBounds_init : He.DefD := ⟨("RateBounds", some "__init__"), "__init__", "RateBounds.__init__", defArgs s_RateBounds_init, defBody s_RateBounds_init, defScope s_RateBounds_init, [], []⟩
/-- RateBounds.tighten('self', 'pair', 'one', 'other'); cells: [] -/
abbrev s_RateBounds_tighten : Stmt := inClass (top 19) 1
abbrev n_RateBounds_tighten : List Str := ["self", "pair", "one", "other", "room", "distance"]
abbrev p_RateBounds_tighten : List Str := ["self", "pair", "one", "other"]
theorem sc_RateBounds_tighten : FnScope n_RateBounds_tighten p_RateBounds_tighten (defScope s_RateBounds_tighten) := ⟨rfl, rfl, rfl, by decide +kernel, rfl, by decide +kernel, by decide +kernel⟩
def d_RateBounds_tighten : He.DefD := ⟨("RateBounds", some "tighten"), "tighten", "RateBounds.tighten", defArgs s_RateBounds_tighten, defBody s_RateBounds_tighten, defScope s_RateBounds_tighten, [], []⟩
/-- RateBounds.is_empty('self',); cells: [] -/
abbrev s_RateBounds_is_empty : Stmt := inClass (top 19) 2
abbrev n_RateBounds_is_empty : List Str := ["self"]
abbrev p_RateBounds_is_empty : List Str := ["self"]
theorem sc_RateBounds_is_empty : FnScope n_RateBounds_is_empty p_RateBounds_is_empty (defScope s_RateBounds_is_empty) := ⟨rfl, rfl, rfl, by decide +kernel, rfl, by decide +kernel, by decide +kernel⟩
def d_RateBounds_is_empty : He.DefD := ⟨("RateBounds", some "is_empty"), "is_empty", "RateBounds.is_empty", defArgs s_RateBounds_is_empty, defBody s_RateBounds_is_empty, defScope s_RateBounds_is_empty, [], []⟩
/-- RateBounds.ends('self',); cells: [] -/
abbrev s_RateBounds_ends : Stmt := inClass (top 19) 3
abbrev n_RateBounds_ends : List Str := ["self", "low"]
abbrev p_RateBounds_ends : List Str := ["self"]
theorem sc_RateBounds_ends : FnScope n_RateBounds_ends p_RateBounds_ends (defScope s_RateBounds_ends) := ⟨rfl, rfl, rfl, by decide +kernel, rfl, by decide +kernel, by decide +kernel⟩
def d_RateBounds_ends : He.DefD := ⟨("RateBounds", some "ends"), "ends", "RateBounds.ends", defArgs s_RateBounds_ends, defBody s_RateBounds_ends, defScope s_RateBounds_ends, [], []⟩
/-- ends_of('records',); cells: [] -/
abbrev s_ends_of : Stmt := top 20
abbrev n_ends_of : List Str := ["records", "bounds"]
abbrev p_ends_of : List Str := ["records"]
theorem sc_ends_of : FnScope n_ends_of p_ends_of (defScope s_ends_of) := ⟨rfl, rfl, rfl, by decide +kernel, rfl, by decide +kernel, by decide +kernel⟩
def d_ends_of : He.DefD := ⟨("ends_of", none), "ends_of", "ends_of", defArgs s_ends_of, defBody s_ends_of, defScope s_ends_of, [], []⟩
/-- Line.__init__('self', 'slope', 'offset'); cells: [] -/
abbrev s_Line_init : Stmt := inClass (top 24) 0
abbrev n_Line_init : List Str := ["self", "slope", "offset"]
abbrev p_Line_init : List Str := ["self", "slope", "offset"]
theorem sc_Line_init : FnScope n_Line_init p_Line_init (defScope s_Line_init) := ⟨rfl, rfl, rfl, by decide +kernel, rfl, by decide +kernel, by decide +kernel⟩
def d_Line_init : He.DefD := ⟨("Line", some "__init__"), "__init__", "Line.__init__", defArgs s_Line_init, defBody s_Line_init, defScope s_Line_init, [], []⟩
/-- Line.at('self', 'p'); cells: [] -/
abbrev s_Line_at : Stmt := inClass (top 24) 1
abbrev n_Line_at : List Str := ["self", "p"]
abbrev p_Line_at : List Str := ["self", "p"]
theorem sc_Line_at : FnScope n_Line_at p_Line_at (defScope s_Line_at) := ⟨rfl, rfl, rfl, by decide +kernel, rfl, by decide +kernel, by decide +kernel⟩
def d_Line_at : He.DefD := ⟨("Line", some "at"), "at", "Line.at", defArgs s_Line_at, defBody s_Line_at, defScope s_Line_at, [], []⟩
/-- Line.next_below('self', 'other', 'p'); cells: [] -/
abbrev s_Line_next_below : Stmt := inClass (top 24) 2
abbrev n_Line_next_below : List Str := ["self", "other", "p"]
abbrev p_Line_next_below : List Str := ["self", "other", "p"]
theorem sc_Line_next_below : FnScope n_Line_next_below p_Line_next_below (defScope s_Line_next_below) := ⟨rfl, rfl, rfl, by decide +kernel, rfl, by decide +kernel, by decide +kernel⟩
def d_Line_next_below : He.DefD := ⟨("Line", some "next_below"), "next_below", "Line.next_below", defArgs s_Line_next_below, defBody s_Line_next_below, defScope s_Line_next_below, [], []⟩
/-- lowest('lines', 'p'); cells: ['p'] -/
abbrev s_lowest : Stmt := top 25
abbrev n_lowest : List Str := ["lines", "p"]
abbrev p_lowest : List Str := ["lines", "p"]
theorem sc_lowest : FnScope n_lowest p_lowest (defScope s_lowest) := ⟨rfl, rfl, rfl, by decide +kernel, rfl, by decide +kernel, by decide +kernel⟩
def d_lowest : He.DefD := ⟨("lowest", none), "lowest", "lowest", defArgs s_lowest, defBody s_lowest, defScope s_lowest, [], []⟩
/-- lower_envelope('lines', 'first', 'last'); cells: ['p', 'line'] -/
abbrev s_lower_envelope : Stmt := top 26
abbrev n_lower_envelope : List Str := ["lines", "first", "last", "found", "p", "line", "changes", "stop", "other", "change"]
abbrev p_lower_envelope : List Str := ["lines", "first", "last"]
theorem sc_lower_envelope : FnScope n_lower_envelope p_lower_envelope (defScope s_lower_envelope) := ⟨rfl, rfl, rfl, by decide +kernel, rfl, by decide +kernel, by decide +kernel⟩
def d_lower_envelope : He.DefD := ⟨("lower_envelope", none), "lower_envelope", "lower_envelope", defArgs s_lower_envelope, defBody s_lower_envelope, defScope s_lower_envelope, [], []⟩
/-- prime_factors('number',); cells: [] -/
abbrev s_prime_factors : Stmt := top 27
abbrev n_prime_factors : List Str := ["number", "found", "factor"]
abbrev p_prime_factors : List Str := ["number"]
theorem sc_prime_factors : FnScope n_prime_factors p_prime_factors (defScope s_prime_factors) := ⟨rfl, rfl, rfl, by decide +kernel, rfl, by decide +kernel, by decide +kernel⟩
def d_prime_factors : He.DefD := ⟨("prime_factors", none), "prime_factors", "prime_factors", defArgs s_prime_factors, defBody s_prime_factors, defScope s_prime_factors, [], []⟩
/-- signed_divisors('number',); cells: ['factor'] -/
abbrev s_signed_divisors : Stmt := top 28
abbrev n_signed_divisors : List Str := ["number", "found", "factor", "divisor", "sign"]
abbrev p_signed_divisors : List Str := ["number"]
theorem sc_signed_divisors : FnScope n_signed_divisors p_signed_divisors (defScope s_signed_divisors) := ⟨rfl, rfl, rfl, by decide +kernel, rfl, by decide +kernel, by decide +kernel⟩
def d_signed_divisors : He.DefD := ⟨("signed_divisors", none), "signed_divisors", "signed_divisors", defArgs s_signed_divisors, defBody s_signed_divisors, defScope s_signed_divisors, [], []⟩
/-- Pairs.__init__('self', 'records', 'cycle'); cells: ['cycle'] -/
abbrev s_Pairs_init : Stmt := inClass (top 29) 0
abbrev n_Pairs_init : List Str := ["self", "records", "cycle", "interval", "low", "high", "upper", "lower", "kind", "time", "number"]
abbrev p_Pairs_init : List Str := ["self", "records", "cycle"]
theorem sc_Pairs_init : FnScope n_Pairs_init p_Pairs_init (defScope s_Pairs_init) := ⟨rfl, rfl, rfl, by decide +kernel, rfl, by decide +kernel, by decide +kernel⟩
def d_Pairs_init : He.DefD := ⟨("Pairs", some "__init__"), "__init__", "Pairs.__init__", defArgs s_Pairs_init, defBody s_Pairs_init, defScope s_Pairs_init, [], []⟩
/-- Pairs.total('self', 'last', 'step'); cells: [] -/
abbrev s_Pairs_total : Stmt := inClass (top 29) 1
abbrev n_Pairs_total : List Str := ["self", "last", "step", "result", "start", "stop", "line", "one", "two", "number"]
abbrev p_Pairs_total : List Str := ["self", "last", "step"]
theorem sc_Pairs_total : FnScope n_Pairs_total p_Pairs_total (defScope s_Pairs_total) := ⟨rfl, rfl, rfl, by decide +kernel, rfl, by decide +kernel, by decide +kernel⟩
def d_Pairs_total : He.DefD := ⟨("Pairs", some "total"), "total", "Pairs.total", defArgs s_Pairs_total, defBody s_Pairs_total, defScope s_Pairs_total, [], []⟩
/-- Rules.__init__('self', 'records', 'cycle'); cells: [] -/
abbrev s_Rules_init : Stmt := inClass (top 30) 0
abbrev n_Rules_init : List Str := ["self", "records", "cycle"]
abbrev p_Rules_init : List Str := ["self", "records", "cycle"]
theorem sc_Rules_init : FnScope n_Rules_init p_Rules_init (defScope s_Rules_init) := ⟨rfl, rfl, rfl, by decide +kernel, rfl, by decide +kernel, by decide +kernel⟩
def d_Rules_init : He.DefD := ⟨("Rules", some "__init__"), "__init__", "Rules.__init__", defArgs s_Rules_init, defBody s_Rules_init, defScope s_Rules_init, [], []⟩
/-- Rules.number_to('self', 'p'); cells: ['self', 'p'] -/
abbrev s_Rules_number_to : Stmt := inClass (top 30) 1
abbrev n_Rules_number_to : List Str := ["self", "p", "step", "sign"]
abbrev p_Rules_number_to : List Str := ["self", "p"]
theorem sc_Rules_number_to : FnScope n_Rules_number_to p_Rules_number_to (defScope s_Rules_number_to) := ⟨rfl, rfl, rfl, by decide +kernel, rfl, by decide +kernel, by decide +kernel⟩
def d_Rules_number_to : He.DefD := ⟨("Rules", some "number_to"), "number_to", "Rules.number_to", defArgs s_Rules_number_to, defBody s_Rules_number_to, defScope s_Rules_number_to, [], []⟩
/-- Rules.number('self',); cells: [] -/
abbrev s_Rules_number : Stmt := inClass (top 30) 2
abbrev n_Rules_number : List Str := ["self"]
abbrev p_Rules_number : List Str := ["self"]
theorem sc_Rules_number : FnScope n_Rules_number p_Rules_number (defScope s_Rules_number) := ⟨rfl, rfl, rfl, by decide +kernel, rfl, by decide +kernel, by decide +kernel⟩
def d_Rules_number : He.DefD := ⟨("Rules", some "number"), "number", "Rules.number", defArgs s_Rules_number, defBody s_Rules_number, defScope s_Rules_number, [], []⟩
/-- count_pairs('records', 'cycle'); cells: [] -/
abbrev s_count_pairs : Stmt := top 31
abbrev n_count_pairs : List Str := ["records", "cycle", "pairs"]
abbrev p_count_pairs : List Str := ["records", "cycle"]
theorem sc_count_pairs : FnScope n_count_pairs p_count_pairs (defScope s_count_pairs) := ⟨rfl, rfl, rfl, by decide +kernel, rfl, by decide +kernel, by decide +kernel⟩
def d_count_pairs : He.DefD := ⟨("count_pairs", none), "count_pairs", "count_pairs", defArgs s_count_pairs, defBody s_count_pairs, defScope s_count_pairs, [], []⟩
/-- count_rules('records', 'cycle'); cells: [] -/
abbrev s_count_rules : Stmt := top 32
abbrev n_count_rules : List Str := ["records", "cycle"]
abbrev p_count_rules : List Str := ["records", "cycle"]
theorem sc_count_rules : FnScope n_count_rules p_count_rules (defScope s_count_rules) := ⟨rfl, rfl, rfl, by decide +kernel, rfl, by decide +kernel, by decide +kernel⟩
def d_count_rules : He.DefD := ⟨("count_rules", none), "count_rules", "count_rules", defArgs s_count_rules, defBody s_count_rules, defScope s_count_rules, [], []⟩
/-- _law_pen('_law_script',); cells: [] -/
abbrev s_lpen : Stmt := top 34
abbrev n_lpen : List Str := ["_law_script"]
abbrev p_lpen : List Str := ["_law_script"]
theorem sc_lpen : FnScope n_lpen p_lpen (defScope s_lpen) := ⟨rfl, rfl, rfl, by decide +kernel, rfl, by decide +kernel, by decide +kernel⟩
def d_lpen : He.DefD := ⟨("_law_pen", none), "_law_pen", "_law_pen", defArgs s_lpen, defBody s_lpen, defScope s_lpen, [], []⟩
/-- _law_draw('_law_pen_here', '_law_many'); cells: [] -/
abbrev s_ldraw : Stmt := top 35
abbrev n_ldraw : List Str := ["_law_pen_here", "_law_many", "_law_digit", "_law_turn", "_law_cell", "_law_mix"]
abbrev p_ldraw : List Str := ["_law_pen_here", "_law_many"]
theorem sc_ldraw : FnScope n_ldraw p_ldraw (defScope s_ldraw) := ⟨rfl, rfl, rfl, by decide +kernel, rfl, by decide +kernel, by decide +kernel⟩
def d_ldraw : He.DefD := ⟨("_law_draw", none), "_law_draw", "_law_draw", defArgs s_ldraw, defBody s_ldraw, defScope s_ldraw, [], []⟩
/-- _law_pick('_law_pen_here', '_law_options'); cells: [] -/
abbrev s_lpick : Stmt := top 36
abbrev n_lpick : List Str := ["_law_pen_here", "_law_options"]
abbrev p_lpick : List Str := ["_law_pen_here", "_law_options"]
theorem sc_lpick : FnScope n_lpick p_lpick (defScope s_lpick) := ⟨rfl, rfl, rfl, by decide +kernel, rfl, by decide +kernel, by decide +kernel⟩
def d_lpick : He.DefD := ⟨("_law_pick", none), "_law_pick", "_law_pick", defArgs s_lpick, defBody s_lpick, defScope s_lpick, [], []⟩
/-- _law_shuffled('_law_pen_here', '_law_items'); cells: [] -/
abbrev s_lshuffled : Stmt := top 37
abbrev n_lshuffled : List Str := ["_law_pen_here", "_law_items", "_law_rest", "_law_result"]
abbrev p_lshuffled : List Str := ["_law_pen_here", "_law_items"]
theorem sc_lshuffled : FnScope n_lshuffled p_lshuffled (defScope s_lshuffled) := ⟨rfl, rfl, rfl, by decide +kernel, rfl, by decide +kernel, by decide +kernel⟩
def d_lshuffled : He.DefD := ⟨("_law_shuffled", none), "_law_shuffled", "_law_shuffled", defArgs s_lshuffled, defBody s_lshuffled, defScope s_lshuffled, [], []⟩
/-- _law_natural('_law_pen_here', '_law_figures'); cells: [] -/
abbrev s_lnatural : Stmt := top 38
abbrev n_lnatural : List Str := ["_law_pen_here", "_law_figures", "_law_result", "_law_k"]
abbrev p_lnatural : List Str := ["_law_pen_here", "_law_figures"]
theorem sc_lnatural : FnScope n_lnatural p_lnatural (defScope s_lnatural) := ⟨rfl, rfl, rfl, by decide +kernel, rfl, by decide +kernel, by decide +kernel⟩
def d_lnatural : He.DefD := ⟨("_law_natural", none), "_law_natural", "_law_natural", defArgs s_lnatural, defBody s_lnatural, defScope s_lnatural, [], []⟩
/-- _law_integer('_law_pen_here', '_law_figures'); cells: [] -/
abbrev s_linteger : Stmt := top 39
abbrev n_linteger : List Str := ["_law_pen_here", "_law_figures"]
abbrev p_linteger : List Str := ["_law_pen_here", "_law_figures"]
theorem sc_linteger : FnScope n_linteger p_linteger (defScope s_linteger) := ⟨rfl, rfl, rfl, by decide +kernel, rfl, by decide +kernel, by decide +kernel⟩
def d_linteger : He.DefD := ⟨("_law_integer", none), "_law_integer", "_law_integer", defArgs s_linteger, defBody s_linteger, defScope s_linteger, [], []⟩
/-- _law_gcd('_law_one', '_law_two'); cells: [] -/
abbrev s_lgcd : Stmt := top 40
abbrev n_lgcd : List Str := ["_law_one", "_law_two"]
abbrev p_lgcd : List Str := ["_law_one", "_law_two"]
theorem sc_lgcd : FnScope n_lgcd p_lgcd (defScope s_lgcd) := ⟨rfl, rfl, rfl, by decide +kernel, rfl, by decide +kernel, by decide +kernel⟩
def d_lgcd : He.DefD := ⟨("_law_gcd", none), "_law_gcd", "_law_gcd", defArgs s_lgcd, defBody s_lgcd, defScope s_lgcd, [], []⟩
/-- _law_hidden('_law_pen_here', '_law_figures'); cells: [] -/
abbrev s_lhidden : Stmt := top 41
abbrev n_lhidden : List Str := ["_law_pen_here", "_law_figures", "_law_road", "_law_p", "_law_q", "_law_c", "_law_both"]
abbrev p_lhidden : List Str := ["_law_pen_here", "_law_figures"]
theorem sc_lhidden : FnScope n_lhidden p_lhidden (defScope s_lhidden) := ⟨rfl, rfl, rfl, by decide +kernel, rfl, by decide +kernel, by decide +kernel⟩
def d_lhidden : He.DefD := ⟨("_law_hidden", none), "_law_hidden", "_law_hidden", defArgs s_lhidden, defBody s_lhidden, defScope s_lhidden, [], []⟩
/-- _law_count_at('_law_rule', '_law_t'); cells: [] -/
abbrev s_lcount_at : Stmt := top 42
abbrev n_lcount_at : List Str := ["_law_rule", "_law_t"]
abbrev p_lcount_at : List Str := ["_law_rule", "_law_t"]
theorem sc_lcount_at : FnScope n_lcount_at p_lcount_at (defScope s_lcount_at) := ⟨rfl, rfl, rfl, by decide +kernel, rfl, by decide +kernel, by decide +kernel⟩
def d_lcount_at : He.DefD := ⟨("_law_count_at", none), "_law_count_at", "_law_count_at", defArgs s_lcount_at, defBody s_lcount_at, defScope s_lcount_at, [], []⟩
/-- _law_records('_law_pen_here', '_law_rule', '_law_most', '_law_figures'); cells: [] -/
abbrev s_lrecords : Stmt := top 43
abbrev n_lrecords : List Str := ["_law_pen_here", "_law_rule", "_law_most", "_law_figures", "_law_result", "_law_sort", "_law_k", "_law_t", "_law_slack", "_law_kind", "_law_n"]
abbrev p_lrecords : List Str := ["_law_pen_here", "_law_rule", "_law_most", "_law_figures"]
theorem sc_lrecords : FnScope n_lrecords p_lrecords (defScope s_lrecords) := ⟨rfl, rfl, rfl, by decide +kernel, rfl, by decide +kernel, by decide +kernel⟩
def d_lrecords : He.DefD := ⟨("_law_records", none), "_law_records", "_law_records", defArgs s_lrecords, defBody s_lrecords, defScope s_lrecords, [], []⟩
/-- _law_loose('_law_pen_here', '_law_rule', '_law_many', '_law_figures'); cells: [] -/
abbrev s_lloose : Stmt := top 44
abbrev n_lloose : List Str := ["_law_pen_here", "_law_rule", "_law_many", "_law_figures", "_law_result", "_law_k", "_law_t", "_law_n", "_law_spare"]
abbrev p_lloose : List Str := ["_law_pen_here", "_law_rule", "_law_many", "_law_figures"]
theorem sc_lloose : FnScope n_lloose p_lloose (defScope s_lloose) := ⟨rfl, rfl, rfl, by decide +kernel, rfl, by decide +kernel, by decide +kernel⟩
def d_lloose : He.DefD := ⟨("_law_loose", none), "_law_loose", "_law_loose", defArgs s_lloose, defBody s_lloose, defScope s_lloose, [], []⟩
/-- _law_near('_law_pen_here', '_law_most'); cells: [] -/
abbrev s_lnear : Stmt := top 45
abbrev n_lnear : List Str := ["_law_pen_here", "_law_most", "_law_p", "_law_q", "_law_c", "_law_both", "_law_rule", "_law_result", "_law_t", "_law_wide"]
abbrev p_lnear : List Str := ["_law_pen_here", "_law_most"]
theorem sc_lnear : FnScope n_lnear p_lnear (defScope s_lnear) := ⟨rfl, rfl, rfl, by decide +kernel, rfl, by decide +kernel, by decide +kernel⟩
def d_lnear : He.DefD := ⟨("_law_near", none), "_law_near", "_law_near", defArgs s_lnear, defBody s_lnear, defScope s_lnear, [], []⟩
/-- _law_far('_law_pen_here',); cells: [] -/
abbrev s_lfar : Stmt := top 46
abbrev n_lfar : List Str := ["_law_pen_here", "_law_rule", "_law_t", "_law_wide", "_law_result"]
abbrev p_lfar : List Str := ["_law_pen_here"]
theorem sc_lfar : FnScope n_lfar p_lfar (defScope s_lfar) := ⟨rfl, rfl, rfl, by decide +kernel, rfl, by decide +kernel, by decide +kernel⟩
def d_lfar : He.DefD := ⟨("_law_far", none), "_law_far", "_law_far", defArgs s_lfar, defBody s_lfar, defScope s_lfar, [], []⟩
/-- _law_cycle('_law_pen_here',); cells: [] -/
abbrev s_lcycle : Stmt := top 47
abbrev n_lcycle : List Str := ["_law_pen_here", "_law_result", "_law_k"]
abbrev p_lcycle : List Str := ["_law_pen_here"]
theorem sc_lcycle : FnScope n_lcycle p_lcycle (defScope s_lcycle) := ⟨rfl, rfl, rfl, by decide +kernel, rfl, by decide +kernel, by decide +kernel⟩
def d_lcycle : He.DefD := ⟨("_law_cycle", none), "_law_cycle", "_law_cycle", defArgs s_lcycle, defBody s_lcycle, defScope s_lcycle, [], []⟩
/-- law('_law_script',); cells: ['_law_records_here', '_law_q'] -/
abbrev s_law : Stmt := top 48
abbrev n_law : List Str := ["_law_script", "_law_pen_here", "_law_turn", "_law_records_here", "_law_q", "_law_divisors", "_law_total", "_law_prime", "_law_due", "_law_d"]
abbrev p_law : List Str := ["_law_script"]
theorem sc_law : FnScope n_law p_law (defScope s_law) := ⟨rfl, rfl, rfl, by decide +kernel, rfl, by decide +kernel, by decide +kernel⟩
def d_law : He.DefD := ⟨("law", none), "law", "law", defArgs s_law, defBody s_law, defScope s_law, [], []⟩
def fn : List He.DefD := [d_is_integer, d_is_list, d_common_divisor, d_is_record, d_need_number, d_need_records, d_lowest_terms, d_is_less, d_RateBounds_init, d_RateBounds_tighten, d_RateBounds_is_empty, d_RateBounds_ends, d_ends_of, d_Line_init, d_Line_at, d_Line_next_below, d_lowest, d_lower_envelope, d_prime_factors, d_signed_divisors, d_Pairs_init, d_Pairs_total, d_Rules_init, d_Rules_number_to, d_Rules_number, d_count_pairs, d_count_rules, d_lpen, d_ldraw, d_lpick, d_lshuffled, d_lnatural, d_linteger, d_lgcd, d_lhidden, d_lcount_at, d_lrecords, d_lloose, d_lnear, d_lfar, d_lcycle, d_law]
def fa : List He.Fa := [.glo "is_integer", .glo "is_list", .glo "common_divisor", .glo "is_record", .glo "need_number", .glo "need_records", .glo "lowest_terms", .glo "is_less", .glo "ends_of", .glo "lowest", .glo "lower_envelope", .glo "prime_factors", .glo "signed_divisors", .glo "count_pairs", .glo "count_rules", .glo "_law_pen", .glo "_law_draw", .glo "_law_pick", .glo "_law_shuffled", .glo "_law_natural", .glo "_law_integer", .glo "_law_gcd", .glo "_law_hidden", .glo "_law_count_at", .glo "_law_records", .glo "_law_loose", .glo "_law_near", .glo "_law_far", .glo "_law_cycle", .glo "law", .glo "RateBounds", .glo "Line", .glo "Pairs", .glo "Rules", .glo "BOUNDS", .free "abs", .free "len", .free "max", .free "min", .free "sum", .free "range", .free "list", .free "isinstance", .free "enumerate", .free "int", .free "bool", .free "str", .free "tuple", .int "MOST_ITEMS" 200, .int "MOST_CYCLE" (1000000000000000000000000000000000000000000000000000000000000), .int "MOST_PARTED" 100000000, .cls "RateBounds", .mkr "RateBounds", .noat "RateBounds" "low", .noat "RateBounds" "low_pair", .noat "RateBounds" "high", .noat "RateBounds" "high_pair", .noat "RateBounds" "clash", .meth "RateBounds" "tighten", .meth "RateBounds" "is_empty", .meth "RateBounds" "ends", .cls "Line", .mkr "Line", .noat "Line" "slope", .noat "Line" "offset", .meth "Line" "at", .meth "Line" "next_below", .cls "Pairs", .mkr "Pairs", .noat "Pairs" "first", .noat "Pairs" "last", .noat "Pairs" "parts", .meth "Pairs" "total", .cls "Rules", .mkr "Rules", .noat "Rules" "pairs", .noat "Rules" "steps", .meth "Rules" "number_to", .meth "Rules" "number"]
def tf : List He.Defn := [("lowest", none)]
def ex (K : PySem.W.Frag) : Bool := He.tupB K "BOUNDS" [.str "at least", .str "at most"]
def loose : List Str := (["_wall", "LeapfitError", "InvalidNumber", "InvalidRecord", "NoRule", "Unbounded", "MOST_ITEMS", "BOUNDS", "is_integer", "is_list", "common_divisor", "is_record", "need_number", "need_records", "lowest_terms", "is_less", "RateBounds", "ends_of", "MOST_CYCLE", "MOST_PARTED", "Line"] : List Str) ++ (["lowest", "lower_envelope", "prime_factors", "signed_divisors", "Pairs", "Rules", "count_pairs", "count_rules", "_law_pen", "_law_draw", "_law_pick", "_law_shuffled", "_law_natural", "_law_integer", "_law_gcd", "_law_hidden", "_law_count_at", "_law_records", "_law_loose", "_law_near", "_law_far", "_law_cycle"] : List Str)
abbrev R : PySem.W.OpenRow := PySem.W.OpenLaw.row PySem.Challenge.rw_leapfit_k63_whole_pairs_of_multiples
abbrev lawAt : Nat := 48
end KN

/-! ## KH -/
set_option Elab.async false
set_option linter.all false
set_option maxRecDepth 100000
set_option maxHeartbeats 0
namespace KN
open PySem PySem.Spec PyProof.Rows L2
abbrev hk : PySem.W.Hook := He.hookX 4 fa fn [] tf ex
def ob (s : PySem.W.SharedT) : He.AlX := He.obsX 4 fa fn [] tf ex (HandSHeadRun.getT s)
theorem ob_eq (s : PySem.W.SharedT) : ob s = hk.obs s.abs := He.obsX_eq (HandSHeadRun.getT_eq s)
theorem run (w : World) : HandSHeadRun.RunEq R (PySem.W.view R.prog [lawAt]) hk ob 20000 loose w := by
  intro os
  kernel_rfl
end KN

/-! ## KL -/
set_option Elab.async false
set_option linter.all false
set_option maxRecDepth 100000
set_option maxHeartbeats 4000000
/-! min(xs, key=lambda x: (.., ..)): the lambda has one parameter and captured names, its answer is a pair of ints. -/
namespace KL
open PySem PySem.Spec PyProof.Rows L2 LamX NdefX

section
variable {X : Cx} {pins : List (Addr × Obj)} {σ : L2.St} {H : Hp} {s : Shared}
abbrev lf (X : Cx) (params : Arguments) (scope : Scope) (c' : Addr) : NF := ⟨"<lambda>", X.env.qual ++ "<lambda>", params, [], scope, cloFrom X.env.cells scope.names [], c'⟩
abbrev lo (X : Cx) (params : Arguments) (body : Expr) (scope : Scope) (c' : Addr) (pm ctv : Value) : Obj := PySem.W.kla_obj "<lambda>" (X.env.qual ++ "<lambda>") params body scope (cloFrom X.env.cells scope.names []) pm c' ctv

/-- the lambda is called, within a built-in -/
theorem lam_call {N ps fr : List Str} {js : List Nat} {f c' : Addr} {pm ctv : Value} {params : Arguments} {body : Expr} {scope : Scope} {us : List Value} {vs : List V} {Q : VK} {k : Nat} {tb : TE}
    (I : Inv X pins σ H s) (S : NScope N ps fr scope) (C : Caps X (cloFrom X.env.cells scope.names []) fr js) (hr : Room (k + 1) X.A.in1)
    (hf : s.heap.get? f = some (lo X params body scope c' pm ctv)) (hc : H c' = some (CodeO c' (X.env.qual ++ "<lambda>")))
    (hbind : bindArgs (PySem.W.kla_fn "<lambda>" (X.env.qual ++ "<lambda>") params body scope (cloFrom X.env.cells scope.names []) pm (.ref c') ctv) ⟨us, []⟩ = pure (ps.zip us))
    (hl : vs.length = ps.length) (r : Vals vs us)
    (hbody : ∀ (A : Around) (outer : List Env) (s : Shared) (H : Hp), Room k (A.deeper (envF (lf X params scope c') f s.heap.objs.size)) → PE (ncx CX0 X.prog X.w X.K X.mg X.base N (lf X params scope c') f A outer s H E0) body tb)
    (ht : tb (startF N vs (js.map (slotAt σ))) H Q) :
    wpAny (model X.prog X.w) X.A.in1 (call (.ref f) us) (fun v s' => CE X.stack X.prog X.w H s Q v s') (fun _ _ => False) s := by
  obtain ⟨⟨oc, vs', t, hoc, hdc, hvc⟩, _, _⟩ := I.hok c' _ hc
  have e0 := I.env0.in1
  have rc : codeAny (model X.prog X.w) X.A.in1 (.call (.ref f) ⟨us, []⟩) (CR CX0 X.stack X.prog X.w H s Q E0) s := by
    refine PySem.W.kla_callFunE hr.depth hf rfl S.co S.gen rfl ⟨c', oc, vs', t, rfl, hoc, hdc, hvc⟩ ?_
    rw [hbind]
    refine wpAny_pure (wpAny_newFunctionEnv S.nocell (fun ⟨n, _⟩ hy => S.par n (List.of_mem_zip hy).1) (fun h₁ hns hsb => ⟨I.nolimit.fresh _ hsb, ?_⟩) S.kind)
    show codeAny _ _ (.expr body (envF (lf X params scope c') f s.heap.objs.size)) _ _
    have kp : ∀ b o, s.heap.get? b = some o → h₁.get? b = some o := fun b o e => hsb.extBut b o (Nat.ne_of_lt (Heap.lt_size e)) (Heap.get?_push_of_some _ e)
    have J : Inv (ncx CX0 X.prog X.w X.K X.mg X.base N (lf X params scope c') f X.A.in1 X.stack s H E0) [] (startF N vs (js.map (slotAt σ))) H { s with heap := h₁, toks := s.toks + (ps.zip us).length } :=
      inv_startN S hr.hd e0 hl r (cells_of I C) hns kp
    refine PySem.W.kla_codeExpr (wpAny_mono ((hbody X.A.in1 X.stack s H (hr.deeper _)).run [] _ _ H Q J ht) (fun v s' hq => ?_) fun e s' hq => hq)
    obtain ⟨w', H', J', rv, q⟩ := hq
    exact ⟨w', H', J'.os, J'.bare, J'.base, J'.hok, rv, q⟩
  refine wpAny_call (codeAny_mono rc fun r s' hq => ?_)
  cases r with
  | error e => exact (show False from hq).elim
  | ok fl =>
    cases fl with
    | ret u => exact hq
    | next => exact False.elim hq
    | brk => exact False.elim hq
    | cont => exact False.elim hq

/-- the order of the keys -/
def kle (a b : Int × Int) : Prop := a.1 < b.1 ∨ (a.1 = b.1 ∧ a.2 ≤ b.2)
theorem kle_refl (a : Int × Int) : kle a a := .inr ⟨rfl, Int.le_refl _⟩
theorem kle_trans {a b c : Int × Int} (h1 : kle a b) (h2 : kle b c) : kle a c := by
  unfold kle at *
  omega
theorem lex2 (a b c d : Int) : HT.lexLt [a, b] [c, d] = decide (a < c ∨ (a = c ∧ b < d)) := by
  rw [HT.lexLt_cons]
  by_cases h : a = c
  · rw [if_pos h, HT.lexLt_cons]
    by_cases h2 : b = d
    · rw [if_pos h2, HT.lexLt_nil_nil, eq_comm, decide_eq_false]
      omega
    · rw [if_neg h2]
      by_cases h3 : b < d
      · rw [decide_eq_true h3, decide_eq_true (.inr ⟨h, h3⟩)]
      · rw [decide_eq_false h3, eq_comm, decide_eq_false]
        omega
  · rw [if_neg h]
    by_cases h3 : a < c
    · rw [decide_eq_true h3, decide_eq_true (.inl h3)]
    · rw [decide_eq_false h3, eq_comm, decide_eq_false]
      omega

/-- what stays of an object that the heap does not track and that is not a frame's -/
structure Raw (X : Cx) (H : Hp) (s : Shared) (b : Addr) (o : Obj) : Prop where
  at_ : s.heap.get? b = some o
  no : H b = none
theorem stk_of {b : Addr} (I : Inv X pins σ H s) (h : FpOk X pins H b) : b ∉ frs X.stack := fun z => by
  rcases List.mem_cons.mp (I.stkSub b z) with e | e
  · exact h.2.1 e
  · exact h.2.2.1 e
theorem FpOk.to {H' : Hp} {b : Addr} (h : FpOk X pins H b) (hn : H' b = none) : FpOk X pins H' b := ⟨hn, h.2⟩
theorem Inv.turn1 {t' : Nat} {it : Addr} {h' : Heap} (I : Inv X pins σ H s) (f : FpOk X pins H it) (k : ∀ b o, b ≠ it → s.heap.get? b = some o → h'.get? b = some o) : Inv X pins σ H { s with heap := h', toks := t' } :=
  I.turned k f.1 f.2.1 f.2.2.2.1 f.2.2.2.2.1 f.2.2.2.2.2
abbrev seqS (vb kb : Value) (c : Nat) : Obj := { cls := .type "list", dict := none, data := .seq #[vb, kb] c, slots := #[] }

/-- the lambda of the turn, by its contract -/
def TurnOk (X : Cx) (pins : List (Addr × Obj)) (σ : L2.St) (H0 : Hp) (f : Addr) (lam : Obj) (xs : List V) (kf : Nat → Int × Int) : Prop :=
  ∀ (i : Nat) (x : V) (u : Value) (H : Hp) (s : Shared), xs[i]? = some x → RelV x u → Inv X pins σ H s → Same H0 H → s.heap.get? f = some lam →
    wpAny (model X.prog X.w) X.A.in1 (call (.ref f) [u]) (fun v s' => CE X.stack X.prog X.w H s (fun v H' => Same H H' ∧ ∃ t, v = .ref t ∧ H' t = some (.tup [.int (kf i).1, .int (kf i).2])) v s') (fun _ _ => False) s

/-- between two turns of min's own loop -/
structure MS (X : Cx) (pins : List (Addr × Obj)) (σ : L2.St) (H0 : Hp) (f I S l : Addr) (lam : Obj) (xs : List V) (kf : Nat → Int × Int) (j i : Nat) (H : Hp) (s : Shared) : Prop where
  inv : Inv X pins σ H s
  same : Same H0 H
  rf : Raw X H s f lam
  ri : s.heap.IsListIter I l j ∧ H I = none
  rs : ∃ vb t c x, Raw X H s S (seqS vb (.ref t) c) ∧ xs[i]? = some x ∧ RelV x vb ∧ H t = some (.tup [.int (kf i).1, .int (kf i).2])

theorem min_loop {H0 : Hp} {f I S l : Addr} {lam : Obj} {xs : List V} {kf : Nat → Int × Int} {R : Result → Shared → Prop} (hc : X.calm = true) (hu : X.A.in1.units < cLine) (hl : SqL X.K H0 l xs) (nfI : f ≠ I) (nfS : f ≠ S) (nIS : I ≠ S) (nlI : l ≠ I)
    (ff : f ∉ frs X.stack) (fI : ∀ H, H I = none → FpOk X pins H I) (fS : ∀ H, H S = none → FpOk X pins H S) (turn : TurnOk X pins σ H0 f lam xs kf)
    (hR : ∀ i x u H s, xs[i]? = some x → (∀ j, j < xs.length → kle (kf i) (kf j)) → Inv X pins σ H s → Same H0 H → RelV x u → R (.ok (.ret u)) s) :
    ∀ (r j i : Nat) (H : Hp) (s : Shared), xs.length - (j + 1) = r → j + 1 ≤ xs.length → MS X pins σ H0 f I S l lam xs kf (j + 1) i H s → i ≤ j → (∀ j', j' ≤ j → kle (kf i) (kf j')) →
      codeAny (model X.prog X.w) X.A (.builtin "min.loop" ⟨[.ref I, .ref f, .ref S], []⟩) R s := by
  have hname : (toString "min" ++ toString ".loop" : String) = "min.loop" := by decide
  intro r
  induction r with
  | zero =>
    intro j i H s hr hj M hij hbest
    have hin : j + 1 = xs.length := by omega
    obtain ⟨vb, t, c, x, rs, hx, rv, ht⟩ := M.rs
    obtain ⟨its, ri, hL, _⟩ := M.inv.list (M.same.seq hl)
    have W := Walks.list (prog := X.prog) (w := X.w) (A := X.A.in1) (M.inv.ok.hd hc) I l nlI its.toArray
    have hsz : its.toArray.size = xs.length := by rw [List.size_toArray, ri.length]
    refine codeAny_builtin PySem.F.entry_min_loop ?_
    rw [Around.under_plainId PySem.F.plain_min_loop _]
    show wpAny _ X.A.in1 (seqItems? (.ref S) >>= _) _ _ s
    refine wpAny_bind (wpAny_seqItems rs.at_ rfl ?_)
    show wpAny _ X.A.in1 (tryCatch (pyNext (.ref I)) _ >>= _) _ _ s
    refine wpAny_bind (wpAny_tryCatch (W.done _ _ _ ⟨by rw [hsz, ← hin]; exact M.ri.1, hL.isList⟩ fun h' tk' hk' => ?_))
    have I1 := Inv.turn1 (t' := tk') M.inv (fI H M.ri.2) fun b o hb e => hk' b o (fun z => hb (List.mem_singleton.mp z)) e
    have hS' := hk' S _ (fun z => nIS (List.mem_singleton.mp z).symm) rs.at_
    have s1 := Heap.SameBut.update h' S (Obj.mapSeq fun _ => (#[] : Array Value))
    show wpAny _ X.A.in1 (updateSeq S (fun _ => #[]) >>= _) _ _ _
    refine wpAny_bind ?_
    refine wpAny_updateSeq hS' rfl (wpAny_bind (wpAny_letGo (wpAny_pure ?_)))
    exact hR i x vb H _ hx (fun j' hj' => hbest j' (by omega)) (Inv.turn1 (t' := tk') I1 (fS H rs.no) fun b o hb e => (s1.2 b hb).trans e) M.same rv
  | succ r ih =>
    intro j i H s hr hj M hij hbest
    have hlt : j + 1 < xs.length := by omega
    obtain ⟨vb, t, c, x, rs, hx, rv, ht⟩ := M.rs
    obtain ⟨its, ri, hL, _⟩ := M.inv.list (M.same.seq hl)
    have W := Walks.list (prog := X.prog) (w := X.w) (A := X.A.in1) (M.inv.ok.hd hc) I l nlI its.toArray
    have hsz : its.toArray.size = xs.length := by rw [List.size_toArray, ri.length]
    refine codeAny_builtin PySem.F.entry_min_loop ?_
    rw [Around.under_plainId PySem.F.plain_min_loop _]
    show wpAny _ X.A.in1 (seqItems? (.ref S) >>= _) _ _ s
    refine wpAny_bind (wpAny_seqItems rs.at_ rfl ?_)
    show wpAny _ X.A.in1 (tryCatch (pyNext (.ref I)) _ >>= _) _ _ s
    refine wpAny_bind (wpAny_tryCatch (W.item (j + 1) _ _ _ (by rw [hsz]; exact hlt) ⟨M.ri.1, hL.isList⟩ fun v h' tk' hP hst' hk' => ?_))
    have hv : its[j + 1]? = some v := by simpa using hP
    obtain ⟨y, hy⟩ : ∃ y, xs[j + 1]? = some y := ⟨xs[j + 1], List.getElem?_eq_getElem hlt⟩
    obtain ⟨v', hv', ry⟩ := ri.get hy
    have ev : v' = v := Option.some.inj (hv'.symm.trans hv)
    subst ev
    have I1 := Inv.turn1 (t' := tk') M.inv (fI H M.ri.2) fun b o hb e => hk' b o (fun z => hb (List.mem_singleton.mp z)) e
    have hf' := hk' f _ (fun z => nfI (List.mem_singleton.mp z)) M.rf.at_
    have hS' := hk' S _ (fun z => nIS (List.mem_singleton.mp z).symm) rs.at_
    obtain ⟨oI', hoI', hoc, hod⟩ := id hst'.1
    show wpAny _ X.A.in1 (tryCatch (holding [v'] (call (.ref f) [v'])) _ >>= _) _ _ _
    refine wpAny_bind (wpAny_tryCatch (wpAny_holding (wpAny_mono (turn (j + 1) y v' H _ hy ry I1 M.same hf') (fun kx s2 he => ?_) fun _ _ hF => hF.elim)))
    obtain ⟨kv, H2, os2, bare2, un2, hok2, rk, sm2, t2, rfl, ht2⟩ := he
    cases rk
    have I2 : Inv X pins σ H2 s2 := I1.call' (ch := []) os2 un2 hok2 bare2 (fun b z => absurd z (by simp))
    have kp : ∀ b o, H b = none → b ∉ frs X.stack → h'.get? b = some o → s2.heap.get? b = some o ∧ H2 b = none := fun b o n fb e =>
      ⟨un2.keep b o e n fb (by simp), un2.free b o e n (by simp)⟩
    obtain ⟨f2, f2n⟩ := kp f _ M.rf.no ff hf'
    obtain ⟨S2, S2n⟩ := kp S _ rs.no (stk_of M.inv (fS H rs.no)) hS'
    obtain ⟨i2, i2n⟩ := kp I _ M.ri.2 (stk_of M.inv (fI H M.ri.2)) hoI'
    have ht' : H2 t = some (.tup [.int (kf i).1, .int (kf i).2]) := sm2 _ _ ht
    obtain ⟨its1, r1, p1, _⟩ := I2.tuple (.inl (.inl ht2) : SqT X.K H2 t2 ([(kf (j + 1)).1, (kf (j + 1)).2].map V.int))
    obtain ⟨its2, r2, p2, _⟩ := I2.tuple (.inl (.inl ht') : SqT X.K H2 t ([(kf i).1, (kf i).2].map V.int))
    have i1 : IntsAre its1.toArray.toList [(kf (j + 1)).1, (kf (j + 1)).2] := intsAre_of r1
    have i2' : IntsAre its2.toArray.toList [(kf i).1, (kf i).2] := intsAre_of r2
    show wpAny _ X.A.in1 (tryCatch (holding [v', .ref t2] (compareOp .Lt (.ref t2) (.ref t) >>= _)) _ >>= _) _ _ _
    refine wpAny_bind (wpAny_tryCatch (wpAny_holding (wpAny_bind (HT.lt_tupInts p1 p2 i1 i2' hu ?_))))
    refine wpAny_bind (wpAny_holding (wpAny_truthy_bool ?_))
    refine wpAny_bind (wpAny_letGo (wpAny_pure ?_))
    rw [lex2]
    have hiter : s2.heap.IsListIter I l (j + 1 + 1) := ⟨oI', i2, hoc, hod⟩
    by_cases hb : (kf (j + 1)).1 < (kf i).1 ∨ ((kf (j + 1)).1 = (kf i).1 ∧ (kf (j + 1)).2 < (kf i).2)
    · simp only [decide_eq_true hb, if_true]
      have s1 := Heap.SameBut.update s2.heap S (Obj.mapSeq fun _ => #[v', .ref t2])
      obtain ⟨c2, hc2⟩ : ∃ c2, (s2.heap.update S (Obj.mapSeq fun _ => #[v', .ref t2])).get? S = some (seqObj "list" #[v', .ref t2] c2) := ⟨_, get?_update_seq S2 fun _ => #[v', .ref t2]⟩
      refine wpAny_bind ?_
      refine wpAny_updateSeq S2 rfl (wpAny_bind (wpAny_letGo ?_))
      rw [hname]
      refine wpAny_pure ⟨plainId_quiet PySem.F.plain_min_loop _, ih (j + 1) (j + 1) H2 _ (by omega) hlt ⟨Inv.turn1 (t' := s2.toks) I2 (fS H2 S2n) fun b o hb e => (s1.2 b hb).trans e, M.same.trans sm2, ⟨(s1.2 f nfS).trans f2, f2n⟩, ⟨⟨oI', (s1.2 I nIS).trans i2, hoc, hod⟩, i2n⟩,
        ⟨v', t2, c2, y, ⟨hc2, S2n⟩, hy, ry, ht2⟩⟩ (Nat.le_refl _) fun j' hj' => ?_⟩
      have k1 : kle (kf (j + 1)) (kf i) := by
        unfold kle
        omega
      by_cases e : j' = j + 1
      · rw [e]; exact kle_refl _
      · exact kle_trans k1 (hbest j' (by omega))
    · simp only [decide_eq_false hb, Bool.false_eq_true, if_false]
      refine wpAny_bind (wpAny_letGo ?_)
      rw [hname]
      refine wpAny_pure ⟨plainId_quiet PySem.F.plain_min_loop _, ih (j + 1) i H2 _ (by omega) hlt ⟨I2, M.same.trans sm2, ⟨f2, f2n⟩, ⟨hiter, i2n⟩, ⟨vb, t, c, x, ⟨S2, S2n⟩, hx, rv, ht'⟩⟩ (by omega) fun j' hj' => ?_⟩
      by_cases e : j' = j + 1
      · rw [e]
        unfold kle
        omega
      · exact hbest j' (by omega)
end
end KL

/-! ## KL2 -/
set_option Elab.async false
set_option linter.all false
set_option maxRecDepth 100000
set_option maxHeartbeats 4000000
namespace KL
open PySem PySem.Spec PyProof.Rows L2 LamX NdefX
section
variable {X : Cx} {pins : List (Addr × Obj)} {σ : L2.St} {H : Hp} {s : Shared}
/-- min(l, key=the lambda at f), l not empty -/
theorem min_run {f l : Addr} {lam : Obj} {xs : List V} {kf : Nat → Int × Int} {Q : VK} (hc : X.calm = true) (hu : X.A.in1.units < cLine) (I : Inv X pins σ H s) (hl : SqL X.K H l xs) (hx : xs ≠ [])
    (hf : s.heap.get? f = some lam) (hfn : H f = none) (hff : f ∉ frs X.stack) (turn : TurnOk X pins σ H f lam xs kf)
    (hQ : ∀ i x H', xs[i]? = some x → (∀ j, j < xs.length → kle (kf i) (kf j)) → Same H H' → Q x H') :
    wpAny (model X.prog X.w) X.A (call (.builtin "min") [.ref l] [(Str.ofString "key", .ref f)]) (EP X pins σ Q) X.xe s := by
  have hname : (toString "min" ++ toString ".loop" : String) = "min.loop" := by decide
  have hne : 0 < xs.length := List.length_pos_iff.mpr hx
  obtain ⟨its0, ri0, hL0, _⟩ := I.list hl
  obtain ⟨ol, hol, _⟩ := id hL0.isList
  have hll : l < s.heap.objs.size := Heap.lt_size hol
  have hlf : f < s.heap.objs.size := Heap.lt_size hf
  refine kmk_tree PySem.F.kind_min PySem.F.plain_min PySem.F.entry_min (kmk_min_key _ _) ?_
  show wpAny _ X.A.in1 (Builtin.Builtins.bindParams "min" ["key", "default"] 0 ⟨[], [(Str.ofString "key", .ref f)]⟩ >>= _) _ _ s
  refine wpAny_bind (wpAny_of_eq (show Builtin.Builtins.bindParams "min" ["key", "default"] 0 ⟨[], [(Str.ofString "key", .ref f)]⟩ = pure [some (.ref f), none] from rfl) ?_)
  refine wpAny_bind (wpAny_pure ?_)
  refine wpAny_bind (wpAny_pyIter_list hL0.isList ?_)
  refine wpAny_bind (wpAny_newList ?_ (Nat.zero_le _))
  rw [hname]
  have hS : (s.heap.push { cls := .type "list_iterator", data := .fields #[.ref l, .int 0 0] }).objs.size = s.heap.objs.size + 1 := size_push' ..
  generalize hit : s.heap.objs.size = it at hS hll hlf ⊢
  have I1 : Inv X pins σ H { s with heap := s.heap.push { cls := .type "list_iterator", data := .fields #[.ref l, .int 0 0] } } := I.kept (t' := s.toks) fun b o e => Heap.get?_push_of_some _ e
  have I2 : Inv X pins σ H { s with heap := (s.heap.push { cls := .type "list_iterator", data := .fields #[.ref l, .int 0 0] }).push (seqObj "list" #[] 0) } := I1.kept (t' := s.toks) fun b o e => Heap.get?_push_of_some _ e
  have nI : H it = none := I.hok.fresh (Nat.le_of_eq hit)
  have fI : ∀ H', H' it = none → FpOk X pins H' it := fun H' z => I.fpOk (Nat.le_of_eq hit) z
  have nS : H (s.heap.push { cls := .type "list_iterator", data := .fields #[.ref l, .int 0 0] }).objs.size = none := I1.hok.fresh (Nat.le_refl _)
  have fS : ∀ H', H' (s.heap.push { cls := .type "list_iterator", data := .fields #[.ref l, .int 0 0] }).objs.size = none → FpOk X pins H' (s.heap.push { cls := .type "list_iterator", data := .fields #[.ref l, .int 0 0] }).objs.size := fun H' z => I1.fpOk (Nat.le_refl _) z
  have gS : ((s.heap.push { cls := .type "list_iterator", data := .fields #[.ref l, .int 0 0] }).push (seqObj "list" #[] 0)).get? (s.heap.push { cls := .type "list_iterator", data := .fields #[.ref l, .int 0 0] }).objs.size = some (seqObj "list" #[] 0) := Heap.get?_push_size _ rfl
  have gI : ((s.heap.push { cls := .type "list_iterator", data := .fields #[.ref l, .int 0 0] }).push (seqObj "list" #[] 0)).get? it = some { cls := .type "list_iterator", data := .fields #[.ref l, .int 0 0] } := by
    rw [← hit]
    exact Heap.get?_push_of_some _ (Heap.get?_push_size _ rfl)
  have gf : ((s.heap.push { cls := .type "list_iterator", data := .fields #[.ref l, .int 0 0] }).push (seqObj "list" #[] 0)).get? f = some lam := Heap.get?_push_of_some _ (Heap.get?_push_of_some _ hf)
  rw [hS] at nS fS gS ⊢
  generalize hs2 : ({ s with heap := (s.heap.push { cls := .type "list_iterator", data := .fields #[.ref l, .int 0 0] }).push (seqObj "list" #[] 0) } : Shared) = s2 at I2 ⊢
  have e2 : s2.heap = (s.heap.push { cls := .type "list_iterator", data := .fields #[.ref l, .int 0 0] }).push (seqObj "list" #[] 0) := by rw [← hs2]
  rw [← e2] at gS gI gf
  have nfI : f ≠ it := Nat.ne_of_lt hlf
  have nfS : f ≠ it + 1 := Nat.ne_of_lt (Nat.lt_succ_of_lt hlf)
  have nIS : it ≠ it + 1 := Nat.ne_of_lt (Nat.lt_succ_self _)
  have nlI : l ≠ it := Nat.ne_of_lt hll
  refine wpAny_pure ⟨plainId_quiet PySem.F.plain_min_loop _, ?_⟩
  show codeAny (model X.prog X.w) X.A (.builtin "min.loop" ⟨[.ref it, .ref f, .ref (it + 1)], []⟩) _ s2
  obtain ⟨its, ri, hL, _⟩ := I2.list hl
  have W := Walks.list (prog := X.prog) (w := X.w) (A := X.A.in1) (I2.ok.hd hc) it l nlI its.toArray
  have hsz : its.toArray.size = xs.length := by rw [List.size_toArray, ri.length]
  refine codeAny_builtin PySem.F.entry_min_loop ?_
  rw [Around.under_plainId PySem.F.plain_min_loop _]
  show wpAny _ X.A.in1 (seqItems? (.ref (it + 1)) >>= _) _ _ _
  refine wpAny_bind (wpAny_seqItems gS rfl ?_)
  show wpAny _ X.A.in1 (tryCatch (pyNext (.ref it)) _ >>= _) _ _ _
  refine wpAny_bind (wpAny_tryCatch (W.item 0 _ _ _ (by rw [hsz]; exact hne) ⟨⟨_, gI, rfl, rfl⟩, hL.isList⟩ fun v h' tk' hP hst' hk' => ?_))
  have hv : its[0]? = some v := by simpa using hP
  obtain ⟨y, hy⟩ : ∃ y, xs[0]? = some y := ⟨xs[0], List.getElem?_eq_getElem hne⟩
  obtain ⟨v', hv', ry⟩ := ri.get hy
  have ev : v' = v := Option.some.inj (hv'.symm.trans hv)
  subst ev
  have I3 := Inv.turn1 (t' := tk') I2 (fI H nI) fun b o hb e => hk' b o (fun z => hb (List.mem_singleton.mp z)) e
  have hf' := hk' f _ (fun z => nfI (List.mem_singleton.mp z)) gf
  have hS' := hk' (it + 1) _ (fun z => nIS (List.mem_singleton.mp z).symm) gS
  obtain ⟨oI', hoI', hoc, hod⟩ := id hst'.1
  show wpAny _ X.A.in1 (tryCatch (holding [v'] (call (.ref f) [v'])) _ >>= _) _ _ _
  refine wpAny_bind (wpAny_tryCatch (wpAny_holding (wpAny_mono (turn 0 y v' H _ hy ry I3 (Same.refl H) hf') (fun kx s3 he => ?_) fun _ _ hF => hF.elim)))
  obtain ⟨kv, H3, os3, bare3, un3, hok3, rk, sm3, t3, rfl, ht3⟩ := he
  cases rk
  have I4 : Inv X pins σ H3 s3 := I3.call' (ch := []) os3 un3 hok3 bare3 (fun b z => absurd z (by simp))
  have kp : ∀ b o, H b = none → b ∉ frs X.stack → h'.get? b = some o → s3.heap.get? b = some o ∧ H3 b = none := fun b o n fb e =>
    ⟨un3.keep b o e n fb (by simp), un3.free b o e n (by simp)⟩
  obtain ⟨f3, f3n⟩ := kp f _ hfn hff hf'
  obtain ⟨S3, S3n⟩ := kp (it + 1) _ nS (stk_of I (fS H nS)) hS'
  obtain ⟨i3, i3n⟩ := kp it _ nI (stk_of I (fI H nI)) hoI'
  have s1 := Heap.SameBut.update s3.heap (it + 1) (Obj.mapSeq fun _ => #[v', .ref t3])
  obtain ⟨c2, hc2⟩ : ∃ c2, (s3.heap.update (it + 1) (Obj.mapSeq fun _ => #[v', .ref t3])).get? (it + 1) = some (seqObj "list" #[v', .ref t3] c2) := ⟨_, get?_update_seq S3 fun _ => #[v', .ref t3]⟩
  show wpAny _ X.A.in1 (updateSeq (it + 1) (fun _ => #[v', .ref t3]) >>= _) _ _ _
  refine wpAny_bind ?_
  refine wpAny_updateSeq S3 rfl ?_
  rw [hname]
  refine wpAny_pure ⟨plainId_quiet PySem.F.plain_min_loop _, min_loop (xs := xs) (kf := kf) hc hu hl nfI nfS nIS nlI hff fI fS turn (fun i x u H' s' h1 h2 h3 h4 h5 => ⟨x, H', h3, h5, hQ i x H' h1 h2 h4⟩) _ 0 0 H3 _ rfl hne
    ⟨Inv.turn1 (t' := s3.toks) I4 (fS H3 S3n) fun b o hb e => (s1.2 b hb).trans e, sm3, ⟨(s1.2 f nfS).trans f3, f3n⟩, ⟨⟨oI', (s1.2 it nIS).trans i3, hoc, hod⟩, i3n⟩, ⟨v', t3, c2, y, ⟨hc2, S3n⟩, hy, ry, ht3⟩⟩ (Nat.le_refl _) fun j' hj' => ?_⟩
  have e : j' = 0 := by omega
  rw [e]
  exact kle_refl _

/-- the reading of min(e, key=lambda x: ..) -/
def tMinLam (T : List (Addr × Str)) (K : PySem.W.Frag) (N : List Str) (js : List Nat) (t : TA) (tb : TE) : TE := fun σ H Q => t σ H fun vs H0 => Tabs T H0 ∧ ∀ H1, ExtN H0 H1 → Tabs T H1 → ∃ (l : Addr) (xs : List V) (kf : Nat → Int × Int),
  vs = [.ref l] ∧ SqL K H1 l xs ∧ xs ≠ [] ∧ (∀ i x H2, xs[i]? = some x → Same H1 H2 → tb (startF N [x] (js.map (slotAt σ))) H2 fun v H3 => Same H2 H3 ∧ ∃ t, v = .ref t ∧ H3 t = some (.tup [.int (kf i).1, .int (kf i).2])) ∧
  ∀ i x H2, xs[i]? = some x → (∀ j, j < xs.length → kle (kf i) (kf j)) → Same H1 H2 → Q x H2

theorem pe_minLam {T : List (Addr × Str)} {c P : Addr} {k : Nat} {N fr : List Str} {js : List Nat} {a : Str} {e : Expr} {t : TA} {tb : TE} {params : Arguments} {body : Expr} {scope : Scope} {p lpos kpos pos : Pos}
    (hc : X.calm = true) (hg : Gl X "min") (hm : X.mg "min" = none) (ha : PA X [e] t) (TB : TabB X.base X.mg c P) (hcode : X.env.code = .ref c) (hmT : (P, X.env.qual ++ "<lambda>") ∈ T) (hu : ∀ p ∈ T, p.1 = P → p.2 = X.env.qual ++ "<lambda>")
    (hr : Room (k + 2) X.A) (S : NScope N [a] fr scope) (hfree : ∀ y ∈ scope.names, y.2 = .free → X.env.scope.names.lookup y.1 = some .cell ∨ X.env.scope.names.lookup y.1 = some .free) (hfr : ∀ y ∈ fr, (y, NameKind.free) ∈ scope.names)
    (hjs : js.map (fun j => X.N[j]?) = fr.map some) (hdef : defaultsOf params X.env = ([], []))
    (hbind : ∀ (q : Str) (cl : List (Str × Addr)) (pm cv ctv u : Value), bindArgs (PySem.W.kla_fn "<lambda>" q params body scope cl pm cv ctv) ⟨[u], []⟩ = pure [(a, u)])
    (hbody : ∀ (c' f : Addr) (A : Around) (outer : List Env) (s : Shared) (H : Hp), Room k (A.deeper (envF (lf X params scope c') f s.heap.objs.size)) → PE (ncx CX0 X.prog X.w X.K X.mg X.base N (lf X params scope c') f A outer s H E0) body tb)
    (he : backTo pos (starEach [e] X.env) = (false, eval e X.env) :: backTo pos (starEach [] X.env) := by rfl) (hpl : (backTo pos (starEach [e] X.env)).any (·.1) = false := by rfl) :
    PE X (.Call (.Name "min" p) [e] [⟨some "key", .Lambda params body scope lpos, kpos⟩] pos) (tMinLam T X.K N js t tb) := by
  refine ⟨fun pins s σ H Q I h => ?_⟩
  have hfr' : ∀ y ∈ scope.names, y.2 = .free → ∃ c, X.env.cells.lookup y.1 = some c := fun y hy z => (hfree y hy z).elim (fun z => I.ok.has _ (.inl z)) fun z => I.ok.has _ (.inr z)
  refine wpAny_Call_Name_kw (ld_blt I hg hm (by decide +kernel : bootBuiltins "min" = some (.builtin "min")) ?_)
  refine callWith_kw (thn (ha.run pos pins s σ H _ I h) fun us s1 ⟨vs, H0, I1, r1, hT, q⟩ => ?_) he hpl (by rfl) (by rfl)
  show wpAny _ _ (evalAll [(do let v ← eval (.Lambda params body scope lpos) X.env; standAt pos; pure v)]) _ _ s1
  refine wpAny_evalAll_cons (wpAny_bind (lam_make2 I1 TB hcode hmT hu hT hdef hfr' fun f c' pm ctv H1 s2 I2 eN T1 hf hfn hfst hco => ?_))
  refine wpAny_bind (wpAny_standAt (wpAny_pure (wpAny_evalAll_nil ?_)))
  obtain ⟨l, xs, kf, rfl, hl, hx, hturn, hQ⟩ := q H1 eN T1
  obtain ⟨u, rfl, ru⟩ := vals1 r1
  cases ru
  show wpAny _ _ (call (.builtin "min") [.ref l] [(Str.ofString "key", .ref f)]) _ _ s2
  have C := Caps.made (X := X) (scope := scope) (fr := fr) (js := js) I2.ok hfree hfr hjs
  refine min_run hc (by have := hr.un; show X.A.units + 1 < cLine; omega) I2 hl hx hf hfn hfst (fun i x u H2 s3 hi ru I3 sm hf3 => ?_) hQ
  have hco3 : H2 c' = some (CodeO c' (X.env.qual ++ "<lambda>")) := sm _ _ hco
  exact lam_call (fr := fr) (js := js) (k := k) (tb := tb) I3 S C hr.in1 hf3 hco3 (hbind _ _ _ _ _ u) rfl (.cons ru .nil) (fun A outer s H hr2 => hbody c' f A outer s H hr2) (hturn i x H2 hi sm)
end
end KL

/-! ## KC -/
set_option Elab.async false
set_option linter.all false
set_option maxRecDepth 100000
set_option maxHeartbeats 4000000
/-! The words of this proof: what the top left, calls by name, heaps. -/
namespace KN
open PySem PySem.Spec PyProof.Rows L2 LamX

/-- what the top left -/
structure Tx (K : PySem.W.Frag) (mg : Str → Option Value) : Prop where
  ex : ∃ h : Heap, K.In h ∧ h.Ns mainGlobals mg
  says : He.SaysD fa fn K
  bnd : KN.ex K = true
section
variable {K : PySem.W.Frag} {mg : Str → Option Value}
theorem Tx.free (T : Tx K mg) (i : Nat) {x : Str} (h : fa[i]? = some (.free x) := by rfl) : mg x = none := by
  obtain ⟨h0, X, G⟩ := T.ex
  exact He.free_ok X G (T.says.fact i h)
theorem Tx.glo (T : Tx K mg) (i : Nat) {x : Str} (h : fa[i]? = some (.glo x) := by rfl) : mg x = some (.ref (He.ga K x)) := by
  obtain ⟨h0, X, G⟩ := T.ex
  exact He.glo_ok X G (T.says.fact i h)
theorem Tx.int_ (T : Tx K mg) (i : Nat) {x : Str} {n : Int} (h : fa[i]? = some (.int x n) := by rfl) : ∃ t, mg x = some (.int n t) := by
  obtain ⟨h0, X, G⟩ := T.ex
  exact He.int_ok X G (T.says.fact i h)
theorem Tx.cls (T : Tx K mg) (i : Nat) {x : Str} (h : fa[i]? = some (.cls x) := by rfl) : Cls K (He.ga K x) := He.cls_ok (T.says.fact i h)
theorem Tx.noat (T : Tx K mg) (i : Nat) {x f : Str} (h : fa[i]? = some (.noat x f) := by rfl) : NoAttr K (He.ga K x) f := He.noat_ok (T.says.fact i h)
theorem Tx.meth (T : Tx K mg) (i : Nat) {x m : Str} (h : fa[i]? = some (.meth x m) := by rfl) : Meth K (He.ga K x) m (He.ma K (He.ga K x) m) := He.meth_ok (T.says.fact i h)
theorem Tx.mkr (T : Tx K mg) (i : Nat) {x : Str} (h : fa[i]? = some (.mkr x) := by rfl) : Mk K (He.ga K x) (He.ma K (He.ga K x) "__init__") := He.mkr_ok (T.says.fact i h)
theorem g_is_integer (T : Tx K mg) : mg "is_integer" = some (.ref (He.ga K "is_integer")) := T.glo 0
theorem g_is_list (T : Tx K mg) : mg "is_list" = some (.ref (He.ga K "is_list")) := T.glo 1
theorem g_common_divisor (T : Tx K mg) : mg "common_divisor" = some (.ref (He.ga K "common_divisor")) := T.glo 2
theorem g_is_record (T : Tx K mg) : mg "is_record" = some (.ref (He.ga K "is_record")) := T.glo 3
theorem g_need_number (T : Tx K mg) : mg "need_number" = some (.ref (He.ga K "need_number")) := T.glo 4
theorem g_need_records (T : Tx K mg) : mg "need_records" = some (.ref (He.ga K "need_records")) := T.glo 5
theorem g_lowest_terms (T : Tx K mg) : mg "lowest_terms" = some (.ref (He.ga K "lowest_terms")) := T.glo 6
theorem g_is_less (T : Tx K mg) : mg "is_less" = some (.ref (He.ga K "is_less")) := T.glo 7
theorem g_ends_of (T : Tx K mg) : mg "ends_of" = some (.ref (He.ga K "ends_of")) := T.glo 8
theorem g_lowest (T : Tx K mg) : mg "lowest" = some (.ref (He.ga K "lowest")) := T.glo 9
theorem g_lower_envelope (T : Tx K mg) : mg "lower_envelope" = some (.ref (He.ga K "lower_envelope")) := T.glo 10
theorem g_prime_factors (T : Tx K mg) : mg "prime_factors" = some (.ref (He.ga K "prime_factors")) := T.glo 11
theorem g_signed_divisors (T : Tx K mg) : mg "signed_divisors" = some (.ref (He.ga K "signed_divisors")) := T.glo 12
theorem g_count_pairs (T : Tx K mg) : mg "count_pairs" = some (.ref (He.ga K "count_pairs")) := T.glo 13
theorem g_count_rules (T : Tx K mg) : mg "count_rules" = some (.ref (He.ga K "count_rules")) := T.glo 14
theorem g_lpen (T : Tx K mg) : mg "_law_pen" = some (.ref (He.ga K "_law_pen")) := T.glo 15
theorem g_ldraw (T : Tx K mg) : mg "_law_draw" = some (.ref (He.ga K "_law_draw")) := T.glo 16
theorem g_lpick (T : Tx K mg) : mg "_law_pick" = some (.ref (He.ga K "_law_pick")) := T.glo 17
theorem g_lshuffled (T : Tx K mg) : mg "_law_shuffled" = some (.ref (He.ga K "_law_shuffled")) := T.glo 18
theorem g_lnatural (T : Tx K mg) : mg "_law_natural" = some (.ref (He.ga K "_law_natural")) := T.glo 19
theorem g_linteger (T : Tx K mg) : mg "_law_integer" = some (.ref (He.ga K "_law_integer")) := T.glo 20
theorem g_lgcd (T : Tx K mg) : mg "_law_gcd" = some (.ref (He.ga K "_law_gcd")) := T.glo 21
theorem g_lhidden (T : Tx K mg) : mg "_law_hidden" = some (.ref (He.ga K "_law_hidden")) := T.glo 22
theorem g_lcount_at (T : Tx K mg) : mg "_law_count_at" = some (.ref (He.ga K "_law_count_at")) := T.glo 23
theorem g_lrecords (T : Tx K mg) : mg "_law_records" = some (.ref (He.ga K "_law_records")) := T.glo 24
theorem g_lloose (T : Tx K mg) : mg "_law_loose" = some (.ref (He.ga K "_law_loose")) := T.glo 25
theorem g_lnear (T : Tx K mg) : mg "_law_near" = some (.ref (He.ga K "_law_near")) := T.glo 26
theorem g_lfar (T : Tx K mg) : mg "_law_far" = some (.ref (He.ga K "_law_far")) := T.glo 27
theorem g_lcycle (T : Tx K mg) : mg "_law_cycle" = some (.ref (He.ga K "_law_cycle")) := T.glo 28
theorem g_law (T : Tx K mg) : mg "law" = some (.ref (He.ga K "law")) := T.glo 29
theorem g_RateBounds (T : Tx K mg) : mg "RateBounds" = some (.ref (He.ga K "RateBounds")) := T.glo 30
theorem g_Line (T : Tx K mg) : mg "Line" = some (.ref (He.ga K "Line")) := T.glo 31
theorem g_Pairs (T : Tx K mg) : mg "Pairs" = some (.ref (He.ga K "Pairs")) := T.glo 32
theorem g_Rules (T : Tx K mg) : mg "Rules" = some (.ref (He.ga K "Rules")) := T.glo 33
theorem g_BOUNDS (T : Tx K mg) : mg "BOUNDS" = some (.ref (He.ga K "BOUNDS")) := T.glo 34
theorem t_abs (T : Tx K mg) : mg "abs" = none := T.free 35
theorem t_len (T : Tx K mg) : mg "len" = none := T.free 36
theorem t_max (T : Tx K mg) : mg "max" = none := T.free 37
theorem t_min (T : Tx K mg) : mg "min" = none := T.free 38
theorem t_sum (T : Tx K mg) : mg "sum" = none := T.free 39
theorem t_range (T : Tx K mg) : mg "range" = none := T.free 40
theorem t_list (T : Tx K mg) : mg "list" = none := T.free 41
theorem t_isinstance (T : Tx K mg) : mg "isinstance" = none := T.free 42
theorem t_enumerate (T : Tx K mg) : mg "enumerate" = none := T.free 43
theorem t_int (T : Tx K mg) : mg "int" = none := T.free 44
theorem t_bool (T : Tx K mg) : mg "bool" = none := T.free 45
theorem t_str (T : Tx K mg) : mg "str" = none := T.free 46
theorem t_tuple (T : Tx K mg) : mg "tuple" = none := T.free 47
theorem i_MOST_ITEMS (T : Tx K mg) : ∃ t, mg "MOST_ITEMS" = some (.int 200 t) := T.int_ 48
theorem i_MOST_CYCLE (T : Tx K mg) : ∃ t, mg "MOST_CYCLE" = some (.int 1000000000000000000000000000000000000000000000000000000000000 t) := T.int_ 49
theorem i_MOST_PARTED (T : Tx K mg) : ∃ t, mg "MOST_PARTED" = some (.int 100000000 t) := T.int_ 50
theorem c_RateBounds (T : Tx K mg) : Cls K (He.ga K "RateBounds") := T.cls 51
theorem k_RateBounds (T : Tx K mg) : Mk K (He.ga K "RateBounds") (He.ma K (He.ga K "RateBounds") "__init__") := T.mkr 52
theorem a_RateBounds_low (T : Tx K mg) : NoAttr K (He.ga K "RateBounds") "low" := T.noat 53
theorem a_RateBounds_low_pair (T : Tx K mg) : NoAttr K (He.ga K "RateBounds") "low_pair" := T.noat 54
theorem a_RateBounds_high (T : Tx K mg) : NoAttr K (He.ga K "RateBounds") "high" := T.noat 55
theorem a_RateBounds_high_pair (T : Tx K mg) : NoAttr K (He.ga K "RateBounds") "high_pair" := T.noat 56
theorem a_RateBounds_clash (T : Tx K mg) : NoAttr K (He.ga K "RateBounds") "clash" := T.noat 57
theorem m_RateBounds_tighten (T : Tx K mg) : Meth K (He.ga K "RateBounds") "tighten" (He.ma K (He.ga K "RateBounds") "tighten") := T.meth 58
theorem m_RateBounds_is_empty (T : Tx K mg) : Meth K (He.ga K "RateBounds") "is_empty" (He.ma K (He.ga K "RateBounds") "is_empty") := T.meth 59
theorem m_RateBounds_ends (T : Tx K mg) : Meth K (He.ga K "RateBounds") "ends" (He.ma K (He.ga K "RateBounds") "ends") := T.meth 60
theorem c_Line (T : Tx K mg) : Cls K (He.ga K "Line") := T.cls 61
theorem k_Line (T : Tx K mg) : Mk K (He.ga K "Line") (He.ma K (He.ga K "Line") "__init__") := T.mkr 62
theorem a_Line_slope (T : Tx K mg) : NoAttr K (He.ga K "Line") "slope" := T.noat 63
theorem a_Line_offset (T : Tx K mg) : NoAttr K (He.ga K "Line") "offset" := T.noat 64
theorem m_Line_at (T : Tx K mg) : Meth K (He.ga K "Line") "at" (He.ma K (He.ga K "Line") "at") := T.meth 65
theorem m_Line_next_below (T : Tx K mg) : Meth K (He.ga K "Line") "next_below" (He.ma K (He.ga K "Line") "next_below") := T.meth 66
theorem c_Pairs (T : Tx K mg) : Cls K (He.ga K "Pairs") := T.cls 67
theorem k_Pairs (T : Tx K mg) : Mk K (He.ga K "Pairs") (He.ma K (He.ga K "Pairs") "__init__") := T.mkr 68
theorem a_Pairs_first (T : Tx K mg) : NoAttr K (He.ga K "Pairs") "first" := T.noat 69
theorem a_Pairs_last (T : Tx K mg) : NoAttr K (He.ga K "Pairs") "last" := T.noat 70
theorem a_Pairs_parts (T : Tx K mg) : NoAttr K (He.ga K "Pairs") "parts" := T.noat 71
theorem m_Pairs_total (T : Tx K mg) : Meth K (He.ga K "Pairs") "total" (He.ma K (He.ga K "Pairs") "total") := T.meth 72
theorem c_Rules (T : Tx K mg) : Cls K (He.ga K "Rules") := T.cls 73
theorem k_Rules (T : Tx K mg) : Mk K (He.ga K "Rules") (He.ma K (He.ga K "Rules") "__init__") := T.mkr 74
theorem a_Rules_pairs (T : Tx K mg) : NoAttr K (He.ga K "Rules") "pairs" := T.noat 75
theorem a_Rules_steps (T : Tx K mg) : NoAttr K (He.ga K "Rules") "steps" := T.noat 76
theorem m_Rules_number_to (T : Tx K mg) : Meth K (He.ga K "Rules") "number_to" (He.ma K (He.ga K "Rules") "number_to") := T.meth 77
theorem m_Rules_number (T : Tx K mg) : Meth K (He.ga K "Rules") "number" (He.ma K (He.ga K "Rules") "number") := T.meth 78
theorem f_is_integer (T : Tx K mg) : ∃ fd, FunD K "is_integer" "is_integer" (defArgs s_is_integer) (defBody s_is_integer) (defScope s_is_integer) [] [] (He.ga K "is_integer") fd := T.says.def_ 0 (d := d_is_integer)
theorem f_is_list (T : Tx K mg) : ∃ fd, FunD K "is_list" "is_list" (defArgs s_is_list) (defBody s_is_list) (defScope s_is_list) [] [] (He.ga K "is_list") fd := T.says.def_ 1 (d := d_is_list)
theorem f_common_divisor (T : Tx K mg) : ∃ fd, FunD K "common_divisor" "common_divisor" (defArgs s_common_divisor) (defBody s_common_divisor) (defScope s_common_divisor) [] [] (He.ga K "common_divisor") fd := T.says.def_ 2 (d := d_common_divisor)
theorem f_is_record (T : Tx K mg) : ∃ fd, FunD K "is_record" "is_record" (defArgs s_is_record) (defBody s_is_record) (defScope s_is_record) [] [] (He.ga K "is_record") fd := T.says.def_ 3 (d := d_is_record)
theorem f_need_number (T : Tx K mg) : ∃ fd, FunD K "need_number" "need_number" (defArgs s_need_number) (defBody s_need_number) (defScope s_need_number) ([.non, .non] : List V) [] (He.ga K "need_number") fd := T.says.def_ 4 (d := d_need_number)
theorem f_need_records (T : Tx K mg) : ∃ fd, FunD K "need_records" "need_records" (defArgs s_need_records) (defBody s_need_records) (defScope s_need_records) [] [] (He.ga K "need_records") fd := T.says.def_ 5 (d := d_need_records)
theorem f_lowest_terms (T : Tx K mg) : ∃ fd, FunD K "lowest_terms" "lowest_terms" (defArgs s_lowest_terms) (defBody s_lowest_terms) (defScope s_lowest_terms) [] [] (He.ga K "lowest_terms") fd := T.says.def_ 6 (d := d_lowest_terms)
theorem f_is_less (T : Tx K mg) : ∃ fd, FunD K "is_less" "is_less" (defArgs s_is_less) (defBody s_is_less) (defScope s_is_less) [] [] (He.ga K "is_less") fd := T.says.def_ 7 (d := d_is_less)
theorem f_RateBounds_init (T : Tx K mg) : ∃ fd, FunD K "__init__" "RateBounds.__init__" (defArgs s_RateBounds_init) (defBody s_RateBounds_init) (defScope s_RateBounds_init) [] [] (He.ma K (He.ga K "RateBounds") "__init__") fd := T.says.def_ 8 (d := d_RateBounds_init)
theorem f_RateBounds_tighten (T : Tx K mg) : ∃ fd, FunD K "tighten" "RateBounds.tighten" (defArgs s_RateBounds_tighten) (defBody s_RateBounds_tighten) (defScope s_RateBounds_tighten) [] [] (He.ma K (He.ga K "RateBounds") "tighten") fd := T.says.def_ 9 (d := d_RateBounds_tighten)
theorem f_RateBounds_is_empty (T : Tx K mg) : ∃ fd, FunD K "is_empty" "RateBounds.is_empty" (defArgs s_RateBounds_is_empty) (defBody s_RateBounds_is_empty) (defScope s_RateBounds_is_empty) [] [] (He.ma K (He.ga K "RateBounds") "is_empty") fd := T.says.def_ 10 (d := d_RateBounds_is_empty)
theorem f_RateBounds_ends (T : Tx K mg) : ∃ fd, FunD K "ends" "RateBounds.ends" (defArgs s_RateBounds_ends) (defBody s_RateBounds_ends) (defScope s_RateBounds_ends) [] [] (He.ma K (He.ga K "RateBounds") "ends") fd := T.says.def_ 11 (d := d_RateBounds_ends)
theorem f_ends_of (T : Tx K mg) : ∃ fd, FunD K "ends_of" "ends_of" (defArgs s_ends_of) (defBody s_ends_of) (defScope s_ends_of) [] [] (He.ga K "ends_of") fd := T.says.def_ 12 (d := d_ends_of)
theorem f_Line_init (T : Tx K mg) : ∃ fd, FunD K "__init__" "Line.__init__" (defArgs s_Line_init) (defBody s_Line_init) (defScope s_Line_init) [] [] (He.ma K (He.ga K "Line") "__init__") fd := T.says.def_ 13 (d := d_Line_init)
theorem f_Line_at (T : Tx K mg) : ∃ fd, FunD K "at" "Line.at" (defArgs s_Line_at) (defBody s_Line_at) (defScope s_Line_at) [] [] (He.ma K (He.ga K "Line") "at") fd := T.says.def_ 14 (d := d_Line_at)
theorem f_Line_next_below (T : Tx K mg) : ∃ fd, FunD K "next_below" "Line.next_below" (defArgs s_Line_next_below) (defBody s_Line_next_below) (defScope s_Line_next_below) [] [] (He.ma K (He.ga K "Line") "next_below") fd := T.says.def_ 15 (d := d_Line_next_below)
theorem f_lowest (T : Tx K mg) : ∃ fd, FunD K "lowest" "lowest" (defArgs s_lowest) (defBody s_lowest) (defScope s_lowest) [] [] (He.ga K "lowest") fd := T.says.def_ 16 (d := d_lowest)
theorem f_lower_envelope (T : Tx K mg) : ∃ fd, FunD K "lower_envelope" "lower_envelope" (defArgs s_lower_envelope) (defBody s_lower_envelope) (defScope s_lower_envelope) [] [] (He.ga K "lower_envelope") fd := T.says.def_ 17 (d := d_lower_envelope)
theorem f_prime_factors (T : Tx K mg) : ∃ fd, FunD K "prime_factors" "prime_factors" (defArgs s_prime_factors) (defBody s_prime_factors) (defScope s_prime_factors) [] [] (He.ga K "prime_factors") fd := T.says.def_ 18 (d := d_prime_factors)
theorem f_signed_divisors (T : Tx K mg) : ∃ fd, FunD K "signed_divisors" "signed_divisors" (defArgs s_signed_divisors) (defBody s_signed_divisors) (defScope s_signed_divisors) [] [] (He.ga K "signed_divisors") fd := T.says.def_ 19 (d := d_signed_divisors)
theorem f_Pairs_init (T : Tx K mg) : ∃ fd, FunD K "__init__" "Pairs.__init__" (defArgs s_Pairs_init) (defBody s_Pairs_init) (defScope s_Pairs_init) [] [] (He.ma K (He.ga K "Pairs") "__init__") fd := T.says.def_ 20 (d := d_Pairs_init)
theorem f_Pairs_total (T : Tx K mg) : ∃ fd, FunD K "total" "Pairs.total" (defArgs s_Pairs_total) (defBody s_Pairs_total) (defScope s_Pairs_total) [] [] (He.ma K (He.ga K "Pairs") "total") fd := T.says.def_ 21 (d := d_Pairs_total)
theorem f_Rules_init (T : Tx K mg) : ∃ fd, FunD K "__init__" "Rules.__init__" (defArgs s_Rules_init) (defBody s_Rules_init) (defScope s_Rules_init) [] [] (He.ma K (He.ga K "Rules") "__init__") fd := T.says.def_ 22 (d := d_Rules_init)
theorem f_Rules_number_to (T : Tx K mg) : ∃ fd, FunD K "number_to" "Rules.number_to" (defArgs s_Rules_number_to) (defBody s_Rules_number_to) (defScope s_Rules_number_to) [] [] (He.ma K (He.ga K "Rules") "number_to") fd := T.says.def_ 23 (d := d_Rules_number_to)
theorem f_Rules_number (T : Tx K mg) : ∃ fd, FunD K "number" "Rules.number" (defArgs s_Rules_number) (defBody s_Rules_number) (defScope s_Rules_number) [] [] (He.ma K (He.ga K "Rules") "number") fd := T.says.def_ 24 (d := d_Rules_number)
theorem f_count_pairs (T : Tx K mg) : ∃ fd, FunD K "count_pairs" "count_pairs" (defArgs s_count_pairs) (defBody s_count_pairs) (defScope s_count_pairs) [] [] (He.ga K "count_pairs") fd := T.says.def_ 25 (d := d_count_pairs)
theorem f_count_rules (T : Tx K mg) : ∃ fd, FunD K "count_rules" "count_rules" (defArgs s_count_rules) (defBody s_count_rules) (defScope s_count_rules) [] [] (He.ga K "count_rules") fd := T.says.def_ 26 (d := d_count_rules)
theorem f_lpen (T : Tx K mg) : ∃ fd, FunD K "_law_pen" "_law_pen" (defArgs s_lpen) (defBody s_lpen) (defScope s_lpen) [] [] (He.ga K "_law_pen") fd := T.says.def_ 27 (d := d_lpen)
theorem f_ldraw (T : Tx K mg) : ∃ fd, FunD K "_law_draw" "_law_draw" (defArgs s_ldraw) (defBody s_ldraw) (defScope s_ldraw) [] [] (He.ga K "_law_draw") fd := T.says.def_ 28 (d := d_ldraw)
theorem f_lpick (T : Tx K mg) : ∃ fd, FunD K "_law_pick" "_law_pick" (defArgs s_lpick) (defBody s_lpick) (defScope s_lpick) [] [] (He.ga K "_law_pick") fd := T.says.def_ 29 (d := d_lpick)
theorem f_lshuffled (T : Tx K mg) : ∃ fd, FunD K "_law_shuffled" "_law_shuffled" (defArgs s_lshuffled) (defBody s_lshuffled) (defScope s_lshuffled) [] [] (He.ga K "_law_shuffled") fd := T.says.def_ 30 (d := d_lshuffled)
theorem f_lnatural (T : Tx K mg) : ∃ fd, FunD K "_law_natural" "_law_natural" (defArgs s_lnatural) (defBody s_lnatural) (defScope s_lnatural) [] [] (He.ga K "_law_natural") fd := T.says.def_ 31 (d := d_lnatural)
theorem f_linteger (T : Tx K mg) : ∃ fd, FunD K "_law_integer" "_law_integer" (defArgs s_linteger) (defBody s_linteger) (defScope s_linteger) [] [] (He.ga K "_law_integer") fd := T.says.def_ 32 (d := d_linteger)
theorem f_lgcd (T : Tx K mg) : ∃ fd, FunD K "_law_gcd" "_law_gcd" (defArgs s_lgcd) (defBody s_lgcd) (defScope s_lgcd) [] [] (He.ga K "_law_gcd") fd := T.says.def_ 33 (d := d_lgcd)
theorem f_lhidden (T : Tx K mg) : ∃ fd, FunD K "_law_hidden" "_law_hidden" (defArgs s_lhidden) (defBody s_lhidden) (defScope s_lhidden) [] [] (He.ga K "_law_hidden") fd := T.says.def_ 34 (d := d_lhidden)
theorem f_lcount_at (T : Tx K mg) : ∃ fd, FunD K "_law_count_at" "_law_count_at" (defArgs s_lcount_at) (defBody s_lcount_at) (defScope s_lcount_at) [] [] (He.ga K "_law_count_at") fd := T.says.def_ 35 (d := d_lcount_at)
theorem f_lrecords (T : Tx K mg) : ∃ fd, FunD K "_law_records" "_law_records" (defArgs s_lrecords) (defBody s_lrecords) (defScope s_lrecords) [] [] (He.ga K "_law_records") fd := T.says.def_ 36 (d := d_lrecords)
theorem f_lloose (T : Tx K mg) : ∃ fd, FunD K "_law_loose" "_law_loose" (defArgs s_lloose) (defBody s_lloose) (defScope s_lloose) [] [] (He.ga K "_law_loose") fd := T.says.def_ 37 (d := d_lloose)
theorem f_lnear (T : Tx K mg) : ∃ fd, FunD K "_law_near" "_law_near" (defArgs s_lnear) (defBody s_lnear) (defScope s_lnear) [] [] (He.ga K "_law_near") fd := T.says.def_ 38 (d := d_lnear)
theorem f_lfar (T : Tx K mg) : ∃ fd, FunD K "_law_far" "_law_far" (defArgs s_lfar) (defBody s_lfar) (defScope s_lfar) [] [] (He.ga K "_law_far") fd := T.says.def_ 39 (d := d_lfar)
theorem f_lcycle (T : Tx K mg) : ∃ fd, FunD K "_law_cycle" "_law_cycle" (defArgs s_lcycle) (defBody s_lcycle) (defScope s_lcycle) [] [] (He.ga K "_law_cycle") fd := T.says.def_ 40 (d := d_lcycle)
theorem f_law (T : Tx K mg) : ∃ fd, FunD K "law" "law" (defArgs s_law) (defBody s_law) (defScope s_law) [] [] (He.ga K "law") fd := T.says.def_ 41 (d := d_law)
theorem bounds_at (T : Tx K mg) (H : Hp) : SqT K H (He.ga K "BOUNDS") [.str "at least", .str "at most"] := He.tupB_ok T.bnd H
end

/-! ### calls by name -/
section
variable {P : Program} {w : World} {K : PySem.W.Frag} {mg : Str → Option Value} {base : Heap}
/-- a def that no exception leaves; its body as a term -/
theorem okD {x qual : Str} {st : Stmt} {dvs : List V} {f : Addr} {fd : FuncData} {N ps : List Str} {k : Nat} {sp : Sp} (F : FunD K x qual (defArgs st) (defBody st) (defScope st) dvs [] f fd) (S : FnScope N ps (defScope st)) (len : ∀ vs H Q E, sp vs H Q E → vs.length = ps.length)
    (hbody : ∀ (cdv : Value) (A : Around) (outer : List Env) (s : Shared) (H : Hp) (vs : List V) (Q : VK) (E : XK), Room k (A.deeper (envOfC qual (defScope st) s.heap.objs.size f cdv)) → sp vs H Q E →
      ∃ t, PSs (cxOf CX0 P w K mg base N qual (defScope st) f cdv A outer s H E).nox (defBody st) t ∧ t { nx := fun _ H' => Q .non H', rt := Q } (start N vs) H) : FnOk P w K mg base CX0 (k + 1) f fd ps sp :=
  F.ok S len fun cdv A outer s H vs Q E hr h => by
    obtain ⟨t, h1, h2⟩ := hbody cdv A outer s H vs Q E hr h
    exact ⟨t, h1.nox, h2⟩
/-- the same, its code object known: the object at c -/
theorem okC {x qual : Str} {st : Stmt} {at_ : Str × Option Str} {fd : FuncData} {N ps : List Str} {k : Nat} {sp : Sp} (F : FunD K x qual (defArgs st) (defBody st) (defScope st) [] [] (He.fAd K at_) fd) (S : FnScope N ps (defScope st)) (len : ∀ vs H Q E, sp vs H Q E → vs.length = ps.length)
    (hbody : ∀ (A : Around) (outer : List Env) (s : Shared) (H : Hp) (vs : List V) (Q : VK) (E : XK), Room k (A.deeper (envOfC qual (defScope st) s.heap.objs.size (He.fAd K at_) (.ref (He.codeOf K at_)))) → sp vs H Q E →
      ∃ t, PSs (cxOf CX0 P w K mg base N qual (defScope st) (He.fAd K at_) (.ref (He.codeOf K at_)) A outer s H E).nox (defBody st) t ∧ t { nx := fun _ H' => Q .non H', rt := Q } (start N vs) H) : FnOk P w K mg base CX0 (k + 1) (He.fAd K at_) fd ps sp := by
  obtain ⟨oc, od, dV, kV, doc, pm, an, cdv, ct, osl, rfl, lk, hcd, _, _⟩ := F.ex
  obtain ⟨c, rfl⟩ := He.codeIn_ref hcd
  have e : He.codeOf K at_ = c := He.codeOf_eq lk rfl
  subst e
  refine fn_of lk hcd S len fun A outer s H vs Q E hr h => ?_
  obtain ⟨t, h1, h2⟩ := hbody A outer s H vs Q E hr h
  exact ⟨t, h1.nox, h2⟩
/-- a def that is called by its name with all its arguments -/
def Cal (P : Program) (w : World) (K : PySem.W.Frag) (mg : Str → Option Value) (base : Heap) (k : Nat) (x : Str) (ps : List Str) (sp : Sp) : Prop :=
  ∃ (f : Addr) (fd : FuncData), mg x = some (.ref f) ∧ PySem.W.keepIn K (.ref f) = true ∧ FnOk P w K mg base CX0 k f fd ps sp ∧ Binds K fd ps []
/-- a method -/
def Met (P : Program) (w : World) (K : PySem.W.Frag) (mg : Str → Option Value) (base : Heap) (k : Nat) (C : Addr) (m : Str) (ps : List Str) (sp : Sp) : Prop :=
  ∃ (f : Addr) (fd : FuncData), Meth K C m f ∧ FnOk P w K mg base CX0 k f fd ps sp ∧ Binds K fd ps []
/-- an own class, by its __init__ -/
def Mak (P : Program) (w : World) (K : PySem.W.Frag) (mg : Str → Option Value) (base : Heap) (k : Nat) (x : Str) (C : Addr) (ps : List Str) (sp : Sp) : Prop :=
  ∃ (f : Addr) (fd : FuncData), mg x = some (.ref C) ∧ Mk K C f ∧ FnOk P w K mg base CX0 k f fd ps sp ∧ Binds K fd ps []
end
section
variable {X : Cx} {k : Nat} {x m : Str} {C : Addr} {ps : List Str} {sp : Sp} {p pos apos : Pos} {e o : Expr} {es : List Expr} {t : TA} {ta : TE}
theorem pe_cal (F : Cal X.prog X.w X.K X.mg X.base k x ps sp) (hr : Room k X.A) (hg : Gl X x) (ha : PA X (e :: es) t) (hdb : (x == ("__debug__" : Str)) = false := by decide)
    (he : starEach (e :: es) X.env = (false, eval e X.env) :: starEach es X.env := by rfl) (hpl : (backTo pos (starEach es X.env)).any (·.1) = false := by rfl) : PE X (.Call (.Name x p) (e :: es) [] pos) (tCall sp [] E0 t) := by
  obtain ⟨f, fd, h1, h2, h3, h4⟩ := F
  exact pe_call h3 hr hg h1 h2 h4 .nil pass0 ha hdb he hpl
theorem pe_met {pl : Sem Bool} (he : PE X o ta) (c : Cls X.K C) (F : Met X.prog X.w X.K X.mg X.base k C m ps sp) (hr : Room k X.A) (ha : PA X (e :: es) t)
    (hst : starEach (e :: es) X.env = (false, eval e X.env) :: starEach es X.env := by rfl) (hpl : (backTo pos (starEach es X.env)).any (·.1) = false := by rfl)
    (ht : eval (.Call (.Attribute o m apos) (e :: es) [] pos) X.env = (do
      let ov ← eval o X.env
      standAt apos.atName
      let (f, first) ← holding [ov] (getMethod ov m pl)
      callWith pos f first (backTo pos (starEach (e :: es) X.env)) (backToKw pos (keywordEach [] X.env))) := by rfl) :
    PE X (.Call (.Attribute o m apos) (e :: es) [] pos) (tMeth C m sp [] E0 ta t) := by
  obtain ⟨f, fd, h1, h3, h4⟩ := F
  exact pe_meth he c h1 h3 hr h4 .nil pass0 ha hst hpl ht
theorem pe_met0 {pl : Sem Bool} (he : PE X o ta) (c : Cls X.K C) (F : Met X.prog X.w X.K X.mg X.base k C m ps sp) (hr : Room k X.A)
    (ht : eval (.Call (.Attribute o m apos) [] [] pos) X.env = (do
      let ov ← eval o X.env
      standAt apos.atName
      let (f, first) ← holding [ov] (getMethod ov m pl)
      callWith pos f first (backTo pos (starEach [] X.env)) (backToKw pos (keywordEach [] X.env))) := by rfl) :
    PE X (.Call (.Attribute o m apos) [] [] pos) (tMeth C m sp [] E0 ta tNil) := by
  obtain ⟨f, fd, h1, h3, h4⟩ := F
  exact pe_meth0 he c h1 h3 hr h4 .nil pass0 ht
theorem pe_mak (F : Mak X.prog X.w X.K X.mg X.base k x C ps sp) (hr : Room (k + 1) X.A) (hg : Gl X x) (ha : PA X (e :: es) t) (hdb : (x == ("__debug__" : Str)) = false := by decide)
    (he : starEach (e :: es) X.env = (false, eval e X.env) :: starEach es X.env := by rfl) (hpl : (backTo pos (starEach es X.env)).any (·.1) = false := by rfl) : PE X (.Call (.Name x p) (e :: es) [] pos) (tMake C sp [] E0 t) := by
  obtain ⟨f, fd, h1, h2, h3, h4⟩ := F
  exact pe_make h2 h3 hr hg h1 h4 .nil pass0 ha hdb he hpl
end

/-! ### numbers -/
theorem mw {i j : Int} (hi : i.natAbs < 2 ^ 2000) (hj : j.natAbs < 2 ^ 2000) : CMulW i j := wide_mul hi hj (by decide) (by decide) (by decide)
theorem dw {i j : Int} (h : 0 < j) (hj : j.natAbs < 2 ^ 2000) : CDivW i j := wide_div h hj (by decide) (by decide)
theorem bmul {i j : Int} {a b : Nat} (ha : i.natAbs < 2 ^ a) (hb : j.natAbs < 2 ^ b) : (i * j).natAbs < 2 ^ (a + b) := wide_lt ha hb
theorem bup {i : Int} {a b : Nat} (h : i.natAbs < 2 ^ a) (hab : a ≤ b) : i.natAbs < 2 ^ b := Nat.lt_of_lt_of_le h (Nat.pow_le_pow_right (by decide) hab)
theorem badd {i j : Int} {a : Nat} (ha : i.natAbs < 2 ^ a) (hb : j.natAbs < 2 ^ a) : (i + j).natAbs < 2 ^ (a + 1) := by
  rw [Nat.pow_succ]; omega
theorem bsub {i j : Int} {a : Nat} (ha : i.natAbs < 2 ^ a) (hb : j.natAbs < 2 ^ a) : (i - j).natAbs < 2 ^ (a + 1) := by
  rw [Nat.pow_succ]; omega
theorem bneg {i : Int} {a : Nat} (ha : i.natAbs < 2 ^ a) : (-i).natAbs < 2 ^ a := by omega
theorem bdiv {i j : Int} {a : Nat} (ha : i.natAbs < 2 ^ a) (h : 0 < j) : (i / j).natAbs < 2 ^ a + 1 := by
  have h1 := Int.mul_ediv_add_emod i j
  have h2 := Int.emod_nonneg i (Int.ne_of_gt h)
  have h3 := Int.emod_lt_of_pos i h
  by_cases h0 : 0 ≤ i
  · have h4 : i / j ≤ i := Int.ediv_le_self j h0
    have h5 : 0 ≤ i / j := Int.ediv_nonneg h0 (Int.le_of_lt h)
    omega
  · have h6 : i / j < 0 := Int.ediv_neg_of_neg_of_pos (by omega) h
    have h7 : i - 1 < i / j := by
      have h8 : j * (i / j) ≤ 1 * (i / j) := Int.mul_le_mul_of_nonpos_right (by omega) (by omega)
      have h9 : j * (i / j) > i - j := by omega
      by_cases h10 : i / j ≤ i - 1
      · exfalso
        have h11 : j * (i / j) ≤ j * (i - 1) := Int.mul_le_mul_of_nonneg_left h10 (by omega)
        have h12 : j * (i - 1) ≤ 1 * (i - 1) := Int.mul_le_mul_of_nonpos_right (by omega) (by omega)
        have h13 : j * (i - 1) = j * i - j := by rw [Int.mul_sub, Int.mul_one]
        have h14 : j * i ≤ 1 * i := Int.mul_le_mul_of_nonpos_right (by omega) (by omega)
        omega
      · omega
    omega

/-! ### heaps -/
theorem same_new {H : Hp} {p : Addr} {o : HO} (h : H p = none) : Same H (upd H p o) := fun b x e => by
  rw [upd_ne (ne_of_none e h)]
  exact e
theorem same_mut {H H' : Hp} {p : Addr} {o : HO} (s : Same H H') (h : H p = none) : Same H (upd H' p o) := fun b x e => by
  rw [upd_ne (ne_of_none e h)]
  exact s b x e
/-- all but p is as it was -/
def SameB (p : Addr) (H H' : Hp) : Prop := ∀ b o, H b = some o → b ≠ p → H' b = some o
theorem SameB.refl (p : Addr) (H : Hp) : SameB p H H := fun _ _ h _ => h
theorem SameB.of {p : Addr} {H H' : Hp} (s : Same H H') : SameB p H H' := fun b o h _ => s b o h
theorem SameB.trans {p : Addr} {H H1 H2 : Hp} (a : SameB p H H1) (b : SameB p H1 H2) : SameB p H H2 := fun c o h n => b c o (a c o h n) n
theorem SameB.upd {p : Addr} {H H' : Hp} {o : HO} (s : SameB p H H') : SameB p H (upd H' p o) := fun b x e n => by
  rw [upd_ne n]
  exact s b x e n
theorem tabs_same {T : List (Addr × Str)} {H H' : Hp} (t : Tabs T H) (s : Same H H') : Tabs T H' := t.ext s
end KN

/-! ## KD -/
set_option Elab.async false
set_option linter.all false
set_option maxRecDepth 100000
set_option maxHeartbeats 4000000
/-! The small defs of the program. -/
namespace KN
open PySem PySem.Spec PyProof.Rows L2 LamX
theorem b_abs : bootBuiltins "abs" = some (.builtin "abs") := by decide +kernel
theorem b_len : bootBuiltins "len" = some (.builtin "len") := by decide +kernel
theorem b_max : bootBuiltins "max" = some (.builtin "max") := by decide +kernel
theorem b_min : bootBuiltins "min" = some (.builtin "min") := by decide +kernel
theorem b_sum : bootBuiltins "sum" = some (.builtin "sum") := by decide +kernel
theorem b_isinstance : bootBuiltins "isinstance" = some (.builtin "isinstance") := by decide +kernel
theorem b_int : bootBuiltins "int" = some (.type "int") := by decide +kernel
theorem b_bool : bootBuiltins "bool" = some (.type "bool") := by decide +kernel
theorem b_str : bootBuiltins "str" = some (.type "str") := by decide +kernel
theorem b_tuple : bootBuiltins "tuple" = some (.type "tuple") := by decide +kernel
theorem b_list : bootBuiltins "list" = some (.type "list") := by decide +kernel
theorem q_int_int : kitB "int" "int" = some true := by decide +kernel
theorem q_int_bool : kitB "int" "bool" = some false := by decide +kernel
theorem q_list_list : kitB "list" "list" = some true := by decide +kernel
theorem q_tup_tup : kitB "tuple" "tuple" = some true := by decide +kernel
theorem q_str_str : kitB "str" "str" = some true := by decide +kernel

section
variable {P : Program} {w : World} {K : PySem.W.Frag} {mg : Str → Option Value} {base : Heap}

/-! ### is_integer -/
def spIsInt : Sp := fun vs H Q _ => ∃ i : Int, vs = [.int i] ∧ Q (.bl true) H
theorem ok_is_integer (T : Tx K mg) : Cal P w K mg base 1 "is_integer" p_is_integer spIsInt := by
  obtain ⟨fd, F⟩ := f_is_integer T
  refine ⟨_, fd, g_is_integer T, F.kp, okD F sc_is_integer (fun vs H Q E h => ?_) (fun cdv A outer s H vs Q E hr h => ?_), F.bindsN fun _ _ _ _ _ _ us hl => match us, hl with | [_], _ => rfl⟩
  · obtain ⟨i, rfl, _⟩ := h
    rfl
  · obtain ⟨i, rfl, q⟩ := h
    refine ⟨_, pss_one (ps_ret (pe_and (pe_callB call_isi (by rfl) (t_isinstance T) b_isinstance (pa_cons (pv 0) (pa_cons (pe_bltn (v := .ty "int") (by rfl) (t_int T) b_int rfl) pa_nil)))
      (pe_one (pe_not (pe_callB call_isi (by rfl) (t_isinstance T) b_isinstance (pa_cons (pv 0) (pa_cons (pe_bltn (v := .ty "bool") (by rfl) (t_bool T) b_bool rfl) pa_nil))))))), ?_⟩
    refine ⟨_, rfl, _, _, _, _, _, rfl, .ty _, .base (.int i), kit_ty q_int_int, _, rfl, iteT ?_⟩
    refine ⟨_, rfl, _, _, _, _, _, rfl, .ty _, .base (.int i), kit_ty q_int_bool, _, rfl, ?_⟩
    exact q

/-! ### is_list -/
def spIsList : Sp := fun vs H Q _ => ∃ (a : Addr) (xs : List V), vs = [.ref a] ∧ H a = some (.lst xs) ∧ ∀ H', Same H H' → Q (.bl true) H'
theorem ok_is_list (T : Tx K mg) : Cal P w K mg base 1 "is_list" p_is_list spIsList := by
  obtain ⟨fd, F⟩ := f_is_list T
  refine ⟨_, fd, g_is_list T, F.kp, okD F sc_is_list (fun vs H Q E h => ?_) (fun cdv A outer s H vs Q E hr h => ?_), F.bindsN fun _ _ _ _ _ _ us hl => match us, hl with | [_], _ => rfl⟩
  · obtain ⟨a, xs, rfl, _⟩ := h
    rfl
  · obtain ⟨a, xs, rfl, ha, q⟩ := h
    refine ⟨_, pss_one (ps_ret (pe_callB call_isiT (by rfl) (t_isinstance T) b_isinstance (pa_cons (pv 0) (pa_cons (pe_tup (pa_cons (pe_bltn (v := .ty "list") (by rfl) (t_list T) b_list rfl) (pa_cons (pe_bltn (v := .ty "tuple") (by rfl) (t_tuple T) b_tuple rfl) pa_nil))) pa_nil)))), ?_⟩
    refine ⟨_, rfl, by show 2 ≤ sizeLine; decide, fun p np => ?_⟩
    have h1 : (upd H p (.tup [.ty "list", .ty "tuple"])) a = some (.lst xs) := same_new np _ _ ha
    refine ⟨_, p, _, _, _, _, rfl, upd_same, .cons (.ty _) (.cons (.ty _) .nil), .base (.lst h1), kitAny_cons (kit_ty q_list_list) (fun z => by cases z) (fun _ => rfl), ?_⟩
    exact q _ (same_new np)

/-! ### common_divisor -/
def spGcd : Sp := fun vs H Q _ => ∃ a b : Nat, vs = [.int (a : Int), .int (b : Int)] ∧ Q (.int (Nat.gcd a b : Nat)) H
theorem ok_common_divisor (T : Tx K mg) : Cal P w K mg base 1 "common_divisor" p_common_divisor spGcd := by
  obtain ⟨fd, F⟩ := f_common_divisor T
  refine ⟨_, fd, g_common_divisor T, F.kp, okD F sc_common_divisor (fun vs H Q E h => ?_) (fun cdv A outer s H vs Q E hr h => ?_), F.bindsN fun _ _ _ _ _ _ us hl => match us, hl with | [_, _], _ => rfl⟩
  · obtain ⟨a, b, rfl, _⟩ := h
    rfl
  · obtain ⟨a, b, rfl, q⟩ := h
    refine ⟨_, pss_cons (ps_while PassesOwn.never (pt_cmpR op_gt (pv 1) pe_int (nomark _)) (pss_one (ps_par (i := 0) (j := 1) rfl sc_common_divisor.nd rfl rfl (by decide) rfl rfl (pa_cons (pv 1) (pa_cons (pe_op op_mod (pv 0) (pv 1)) pa_nil)) (by rfl))))
      (pss_one (ps_ret (pv 0))), ?_⟩
    refine ⟨fun m σ H' => ∃ c d : Nat, σ = [some (.int (c : Int)), some (.int (d : Int))] ∧ H' = H ∧ Nat.gcd c d = Nat.gcd a b ∧ m = d, ⟨_, a, b, rfl, rfl, rfl, rfl⟩, ?_⟩
    rintro m σ H' ⟨c, d, rfl, rfl, hg, rfl⟩
    refine ⟨_, rfl, _, _, rfl, rfl, _, rfl, ite2 (fun e => ?_) (fun e => ?_)⟩
    · have hd : (0 : Int) < (m : Int) := of_decide_eq_true e
      refine ⟨fun σ' H'' => σ' = [some (.int (m : Int)), some (.int ((c % m : Nat) : Int))] ∧ H'' = H', fun σ' H'' n => ?_, ?_⟩
      · obtain ⟨rfl, rfl⟩ := n
        refine ⟨c % m, Nat.mod_lt _ (by omega), m, c % m, rfl, rfl, ?_, rfl⟩
        rw [← hg, Nat.gcd_comm c m, Nat.gcd_rec m c, Nat.gcd_comm (c % m) m]
      · refine ⟨_, rfl, _, rfl, _, rfl, _, _, rfl, rfl, hd, _, _, rfl, ?_⟩
        exact ⟨by rw [Int.natCast_emod]; rfl, rfl⟩
    · have hd : ¬ (0 : Int) < (m : Int) := fun z => e (decide_eq_true z)
      have e0 : m = 0 := by omega
      subst e0
      rw [Nat.gcd_zero_right] at hg
      refine ⟨_, rfl, ?_⟩
      rw [hg]
      exact q
end
end KN

/-! ## KE1 -/
set_option Elab.async false
set_option linter.all false
set_option maxRecDepth 100000
set_option maxHeartbeats 4000000
/-! Records, numbers, fractions. -/
namespace KN
open PySem PySem.Spec PyProof.Rows L2 LamX
/-- a record: at least (lo), at most; its time, its number -/
structure Rec where
  lo : Bool
  t : Int
  n : Int
def Rec.kind (r : Rec) : Str := if r.lo then "at least" else "at most"
def Rec.v (r : Rec) : List V := [.str r.kind, .int r.t, .int r.n]
/-- the list at a is a list of these records -/
structure RecsAt (H : Hp) (a : Addr) (xs : List V) (rs : List Rec) : Prop where
  at_ : H a = some (.lst xs)
  len : xs.length = rs.length
  get : ∀ (i : Nat) (r : Rec), rs[i]? = some r → ∃ b, xs[i]? = some (.ref b) ∧ H b = some (.tup r.v)
theorem RecsAt.same {H H' : Hp} {a : Addr} {xs : List V} {rs : List Rec} (h : RecsAt H a xs rs) (s : Same H H') : RecsAt H' a xs rs :=
  ⟨s _ _ h.at_, h.len, fun i r e => let ⟨b, e1, e2⟩ := h.get i r e; ⟨b, e1, s _ _ e2⟩⟩
theorem RecsAt.back {H : Hp} {a : Addr} {xs : List V} {rs : List Rec} (h : RecsAt H a xs rs) {i : Nat} {x : V} (e : xs[i]? = some x) : ∃ b r, x = .ref b ∧ rs[i]? = some r ∧ H b = some (.tup r.v) := by
  have hi : i < rs.length := by rw [← h.len]; exact (List.getElem?_eq_some_iff.mp e).1
  obtain ⟨b, e1, e2⟩ := h.get i rs[i] (List.getElem?_eq_getElem hi)
  rw [e] at e1
  exact ⟨b, rs[i], Option.some.inj e1, List.getElem?_eq_getElem hi, e2⟩
theorem kind_in (r : Rec) : inV (.str r.kind) [.str "at least", .str "at most"] = true := by
  unfold Rec.kind
  cases r.lo <;> decide +kernel

section
variable {P : Program} {w : World} {K : PySem.W.Frag} {mg : Str → Option Value} {base : Heap}
/-! ### is_record -/
def spIsRec : Sp := fun vs H Q _ => ∃ (a : Addr) (r : Rec), vs = [.ref a] ∧ H a = some (.tup r.v) ∧ Q (.bl true) H
theorem ok_is_record (T : Tx K mg) : Cal P w K mg base 2 "is_record" p_is_record spIsRec := by
  obtain ⟨fd, F⟩ := f_is_record T
  have GI : Cal P w K mg base 1 "is_integer" p_is_integer spIsInt := ok_is_integer T
  refine ⟨_, fd, g_is_record T, F.kp, okD F sc_is_record (fun vs H Q E h => ?_) (fun cdv A outer s H vs Q E hr h => ?_), F.bindsN fun _ _ _ _ _ _ us hl => match us, hl with | [_], _ => rfl⟩
  · obtain ⟨a, r, rfl, _⟩ := h
    rfl
  · obtain ⟨a, r, rfl, ha, q⟩ := h
    have hT : SqT K H a r.v := .inl (.inl ha)
    refine ⟨_, pss_one (ps_ret (pe_and (pe_callB call_isi (by rfl) (t_isinstance T) b_isinstance (pa_cons (pv 0) (pa_cons (pe_bltn (v := .ty "tuple") (by rfl) (t_tuple T) b_tuple rfl) pa_nil)))
      (pe_and (pe_cmpR op_eq (pe_callB call_len_seq (by rfl) (t_len T) b_len (pa_cons (pv 0) pa_nil)) pe_int (nomark _))
      (pe_and (pe_callB call_isi (by rfl) (t_isinstance T) b_isinstance (pa_cons (pe_ix ix_tup (pv 0) pe_int (fun _ _ => rfl)) (pa_cons (pe_bltn (v := .ty "str") (by rfl) (t_str T) b_str rfl) pa_nil)))
      (pe_and (pe_cmpR op_in_seq (pe_ix ix_tup (pv 0) pe_int (fun _ _ => rfl)) (pe_glob (v := .ref (He.ga K "BOUNDS")) (by rfl) (g_BOUNDS T) rfl) (by rfl))
      (pe_and (pe_cal GI hr (by rfl) (pa_cons (pe_ix ix_tup (pv 0) pe_int (fun _ _ => rfl)) pa_nil))
      (pe_one (pe_cal GI hr (by rfl) (pa_cons (pe_ix ix_tup (pv 0) pe_int (fun _ _ => rfl)) pa_nil))))))))), ?_⟩
    refine ⟨_, rfl, _, _, _, _, _, rfl, .ty _, .base (.tup ha), kit_ty q_tup_tup, _, rfl, iteT ?_⟩
    refine ⟨_, rfl, a, r.v, rfl, .inr hT, rfl, _, rfl, iteT ?_⟩
    refine ⟨_, rfl, a, r.v, 0, .str r.kind, rfl, rfl, hT, atI_nat (j := 0) rfl, _, _, _, _, _, rfl, .ty _, .base (.str _), kit_ty q_str_str, _, rfl, iteT ?_⟩
    refine ⟨_, rfl, a, r.v, 0, .str r.kind, rfl, rfl, hT, atI_nat (j := 0) rfl, _, _, rfl, .inr (bounds_at T H), rfl, rfl, true, ?_, iteT ?_⟩
    · show V.bl (if false = true then _ else inV (.str r.kind) _) = V.bl true
      rw [if_neg Bool.false_ne_true]
      exact congrArg V.bl (kind_in r)
    refine ⟨_, rfl, a, r.v, 1, .int r.t, rfl, rfl, hT, atI_nat (j := 1) rfl, _, rfl, _, rfl, iteT ?_⟩
    refine ⟨_, rfl, a, r.v, 2, .int r.n, rfl, rfl, hT, atI_nat (j := 2) rfl, _, rfl, ?_⟩
    exact q

/-! ### need_number, by keywords -/
def spNeedNum : Sp := fun vs H Q _ => ∃ v l m : Int, vs = [.int v, .int l, .int m] ∧ l ≤ v ∧ v ≤ m ∧ Q .non H
def CalN (P : Program) (w : World) (K : PySem.W.Frag) (mg : Str → Option Value) (base : Heap) : Prop :=
  ∃ (f : Addr) (fd : FuncData), mg "need_number" = some (.ref f) ∧ PySem.W.keepIn K (.ref f) = true ∧ FnOk P w K mg base CX0 2 f fd p_need_number spNeedNum ∧ KBn K fd p_need_number 1 ["least", "most"] (fun us ws => us ++ ws) (fun vs zs => vs ++ zs)
theorem ok_need_number (T : Tx K mg) : CalN P w K mg base := by
  obtain ⟨fd, F⟩ := f_need_number T
  have GI : Cal P w K mg base 1 "is_integer" p_is_integer spIsInt := ok_is_integer T
  refine ⟨_, fd, g_need_number T, F.kp, okD F sc_need_number (fun vs H Q E h => ?_) (fun cdv A outer s H vs Q E hr h => ?_), ?_⟩
  · obtain ⟨v, l, m, rfl, _⟩ := h
    rfl
  · obtain ⟨v, l, m, rfl, hl, hm, q⟩ := h
    refine ⟨_, pss_cons (ps_if (pt_not (pt_val (pe_cal GI hr (by rfl) (pa_cons (pv 0) pa_nil)))) (pss_one ps_never) pss_nil)
      (pss_one (ps_if (PW.pt (pw_or (PW.pt (pw_and (pt_cmpR op_notN (pv 1) pe_non (nomark _)) (pw_and1 (pt_cmpR op_lt (pv 0) (pv 1) (nomark _))))) (pw_or1 (PW.pt (pw_and (pt_cmpR op_notN (pv 2) pe_non (nomark _)) (pw_and1 (pt_cmpR op_gt (pv 0) (pv 2) (nomark _)))))))) (pss_one ps_never) pss_nil)), ?_⟩
    refine ⟨_, rfl, _, rfl, _, rfl, iteF ?_⟩
    refine ⟨_, rfl, rfl, _, rfl, iteT ?_⟩
    refine ⟨_, rfl, _, rfl, _, _, rfl, rfl, _, rfl, ?_⟩
    rw [decide_eq_false (by omega : ¬ v < l)]
    refine iteF ⟨_, rfl, rfl, _, rfl, iteT ?_⟩
    refine ⟨_, rfl, _, rfl, _, _, rfl, rfl, _, rfl, ?_⟩
    rw [decide_eq_false (by omega : ¬ m < v)]
    exact iteF q
  · obtain ⟨oc, od, dV, kV, doc, pm, an, cdv, ct, osl, rfl, lk, hcd, hD, hK⟩ := F.ex
    rcases hD with ⟨e, _⟩ | ⟨_, TT, o, its, m, rfl, lT, oT, rT⟩
    · cases e
    · refine ⟨fun s us ws X h1 h2 => ?_, fun r1 r2 => r1.append r2⟩
      obtain ⟨x, y, rfl⟩ : ∃ x y, its = [x, y] := by
        have := rT.length
        match its, this with
        | [x, y], _ => exact ⟨x, y, rfl⟩
      match us, ws, h1, h2 with
      | [u], [a, b], _, _ =>
        refine BindsTo.of_looks fun M => ?_
        exact looks_items (k := _) X lT oT (.of_pure rfl)

/-! ### need_records -/
def spNeedRecs : Sp := fun vs H Q _ => ∃ (a : Addr) (xs : List V) (rs : List Rec), vs = [.ref a] ∧ RecsAt H a xs rs ∧ rs.length ≤ 200 ∧ ∀ H', Same H H' → Q .non H'
theorem ok_need_records (T : Tx K mg) : Cal P w K mg base 3 "need_records" p_need_records spNeedRecs := by
  obtain ⟨fd, F⟩ := f_need_records T
  have GL : Cal P w K mg base 1 "is_list" p_is_list spIsList := ok_is_list T
  have GR : Cal P w K mg base 2 "is_record" p_is_record spIsRec := ok_is_record T
  obtain ⟨tk, gM⟩ := i_MOST_ITEMS T
  refine ⟨_, fd, g_need_records T, F.kp, okD F sc_need_records (fun vs H Q E h => ?_) (fun cdv A outer s H vs Q E hr h => ?_), F.bindsN fun _ _ _ _ _ _ us hl => match us, hl with | [_], _ => rfl⟩
  · obtain ⟨a, xs, rs, rfl, _⟩ := h
    rfl
  · obtain ⟨a, xs, rs, rfl, hR, hlen, q⟩ := h
    refine ⟨_, pss_cons (ps_if (PW.pt (pw_or (pt_not (pt_val (pe_cal GL (hr.mono (by decide)) (by rfl) (pa_cons (pv 0) pa_nil)))) (pw_or1 (pt_cmpR op_gt (pe_callB call_len_seq (by rfl) (t_len T) b_len (pa_cons (pv 0) pa_nil)) (pe_glob (v := .int 200) (by rfl) gM ⟨_, rfl⟩) (nomark _))))) (pss_one ps_never) pss_nil)
      (pss_one (ps_for PassesOwn.never rfl (pi_enum (by rfl) (t_enumerate T) (pa_cons (pv 0) pa_nil)) (pg_tup rfl (pgs_cons (pg_name (i := 1) sc_need_records.nd rfl (Or.inl rfl)) (pgs_cons (pg_name (i := 2) sc_need_records.nd rfl (Or.inl rfl)) pgs_nil)))
        (pss_one (ps_if (pt_not (pt_val (pe_cal GR hr (by rfl) (pa_cons (pv 2) pa_nil)))) (pss_one ps_never) pss_nil)))), ?_⟩
    refine ⟨_, rfl, a, xs, rfl, hR.at_, fun H1 s1 => ⟨_, rfl, iteF ?_⟩⟩
    have hR1 := hR.same s1
    refine ⟨_, rfl, a, xs, rfl, .inl (.inl (.inl hR1.at_)), _, _, rfl, rfl, _, rfl, ?_⟩
    rw [decide_eq_false (by rw [hR.len]; omega : ¬ (200 : Int) < (xs.length : Int))]
    refine iteF ⟨_, rfl, a, xs, rfl, .inl (.inl hR1.at_), ?_⟩
    refine for_it (walk_enum (K := K) (a := a) (xs := xs)) (fun i σ H' => ∃ u v, σ = [some (.ref a), u, v] ∧ Same H H') ⟨_, _, rfl, s1⟩ (fun i σ H' _ p => ?_) (fun i x σ H2 H3 hi p y => ?_) (fun σ H' p => ?_)
    · obtain ⟨_, _, _, s2⟩ := p
      exact .inl (.inl (s2 _ _ hR.at_))
    · obtain ⟨u, v, rfl, s2⟩ := p
      obtain ⟨TT, x1, x2, rfl, nT, rfl, e1, e2⟩ := y
      obtain ⟨b, r, rfl, _, hb⟩ := hR.back e2
      have s3 : Same H (upd H2 TT (.tup [x1, .ref b])) := s2.trans (same_new nT)
      refine ⟨TT, [x1, .ref b], rfl, .inl (.inl upd_same), rfl, x1, [.ref b], rfl, .ref b, [], rfl, rfl, ?_⟩
      refine ⟨_, rfl, b, r, rfl, s3 _ _ hb, _, rfl, iteF ?_⟩
      exact ⟨_, _, rfl, s3⟩
    · obtain ⟨_, _, rfl, s2⟩ := p
      exact q _ s2

/-! ### lowest_terms, is_less -/
def red (a b : Int) : Int × Int := (a / (Int.gcd a b : Int), b / (Int.gcd a b : Int))
def spLowest : Sp := fun vs H Q _ => ∃ a b : Int, vs = [.int a, .int b] ∧ 0 < b ∧ b.natAbs < 2 ^ 64 ∧ ∀ p H', Same H H' → H' p = some (.tup [.int (red a b).1, .int (red a b).2]) → Q (.ref p) H'
theorem ok_lowest_terms (T : Tx K mg) : Cal P w K mg base 2 "lowest_terms" p_lowest_terms spLowest := by
  obtain ⟨fd, F⟩ := f_lowest_terms T
  have GG : Cal P w K mg base 1 "common_divisor" p_common_divisor spGcd := ok_common_divisor T
  refine ⟨_, fd, g_lowest_terms T, F.kp, okD F sc_lowest_terms (fun vs H Q E h => ?_) (fun cdv A outer s H vs Q E hr h => ?_), F.bindsN fun _ _ _ _ _ _ us hl => match us, hl with | [_, _], _ => rfl⟩
  · obtain ⟨a, b, rfl, _⟩ := h
    rfl
  · obtain ⟨a, b, rfl, hb, hb2, q⟩ := h
    refine ⟨_, pss_cons (ps_set (i := 2) sc_lowest_terms.nd rfl (Or.inl rfl) (pe_cal GG hr (by rfl) (pa_cons (pe_callB call_abs (by rfl) (t_abs T) b_abs (pa_cons (pv 0) pa_nil)) (pa_cons (pv 1) pa_nil))))
      (pss_one (ps_ret (pe_tup (pa_cons (pe_op op_fdivW (pv 0) (pv 2)) (pa_cons (pe_op op_fdivW (pv 1) (pv 2)) pa_nil))))), ?_⟩
    have ea : (if a < 0 then -a else a) = ((a.natAbs : Nat) : Int) := by
      split <;> omega
    have eb : b = ((b.natAbs : Nat) : Int) := by omega
    have gp : 0 < Nat.gcd a.natAbs b.natAbs := Nat.gcd_pos_of_pos_right _ (by omega)
    have gl : Nat.gcd a.natAbs b.natAbs ≤ b.natAbs := Nat.gcd_le_right _ (by omega)
    have gb : (((Nat.gcd a.natAbs b.natAbs : Nat) : Int)).natAbs < 2 ^ 64 := by
      rw [Int.natAbs_natCast]; omega
    refine ⟨_, rfl, _, rfl, _, rfl, a.natAbs, b.natAbs, ?_, ?_⟩
    · show [V.int (if a < 0 then -a else a), V.int b] = [V.int ((a.natAbs : Nat) : Int), V.int ((b.natAbs : Nat) : Int)]
      rw [ea, ← eb]
    · refine ⟨_, rfl, _, rfl, _, _, rfl, rfl, dw (by omega) (bup gb (by decide)), _, rfl, _, rfl, _, _, rfl, rfl, dw (by omega) (bup gb (by decide)), by show 2 ≤ sizeLine; decide, fun p np => ?_⟩
      exact q p _ (same_new np) upd_same
def spLess : Sp := fun vs H Q _ => ∃ (p q : Addr) (a b c d : Int), vs = [.ref p, .ref q] ∧ H p = some (.tup [.int a, .int b]) ∧ H q = some (.tup [.int c, .int d]) ∧ b.natAbs < 2 ^ 64 ∧ d.natAbs < 2 ^ 64 ∧ Q (.bl (decide (a * d < c * b))) H
theorem ok_is_less (T : Tx K mg) : Cal P w K mg base 1 "is_less" p_is_less spLess := by
  obtain ⟨fd, F⟩ := f_is_less T
  refine ⟨_, fd, g_is_less T, F.kp, okD F sc_is_less (fun vs H Q E h => ?_) (fun cdv A outer s H vs Q E hr h => ?_), F.bindsN fun _ _ _ _ _ _ us hl => match us, hl with | [_, _], _ => rfl⟩
  · obtain ⟨p, q, a, b, c, d, rfl, _⟩ := h
    rfl
  · obtain ⟨p, q, a, b, c, d, rfl, hp, hq, hb, hd, k⟩ := h
    have tp : SqT K H p [.int a, .int b] := .inl (.inl hp)
    have tq : SqT K H q [.int c, .int d] := .inl (.inl hq)
    refine ⟨_, pss_one (ps_ret (pe_cmpR op_lt (pe_op op_mul (pe_ix ix_tup (pv 0) pe_int (fun _ _ => rfl)) (pe_ix ix_tup (pv 1) pe_int (fun _ _ => rfl))) (pe_op op_mul (pe_ix ix_tup (pv 1) pe_int (fun _ _ => rfl)) (pe_ix ix_tup (pv 0) pe_int (fun _ _ => rfl))) (nomark _))), ?_⟩
    refine ⟨_, rfl, p, _, 0, _, rfl, rfl, tp, atI_nat (j := 0) rfl, _, rfl, q, _, 1, _, rfl, rfl, tq, atI_nat (j := 1) rfl, _, _, rfl, rfl, .inr (by omega), ?_⟩
    refine ⟨_, rfl, q, _, 0, _, rfl, rfl, tq, atI_nat (j := 0) rfl, _, rfl, p, _, 1, _, rfl, rfl, tp, atI_nat (j := 1) rfl, _, _, rfl, rfl, .inr (by omega), _, _, rfl, rfl, ?_⟩
    exact k
end
end KN

/-! ## KF -/
set_option Elab.async false
set_option linter.all false
set_option maxRecDepth 100000
set_option maxHeartbeats 4000000
/-! The mathematics of the bounds of the rates; lists of objects. -/
namespace KN
open PySem PySem.Spec PyProof.Rows L2 LamX
/-! ### lists, item by item -/
structure Al {α : Type} (R : V → α → Prop) (xs : List V) (ys : List α) : Prop where
  len : xs.length = ys.length
  get : ∀ (i : Nat) (y : α), ys[i]? = some y → ∃ x, xs[i]? = some x ∧ R x y
section
variable {α β : Type} {R S : V → α → Prop} {xs : List V} {ys : List α}
theorem Al.nil : Al R [] ([] : List α) := ⟨rfl, fun i y h => by simp at h⟩
theorem Al.snoc (h : Al R xs ys) {x : V} {y : α} (r : R x y) : Al R (xs ++ [x]) (ys ++ [y]) := by
  refine ⟨by rw [List.length_append, List.length_append, h.len]; rfl, fun i z hz => ?_⟩
  by_cases hi : i < ys.length
  · rw [List.getElem?_append_left hi] at hz
    obtain ⟨w, hw, rw'⟩ := h.get i z hz
    exact ⟨w, by rw [List.getElem?_append_left (by rw [h.len]; exact hi)]; exact hw, rw'⟩
  · rw [List.getElem?_append_right (by omega)] at hz
    have e : i - ys.length = 0 := by
      have := (List.getElem?_eq_some_iff.mp hz).1
      simp at this
      omega
    rw [e] at hz
    have ez : y = z := Option.some.inj hz
    subst ez
    exact ⟨x, by rw [List.getElem?_append_right (by rw [h.len]; omega), h.len, e]; rfl, r⟩
theorem Al.mono (h : Al R xs ys) (m : ∀ x y, R x y → S x y) : Al S xs ys := ⟨h.len, fun i y hy => let ⟨x, e, r⟩ := h.get i y hy; ⟨x, e, m x y r⟩⟩
theorem Al.back (h : Al R xs ys) {i : Nat} {x : V} (e : xs[i]? = some x) : ∃ y, ys[i]? = some y ∧ R x y := by
  have hi : i < ys.length := by rw [← h.len]; exact (List.getElem?_eq_some_iff.mp e).1
  obtain ⟨x', e1, r⟩ := h.get i ys[i] (List.getElem?_eq_getElem hi)
  rw [e] at e1
  exact ⟨ys[i], List.getElem?_eq_getElem hi, Option.some.inj e1 ▸ r⟩
theorem Al.map {T : V → β → Prop} (f : α → β) (h : Al R xs ys) (m : ∀ x y, R x y → T x (f y)) : Al T xs (ys.map f) := by
  refine ⟨by rw [List.length_map]; exact h.len, fun i z hz => ?_⟩
  rw [List.getElem?_map] at hz
  cases e : ys[i]? with
  | none => rw [e] at hz; cases hz
  | some y =>
    rw [e] at hz
    obtain ⟨x, e1, r⟩ := h.get i y e
    exact ⟨x, e1, Option.some.inj hz ▸ m x y r⟩
theorem Al.append {xs' : List V} {ys' : List α} (h : Al R xs ys) (h' : Al R xs' ys') : Al R (xs ++ xs') (ys ++ ys') := by
  refine ⟨by rw [List.length_append, List.length_append, h.len, h'.len], fun i z hz => ?_⟩
  by_cases hi : i < ys.length
  · rw [List.getElem?_append_left hi] at hz
    obtain ⟨w, hw, rw'⟩ := h.get i z hz
    exact ⟨w, by rw [List.getElem?_append_left (by rw [h.len]; exact hi)]; exact hw, rw'⟩
  · rw [List.getElem?_append_right (by omega)] at hz
    obtain ⟨w, hw, rw'⟩ := h'.get _ z hz
    exact ⟨w, by rw [List.getElem?_append_right (by rw [h.len]; omega), h.len]; exact hw, rw'⟩
end
theorem take_snoc {α : Type} {l : List α} {i : Nat} {x : α} (h : l[i]? = some x) : l.take (i + 1) = l.take i ++ [x] := by
  rw [List.take_add_one, h]; rfl
theorem take_all {α : Type} (l : List α) : l.take l.length = l := List.take_length

/-! ### the bounds of the rates -/
structure RB where
  low : Option (Int × Int)
  high : Option (Int × Int)
def tight (s : RB) (a u : Rec) : RB :=
  if u.t - a.t = 0 then s
  else if 0 < u.t - a.t then
    (match s.high with
    | none => ⟨s.low, some (u.n + 1 - a.n, u.t - a.t)⟩
    | some h => if (u.n + 1 - a.n) * h.2 < h.1 * (u.t - a.t) then ⟨s.low, some (u.n + 1 - a.n, u.t - a.t)⟩ else s)
  else
    (match s.low with
    | none => ⟨some (0 - (u.n + 1 - a.n), 0 - (u.t - a.t)), s.high⟩
    | some l => if l.1 * (0 - (u.t - a.t)) < (0 - (u.n + 1 - a.n)) * l.2 then ⟨some (0 - (u.n + 1 - a.n), 0 - (u.t - a.t)), s.high⟩ else s)
/-- a rule fits the records; they are of moderate size -/
structure Fit (p q c : Int) (rs : List Rec) : Prop where
  p0 : 0 ≤ p
  q0 : 0 < q
  lo : ∀ r ∈ rs, r.lo = true → r.n * q ≤ p * r.t + c
  hi : ∀ r ∈ rs, r.lo = false → p * r.t + c < (r.n + 1) * q
  tb : ∀ r ∈ rs, r.t.natAbs < 2 ^ 50
  nb : ∀ r ∈ rs, r.n.natAbs < 2 ^ 150
structure RBok (p q : Int) (s : RB) : Prop where
  low : ∀ l, s.low = some l → 0 < l.2 ∧ l.1 * q < p * l.2 ∧ l.2.natAbs < 2 ^ 60 ∧ l.1.natAbs < 2 ^ 160
  high : ∀ h, s.high = some h → 0 < h.2 ∧ p * h.2 < h.1 * q ∧ h.2.natAbs < 2 ^ 60 ∧ h.1.natAbs < 2 ^ 160
theorem RBok.start (p q : Int) : RBok p q ⟨none, none⟩ := ⟨(fun l h => nomatch h), (fun h e => nomatch e)⟩
theorem room_pos {p q c : Int} {rs : List Rec} (F : Fit p q c rs) {a u : Rec} (ha : a ∈ rs) (hu : u ∈ rs) (la : a.lo = true) (lu : u.lo = false) : p * (u.t - a.t) < (u.n + 1 - a.n) * q := by
  have h1 := F.lo a ha la
  have h2 := F.hi u hu lu
  rw [Int.mul_sub, Int.sub_mul]
  omega
theorem room_zero {p q c : Int} {rs : List Rec} (F : Fit p q c rs) {a u : Rec} (ha : a ∈ rs) (hu : u ∈ rs) (la : a.lo = true) (lu : u.lo = false) (h0 : u.t - a.t = 0) : 0 < u.n + 1 - a.n := by
  have h := room_pos F ha hu la lu
  rw [h0, Int.mul_zero] at h
  have hq := F.q0
  by_cases z : 0 < u.n + 1 - a.n
  · exact z
  · exfalso
    have := Int.mul_le_mul_of_nonneg_right (show u.n + 1 - a.n ≤ 0 by omega) (Int.le_of_lt hq)
    omega
theorem RBok.tight {p q c : Int} {rs : List Rec} (F : Fit p q c rs) {s : RB} (h : RBok p q s) {a u : Rec} (ha : a ∈ rs) (hu : u ∈ rs) (la : a.lo = true) (lu : u.lo = false) : RBok p q (tight s a u) := by
  have hr := room_pos F ha hu la lu
  have t1 := F.tb a ha
  have t2 := F.tb u hu
  have n1 := F.nb a ha
  have n2 := F.nb u hu
  have e50 : (2 : Nat) ^ 50 = 1125899906842624 := by decide
  have e60 : (2 : Nat) ^ 60 = 1152921504606846976 := by decide
  have e150 : (2 : Nat) ^ 160 = 2 ^ 150 * 1024 := by decide
  have p150 : 1 ≤ (2 : Nat) ^ 150 := Nat.one_le_two_pow
  have bt : (u.t - a.t).natAbs < 2 ^ 60 := by omega
  have bn : (u.n + 1 - a.n).natAbs < 2 ^ 160 := by omega
  unfold KN.tight
  by_cases h0 : u.t - a.t = 0
  · rw [if_pos h0]
    exact h
  · rw [if_neg h0]
    by_cases h1 : 0 < u.t - a.t
    · rw [if_pos h1]
      have new : ∀ g, (some (u.n + 1 - a.n, u.t - a.t) : Option (Int × Int)) = some g → 0 < g.2 ∧ p * g.2 < g.1 * q ∧ g.2.natAbs < 2 ^ 60 ∧ g.1.natAbs < 2 ^ 160 := fun g e => by
        cases e
        exact ⟨h1, hr, bt, bn⟩
      split
      · exact ⟨h.low, new⟩
      · split
        · exact ⟨h.low, new⟩
        · exact h
    · rw [if_neg h1]
      have new : ∀ g, (some (0 - (u.n + 1 - a.n), 0 - (u.t - a.t)) : Option (Int × Int)) = some g → 0 < g.2 ∧ g.1 * q < p * g.2 ∧ g.2.natAbs < 2 ^ 60 ∧ g.1.natAbs < 2 ^ 160 := fun g e => by
        cases e
        refine ⟨by show 0 < 0 - (u.t - a.t); omega, ?_, by show (0 - (u.t - a.t)).natAbs < _; omega, by show (0 - (u.n + 1 - a.n)).natAbs < _; omega⟩
        show (0 - (u.n + 1 - a.n)) * q < p * (0 - (u.t - a.t))
        rw [Int.sub_mul, Int.mul_sub p 0, Int.zero_mul, Int.mul_zero]
        omega
      split
      · exact ⟨new, h.high⟩
      · split
        · exact ⟨new, h.high⟩
        · exact h
theorem tight_high {s : RB} {a u : Rec} (h : s.high ≠ none) : (tight s a u).high ≠ none := by
  unfold tight
  split
  · exact h
  · split
    · split
      · simp
      · split
        · simp
        · exact h
    · split
      · exact h
      · split
        · exact h
        · exact h
theorem tight_new {s : RB} {a u : Rec} (h : a.t < u.t) : (tight s a u).high ≠ none := by
  unfold tight
  rw [if_neg (by omega), if_pos (by omega)]
  split
  · simp
  · rename_i g e
    split
    · simp
    · rw [e]; simp
def inner (us : List Rec) (s : RB) (a : Rec) : RB := us.foldl (fun s u => tight s a u) s
def bounds (rs : List Rec) : RB := (rs.filter (·.lo)).foldl (fun s a => inner (rs.filter (!·.lo)) s a) ⟨none, none⟩
theorem inner_high {a : Rec} : ∀ {us : List Rec} {s : RB}, s.high ≠ none → (inner us s a).high ≠ none
  | [], _, h => h
  | u :: us, s, h => inner_high (us := us) (tight_high h)
theorem inner_new {a u : Rec} (h : a.t < u.t) : ∀ {us : List Rec} {s : RB}, u ∈ us → (inner us s a).high ≠ none
  | v :: us, s, m => by
    rcases List.mem_cons.mp m with rfl | m
    · exact inner_high (us := us) (tight_new h)
    · exact inner_new h (us := us) m
theorem outer_high {vs : List Rec} : ∀ {as : List Rec} {s : RB}, s.high ≠ none → (as.foldl (fun s a => inner vs s a) s).high ≠ none
  | [], _, h => h
  | a :: as, s, h => outer_high (as := as) (inner_high h)
theorem outer_new {vs : List Rec} {a u : Rec} (h : a.t < u.t) (hu : u ∈ vs) : ∀ {as : List Rec} {s : RB}, a ∈ as → (as.foldl (fun s a => inner vs s a) s).high ≠ none
  | b :: as, s, m => by
    rcases List.mem_cons.mp m with rfl | m
    · exact outer_high (as := as) (inner_new h hu)
    · exact outer_new h hu (as := as) m
theorem bounds_high {rs : List Rec} {a u : Rec} (ha : a ∈ rs) (hu : u ∈ rs) (la : a.lo = true) (lu : u.lo = false) (h : a.t < u.t) : (bounds rs).high ≠ none :=
  outer_new h (List.mem_filter.mpr ⟨hu, by simp [lu]⟩) (List.mem_filter.mpr ⟨ha, la⟩)
theorem inner_ok {p q c : Int} {rs : List Rec} (F : Fit p q c rs) {a : Rec} (ha : a ∈ rs) (la : a.lo = true) : ∀ {us : List Rec} {s : RB}, (∀ u ∈ us, u ∈ rs ∧ u.lo = false) → RBok p q s → RBok p q (inner us s a)
  | [], _, _, h => h
  | u :: us, s, hu, h => inner_ok F ha la (us := us) (fun v hv => hu v (List.mem_cons_of_mem _ hv)) (h.tight F ha (hu u List.mem_cons_self).1 la (hu u List.mem_cons_self).2)
theorem outer_ok {p q c : Int} {rs vs : List Rec} (F : Fit p q c rs) (hv : ∀ u ∈ vs, u ∈ rs ∧ u.lo = false) : ∀ {as : List Rec} {s : RB}, (∀ a ∈ as, a ∈ rs ∧ a.lo = true) → RBok p q s → RBok p q (as.foldl (fun s a => inner vs s a) s)
  | [], _, _, h => h
  | a :: as, s, ha, h => outer_ok F hv (as := as) (fun v hv => ha v (List.mem_cons_of_mem _ hv)) (inner_ok F (ha a List.mem_cons_self).1 (ha a List.mem_cons_self).2 hv h)
theorem mem_lo {rs : List Rec} {a : Rec} (h : a ∈ rs.filter (·.lo)) : a ∈ rs ∧ a.lo = true := List.mem_filter.mp h
theorem mem_hi {rs : List Rec} {a : Rec} (h : a ∈ rs.filter (!·.lo)) : a ∈ rs ∧ a.lo = false := by
  obtain ⟨h1, h2⟩ := List.mem_filter.mp h
  exact ⟨h1, by simpa using h2⟩
theorem bounds_ok {p q c : Int} {rs : List Rec} (F : Fit p q c rs) : RBok p q (bounds rs) := outer_ok F (fun u h => mem_hi h) (fun a h => mem_lo h) (RBok.start p q)

/-! ### the ends -/
def endsOf (s : RB) : M.Ends := ⟨match s.low with
  | none => none
  | some l => if l.1 < 0 then none else some (red l.1 l.2), match s.high with
  | some h => red h.1 h.2
  | none => (1, 1)⟩
theorem red_eq (a b : Int) (hb : 0 < b) : ∃ g : Int, 0 < g ∧ a = g * (red a b).1 ∧ b = g * (red a b).2 ∧ 0 < (red a b).2 := by
  have gp : 0 < (Int.gcd a b : Int) := by
    have : 0 < Int.gcd a b := Nat.pos_of_ne_zero fun z => by
      rw [Int.gcd_eq_zero_iff] at z
      omega
    omega
  have h1 : (Int.gcd a b : Int) * (a / (Int.gcd a b : Int)) = a := Int.mul_ediv_cancel' (Int.gcd_dvd_left a b)
  have h2 : (Int.gcd a b : Int) * (b / (Int.gcd a b : Int)) = b := Int.mul_ediv_cancel' (Int.gcd_dvd_right a b)
  refine ⟨(Int.gcd a b : Int), gp, h1.symm, h2.symm, ?_⟩
  refine M.lt_of_mul gp ?_
  show (Int.gcd a b : Int) * 0 < (Int.gcd a b : Int) * (b / (Int.gcd a b : Int))
  rw [h2, Int.mul_zero]
  exact hb
theorem endsOf_ok {p q : Int} (p0 : 0 ≤ p) (q0 : 0 < q) {s : RB} (h : RBok p q s) (hh : s.high ≠ none) : (endsOf s).Ok := by
  obtain ⟨g, eg⟩ : ∃ g, s.high = some g := by
    cases e : s.high with
    | none => exact absurd e hh
    | some g => exact ⟨g, rfl⟩
  obtain ⟨g1, g2, _, _⟩ := h.high g eg
  obtain ⟨k, kp, k1, k2, k3⟩ := red_eq g.1 g.2 g1
  have eh : (endsOf s).high = red g.1 g.2 := by
    unfold endsOf
    rw [eg]
  refine ⟨fun l hl => ?_, by rw [eh]; exact k3, ?_⟩
  · unfold endsOf at hl
    cases e : s.low with
    | none =>
      rw [e] at hl
      cases hl
    | some m =>
      rw [e] at hl
      have hl' : (if m.1 < 0 then none else some (red m.1 m.2)) = some l := hl
      obtain ⟨m1, _⟩ := h.low m e
      obtain ⟨j, jp, j1, j2, j3⟩ := red_eq m.1 m.2 m1
      split at hl'
      · cases hl'
      · cases hl'
        exact j3
  · rw [eh]
    have pos : 0 < g.1 := by
      refine M.lt_of_mul q0 ?_
      rw [Int.mul_zero, Int.mul_comm q g.1]
      have := Int.mul_nonneg p0 (Int.le_of_lt g1)
      omega
    have kpos : 0 < (red g.1 g.2).1 := by
      refine M.lt_of_mul kp ?_
      rw [Int.mul_zero]
      omega
    have hlow : (endsOf s).low = match s.low with
      | none => none
      | some l => if l.1 < 0 then none else some (red l.1 l.2) := rfl
    rw [hlow]
    cases e : s.low with
    | none => exact kpos
    | some m =>
      by_cases hm : m.1 < 0
      · show (match (if m.1 < 0 then none else some (red m.1 m.2)) with | none => 0 < (red g.1 g.2).1 | some l => l.1 * (red g.1 g.2).2 < (red g.1 g.2).1 * l.2)
        rw [if_pos hm]
        exact kpos
      · show (match (if m.1 < 0 then none else some (red m.1 m.2)) with | none => 0 < (red g.1 g.2).1 | some l => l.1 * (red g.1 g.2).2 < (red g.1 g.2).1 * l.2)
        rw [if_neg hm]
        obtain ⟨m1, m2, _, _⟩ := h.low m e
        obtain ⟨j, jp, j1, j2, j3⟩ := red_eq m.1 m.2 m1
        show (red m.1 m.2).1 * (red g.1 g.2).2 < (red g.1 g.2).1 * (red m.1 m.2).2
        generalize (red m.1 m.2).1 = A at *
        generalize (red m.1 m.2).2 = B at *
        generalize (red g.1 g.2).1 = C at *
        generalize (red g.1 g.2).2 = D at *
        -- A q < p B, p D < C q
        have a1 : A * q < p * B := by
          refine M.lt_of_mul jp ?_
          rw [j1, j2] at m2
          rw [← Int.mul_assoc, Int.mul_left_comm j p B]
          exact m2
        have a2 : p * D < C * q := by
          refine M.lt_of_mul kp ?_
          rw [k1, k2] at g2
          rw [← Int.mul_assoc k C q, Int.mul_left_comm k p D]
          exact g2
        refine M.lt_of_mul q0 ?_
        have b1 : A * q * D < p * B * D := Int.mul_lt_mul_of_pos_right a1 k3
        have b2 : p * D * B < C * q * B := Int.mul_lt_mul_of_pos_right a2 j3
        have c1 : q * (A * D) = A * q * D := by rw [← Int.mul_assoc, Int.mul_comm q A]
        have c2 : q * (C * B) = C * q * B := by rw [← Int.mul_assoc, Int.mul_comm q C]
        have c3 : p * B * D = p * D * B := Int.mul_right_comm _ _ _
        omega
/-- no rate is left: is_empty's test -/
theorem rb_sep {p q : Int} (p0 : 0 ≤ p) (q0 : 0 < q) {s : RB} (h : RBok p q s) {l g : Int × Int} (hl : s.low = some l) (hg : s.high = some g) : l.1 * g.2 < g.1 * l.2 := by
  obtain ⟨l1, l2, _, _⟩ := h.low l hl
  obtain ⟨g1, g2, _, _⟩ := h.high g hg
  refine M.lt_of_mul q0 ?_
  have b1 : l.1 * q * g.2 < p * l.2 * g.2 := Int.mul_lt_mul_of_pos_right l2 g1
  have b2 : p * g.2 * l.2 < g.1 * q * l.2 := Int.mul_lt_mul_of_pos_right g2 l1
  have c1 : q * (l.1 * g.2) = l.1 * q * g.2 := by rw [← Int.mul_assoc, Int.mul_comm q l.1]
  have c2 : q * (g.1 * l.2) = g.1 * q * l.2 := by rw [← Int.mul_assoc, Int.mul_comm q g.1]
  have c3 : p * l.2 * g.2 = p * g.2 * l.2 := Int.mul_right_comm _ _ _
  omega
theorem rb_pos {p q : Int} (p0 : 0 ≤ p) (q0 : 0 < q) {s : RB} (h : RBok p q s) {g : Int × Int} (hg : s.high = some g) : 0 < g.1 := by
  obtain ⟨g1, g2, _, _⟩ := h.high g hg
  refine M.lt_of_mul q0 ?_
  rw [Int.mul_zero, Int.mul_comm q g.1]
  have := Int.mul_nonneg p0 (Int.le_of_lt g1)
  omega
end KN

/-! ## KG -/
set_option Elab.async false
set_option linter.all false
set_option maxRecDepth 100000
set_option maxHeartbeats 4000000
/-! RateBounds. -/
namespace KN
open PySem PySem.Spec PyProof.Rows L2 LamX
def rbf (a b c d e : V) : List (Str × V) := [("low", a), ("low_pair", b), ("high", c), ("high_pair", d), ("clash", e)]
/-- None, or a new pair of ints -/
def OptAt (H : Hp) (v : V) : Option (Int × Int) → Prop
  | none => v = .non
  | some g => ∃ t, v = .ref t ∧ H t = some (.tup [.int g.1, .int g.2])
theorem OptAt.same {H H' : Hp} {v : V} {o : Option (Int × Int)} (h : OptAt H v o) (s : ∀ t xs, H t = some (.tup xs) → H' t = some (.tup xs)) : OptAt H' v o := by
  cases o with
  | none => exact h
  | some g =>
    obtain ⟨t, e, ht⟩ := h
    exact ⟨t, e, s _ _ ht⟩
section
variable {P : Program} {w : World} {K : PySem.W.Frag} {mg : Str → Option Value} {base : Heap}
abbrev CB (K : PySem.W.Frag) : Addr := He.ga K "RateBounds"
def spTighten (C : Addr) : Sp := fun vs H Q _ => ∃ (p dx x y : Addr) (pv vl vlp vh vhp : V) (s : RB) (a u : Rec), vs = [.ref p, pv, .ref x, .ref y] ∧ H p = some (.ins C dx (rbf vl vlp vh vhp .non)) ∧ OptAt H vl s.low ∧ OptAt H vh s.high ∧ H x = some (.tup a.v) ∧ H y = some (.tup u.v) ∧
  (u.t - a.t).natAbs < 2 ^ 60 ∧ (∀ l, s.low = some l → l.2.natAbs < 2 ^ 60) ∧ (∀ l, s.high = some l → l.2.natAbs < 2 ^ 60) ∧ (u.t - a.t = 0 → 0 < u.n + 1 - a.n) ∧
  ∀ (H' : Hp) (vl' vlp' vh' vhp' : V), SameB p H H' → H' p = some (.ins C dx (rbf vl' vlp' vh' vhp' .non)) → OptAt H' vl' (tight s a u).low → OptAt H' vh' (tight s a u).high → Q .non H'
theorem ok_tighten (T : Tx K mg) : Met P w K mg base 2 (CB K) "tighten" p_RateBounds_tighten (spTighten (CB K)) := by
  obtain ⟨fd, F⟩ := f_RateBounds_tighten T
  have GL : Cal P w K mg base 1 "is_less" p_is_less spLess := ok_is_less T
  refine ⟨_, fd, m_RateBounds_tighten T, okD F sc_RateBounds_tighten (fun vs H Q E h => ?_) (fun cdv A outer s H vs Q E hr h => ?_), F.bindsN fun _ _ _ _ _ _ us hl => match us, hl with | [_, _, _, _], _ => rfl⟩
  · obtain ⟨p, dx, x, y, pv, vl, vlp, vh, vhp, s, a, u, rfl, _⟩ := h
    rfl
  · obtain ⟨p, dx, x, y, pv', vl, vlp, vh, vhp, s, a, u, rfl, hp, hl, hh, hx, hy, bt, bl, bh, h0, q⟩ := h
    have c := c_RateBounds T
    have tx : SqT K H x a.v := .inl (.inl hx)
    have ty : SqT K H y u.v := .inl (.inl hy)
    refine ⟨_, pss_cons (ps_par (i := 4) (j := 5) rfl sc_RateBounds_tighten.nd rfl rfl (by decide) rfl rfl (pa_cons (pe_op op_sub (pe_op op_add (pe_ix ix_tup (pv 3) pe_int (fun _ _ => rfl)) pe_int) (pe_ix ix_tup (pv 2) pe_int (fun _ _ => rfl))) (pa_cons (pe_op op_sub (pe_ix ix_tup (pv 3) pe_int (fun _ _ => rfl)) (pe_ix ix_tup (pv 2) pe_int (fun _ _ => rfl))) pa_nil)) (by rfl))
      (pss_one (ps_if (pt_cmpR op_eq (pv 5) pe_int (nomark _)) (pss_one (ps_if (pt_cmpR op_le (pv 4) pe_int (nomark _)) (pss_one ps_never) pss_nil))
        (pss_one (ps_if (pt_cmpR op_gt (pv 5) pe_int (nomark _))
          (pss_one (ps_if (PW.pt (pw_or (pt_cmpR op_isN (pe_fld (pv 0) rfl) pe_non (nomark _)) (pw_or1 (pt_val (pe_cal GL hr (by rfl) (pa_cons (pe_tup (pa_cons (pv 4) (pa_cons (pv 5) pa_nil))) (pa_cons (pe_fld (pv 0) rfl) pa_nil)))))))
            (pss_cons (ps_fld (pv 0) (pe_tup (pa_cons (pv 4) (pa_cons (pv 5) pa_nil))) rfl) (pss_one (ps_fld (pv 0) (pv 1) rfl))) pss_nil))
          (pss_one (ps_if (PW.pt (pw_or (pt_cmpR op_isN (pe_fld (pv 0) rfl) pe_non (nomark _)) (pw_or1 (pt_val (pe_cal GL hr (by rfl) (pa_cons (pe_fld (pv 0) rfl) (pa_cons (pe_tup (pa_cons (pe_op op_sub pe_int (pv 4)) (pa_cons (pe_op op_sub pe_int (pv 5)) pa_nil))) pa_nil)))))))
            (pss_cons (ps_fld (pv 0) (pe_tup (pa_cons (pe_op op_sub pe_int (pv 4)) (pa_cons (pe_op op_sub pe_int (pv 5)) pa_nil))) rfl) (pss_one (ps_fld (pv 0) (pv 1) rfl))) pss_nil)))))), ?_⟩
    refine ⟨_, rfl, y, u.v, 2, .int u.n, rfl, rfl, ty, atI_nat (j := 2) rfl, _, _, rfl, rfl, _, rfl, x, a.v, 2, .int a.n, rfl, rfl, tx, atI_nat (j := 2) rfl, _, _, rfl, rfl,
      _, rfl, y, u.v, 1, .int u.t, rfl, rfl, ty, atI_nat (j := 1) rfl, _, rfl, x, a.v, 1, .int a.t, rfl, rfl, tx, atI_nat (j := 1) rfl, _, _, rfl, rfl, _, _, rfl, ?_⟩
    refine ⟨_, rfl, rfl, _, rfl, ite2 (fun e => ?_) (fun e => ?_)⟩
    · -- the same time
      have e0 : u.t - a.t = 0 := V.int.inj (of_decide_eq_true e)
      refine ⟨_, rfl, _, _, rfl, rfl, _, rfl, ?_⟩
      rw [decide_eq_false (by have := h0 e0; omega : ¬ u.n + 1 - a.n ≤ 0)]
      refine iteF ?_
      have et : tight s a u = s := if_pos e0
      exact q H vl vlp vh vhp (SameB.refl p H) hp (by rw [et]; exact hl) (by rw [et]; exact hh)
    · have e0 : ¬ u.t - a.t = 0 := fun z => e (decide_eq_true (congrArg V.int z))
      refine ⟨_, rfl, _, _, rfl, rfl, _, rfl, ite2 (fun e1 => ?_) (fun e1 => ?_)⟩
      · -- an upper bound
        have e2 : 0 < u.t - a.t := of_decide_eq_true e1
        have et : tight s a u = (match s.high with
          | none => ⟨s.low, some (u.n + 1 - a.n, u.t - a.t)⟩
          | some h => if (u.n + 1 - a.n) * h.2 < h.1 * (u.t - a.t) then ⟨s.low, some (u.n + 1 - a.n, u.t - a.t)⟩ else s) := by
          unfold tight
          rw [if_neg e0, if_pos e2]
          all_goals rfl
        -- the store
        have store : ∀ Hs : Hp, Same H Hs → tight s a u = ⟨s.low, some (u.n + 1 - a.n, u.t - a.t)⟩ → ∀ t, Hs t = none →
            ∀ o1 o2, o1 = HO.ins (CB K) dx (rbf vl vlp (.ref t) vhp .non) → o2 = HO.ins (CB K) dx (rbf vl vlp (.ref t) pv' .non) → Q .non (upd (upd (upd Hs t (.tup [.int (u.n + 1 - a.n), .int (u.t - a.t)])) p o1) p o2) := by
          rintro Hs sm et t nt o1 o2 rfl rfl
          have npt : p ≠ t := ne_of_none (sm _ _ hp) nt
          have st : SameB p H (upd (upd (upd Hs t (.tup [.int (u.n + 1 - a.n), .int (u.t - a.t)])) p (HO.ins (CB K) dx (rbf vl vlp (.ref t) vhp .non))) p (HO.ins (CB K) dx (rbf vl vlp (.ref t) pv' .non))) :=
            ((SameB.of (sm.trans (same_new nt))).upd).upd
          have keep : ∀ r xs, H r = some (.tup xs) → (upd (upd (upd Hs t (.tup [.int (u.n + 1 - a.n), .int (u.t - a.t)])) p (HO.ins (CB K) dx (rbf vl vlp (.ref t) vhp .non))) p (HO.ins (CB K) dx (rbf vl vlp (.ref t) pv' .non))) r = some (.tup xs) := fun r xs hr' =>
            st r _ hr' (ne_of hr' hp (by intro z; cases z))
          refine q _ vl vlp (.ref t) pv' st upd_same ?_ ?_
          · rw [et]
            exact hl.same keep
          · rw [et]
            refine ⟨t, rfl, ?_⟩
            rw [upd_ne npt.symm, upd_ne npt.symm, upd_same]
        cases eh : s.high with
        | none =>
          rw [eh] at hh et
          cases hh
          refine ⟨_, rfl, p, CB K, dx, _, _, rfl, hp, c, a_RateBounds_high T, rfl, rfl, true, rfl, iteT ?_⟩
          refine iteT ?_
          refine ⟨_, rfl, _, rfl, by show 2 ≤ sizeLine; decide, fun t nt => ?_⟩
          have npt : p ≠ t := ne_of_none hp nt
          refine ⟨_, rfl, p, CB K, dx, _, rfl, (by rw [upd_ne npt]; exact hp), c, a_RateBounds_high T, (by show 5 < 1000; decide), ?_⟩
          refine ⟨_, rfl, _, rfl, p, CB K, dx, _, rfl, upd_same, c, a_RateBounds_high_pair T, (by show 5 < 1000; decide), ?_⟩
          exact store H (Same.refl H) et t nt _ _ rfl rfl
        | some g =>
          rw [eh] at hh et
          obtain ⟨th, rfl, hth⟩ := hh
          have bg := bh g eh
          refine ⟨_, rfl, p, CB K, dx, _, _, rfl, hp, c, a_RateBounds_high T, rfl, rfl, false, rfl, iteF ?_⟩
          refine ⟨_, rfl, _, rfl, by show 2 ≤ sizeLine; decide, fun t1 nt1 => ?_⟩
          have np1 : p ≠ t1 := ne_of_none hp nt1
          have nh1 : th ≠ t1 := ne_of_none hth nt1
          have sm1 : Same H (upd H t1 (.tup [.int (u.n + 1 - a.n), .int (u.t - a.t)])) := same_new nt1
          refine ⟨_, rfl, p, CB K, dx, _, _, rfl, sm1 _ _ hp, c, a_RateBounds_high T, rfl, t1, th, _, _, _, _, rfl, upd_same, sm1 _ _ hth, bup bt (by decide), bup bg (by decide), _, rfl, ite2 (fun e3 => ?_) (fun e3 => ?_)⟩
          · have e4 : (u.n + 1 - a.n) * g.2 < g.1 * (u.t - a.t) := of_decide_eq_true e3
            refine ⟨_, rfl, _, rfl, by show 2 ≤ sizeLine; decide, fun t nt => ?_⟩
            have npt : p ≠ t := ne_of_none (sm1 _ _ hp) nt
            refine ⟨_, rfl, p, CB K, dx, _, rfl, (by rw [upd_ne npt]; exact sm1 _ _ hp), c, a_RateBounds_high T, (by show 5 < 1000; decide), ?_⟩
            refine ⟨_, rfl, _, rfl, p, CB K, dx, _, rfl, upd_same, c, a_RateBounds_high_pair T, (by show 5 < 1000; decide), ?_⟩
            exact store _ sm1 (by rw [et]; exact if_pos e4) t nt _ _ rfl rfl
          · have e4 : ¬ (u.n + 1 - a.n) * g.2 < g.1 * (u.t - a.t) := fun z => e3 (decide_eq_true z)
            have et' : tight s a u = s := by rw [et]; exact if_neg e4
            exact q _ vl vlp _ vhp (SameB.of sm1) (sm1 _ _ hp) (by rw [et']; exact hl.same fun r xs z => sm1 _ _ z) (by rw [et', eh]; exact ⟨th, rfl, sm1 _ _ hth⟩)
      · -- a lower bound
        have e2 : ¬ 0 < u.t - a.t := fun z => e1 (decide_eq_true z)
        have et : tight s a u = (match s.low with
          | none => ⟨some (0 - (u.n + 1 - a.n), 0 - (u.t - a.t)), s.high⟩
          | some l => if l.1 * (0 - (u.t - a.t)) < (0 - (u.n + 1 - a.n)) * l.2 then ⟨some (0 - (u.n + 1 - a.n), 0 - (u.t - a.t)), s.high⟩ else s) := by
          unfold tight
          rw [if_neg e0, if_neg e2]
          all_goals rfl
        have store : ∀ Hs : Hp, Same H Hs → tight s a u = ⟨some (0 - (u.n + 1 - a.n), 0 - (u.t - a.t)), s.high⟩ → ∀ t, Hs t = none →
            ∀ o1 o2, o1 = HO.ins (CB K) dx (rbf (.ref t) vlp vh vhp .non) → o2 = HO.ins (CB K) dx (rbf (.ref t) pv' vh vhp .non) → Q .non (upd (upd (upd Hs t (.tup [.int (0 - (u.n + 1 - a.n)), .int (0 - (u.t - a.t))])) p o1) p o2) := by
          rintro Hs sm et t nt o1 o2 rfl rfl
          have npt : p ≠ t := ne_of_none (sm _ _ hp) nt
          have st : SameB p H (upd (upd (upd Hs t (.tup [.int (0 - (u.n + 1 - a.n)), .int (0 - (u.t - a.t))])) p (HO.ins (CB K) dx (rbf (.ref t) vlp vh vhp .non))) p (HO.ins (CB K) dx (rbf (.ref t) pv' vh vhp .non))) :=
            ((SameB.of (sm.trans (same_new nt))).upd).upd
          have keep : ∀ r xs, H r = some (.tup xs) → (upd (upd (upd Hs t (.tup [.int (0 - (u.n + 1 - a.n)), .int (0 - (u.t - a.t))])) p (HO.ins (CB K) dx (rbf (.ref t) vlp vh vhp .non))) p (HO.ins (CB K) dx (rbf (.ref t) pv' vh vhp .non))) r = some (.tup xs) := fun r xs hr' =>
            st r _ hr' (ne_of hr' hp (by intro z; cases z))
          refine q _ (.ref t) pv' vh vhp st upd_same ?_ ?_
          · rw [et]
            refine ⟨t, rfl, ?_⟩
            rw [upd_ne npt.symm, upd_ne npt.symm, upd_same]
          · rw [et]
            exact hh.same keep
        cases eh : s.low with
        | none =>
          rw [eh] at hl et
          cases hl
          refine ⟨_, rfl, p, CB K, dx, _, _, rfl, hp, c, a_RateBounds_low T, rfl, rfl, true, rfl, iteT ?_⟩
          refine iteT ?_
          refine ⟨_, rfl, _, _, rfl, rfl, _, rfl, _, _, rfl, rfl, by show 2 ≤ sizeLine; decide, fun t nt => ?_⟩
          have npt : p ≠ t := ne_of_none hp nt
          refine ⟨_, rfl, p, CB K, dx, _, rfl, (by rw [upd_ne npt]; exact hp), c, a_RateBounds_low T, (by show 5 < 1000; decide), ?_⟩
          refine ⟨_, rfl, _, rfl, p, CB K, dx, _, rfl, upd_same, c, a_RateBounds_low_pair T, (by show 5 < 1000; decide), ?_⟩
          exact store H (Same.refl H) et t nt _ _ rfl rfl
        | some g =>
          rw [eh] at hl et
          obtain ⟨th, rfl, hth⟩ := hl
          have bg := bl g eh
          refine ⟨_, rfl, p, CB K, dx, _, _, rfl, hp, c, a_RateBounds_low T, rfl, rfl, false, rfl, iteF ?_⟩
          refine ⟨_, rfl, p, CB K, dx, _, _, rfl, hp, c, a_RateBounds_low T, rfl, _, rfl, _, _, rfl, rfl, _, rfl, _, _, rfl, rfl, by show 2 ≤ sizeLine; decide, fun t1 nt1 => ?_⟩
          have np1 : p ≠ t1 := ne_of_none hp nt1
          have nh1 : th ≠ t1 := ne_of_none hth nt1
          have sm1 : Same H (upd H t1 (.tup [.int (0 - (u.n + 1 - a.n)), .int (0 - (u.t - a.t))])) := same_new nt1
          refine ⟨th, t1, _, _, _, _, rfl, sm1 _ _ hth, upd_same, bup bg (by decide), (by have := bup bt (show 60 ≤ 64 by decide); omega), _, rfl, ite2 (fun e3 => ?_) (fun e3 => ?_)⟩
          · have e4 : g.1 * (0 - (u.t - a.t)) < (0 - (u.n + 1 - a.n)) * g.2 := of_decide_eq_true e3
            refine ⟨_, rfl, _, _, rfl, rfl, _, rfl, _, _, rfl, rfl, by show 2 ≤ sizeLine; decide, fun t nt => ?_⟩
            have npt : p ≠ t := ne_of_none (sm1 _ _ hp) nt
            refine ⟨_, rfl, p, CB K, dx, _, rfl, (by rw [upd_ne npt]; exact sm1 _ _ hp), c, a_RateBounds_low T, (by show 5 < 1000; decide), ?_⟩
            refine ⟨_, rfl, _, rfl, p, CB K, dx, _, rfl, upd_same, c, a_RateBounds_low_pair T, (by show 5 < 1000; decide), ?_⟩
            exact store _ sm1 (by rw [et]; exact if_pos e4) t nt _ _ rfl rfl
          · have e4 : ¬ g.1 * (0 - (u.t - a.t)) < (0 - (u.n + 1 - a.n)) * g.2 := fun z => e3 (decide_eq_true z)
            have et' : tight s a u = s := by rw [et]; exact if_neg e4
            exact q _ _ vlp vh vhp (SameB.of sm1) (sm1 _ _ hp) (by rw [et', eh]; exact ⟨th, rfl, sm1 _ _ hth⟩) (by rw [et']; exact hh.same fun r xs z => sm1 _ _ z)
end
end KN

/-! ## KG2 -/
set_option Elab.async false
set_option linter.all false
set_option maxRecDepth 100000
set_option maxHeartbeats 4000000
/-! RateBounds.__init__, is_empty, ends; ends_of. -/
namespace KN
open PySem PySem.Spec PyProof.Rows L2 LamX
theorem kind_lo (r : Rec) : decide (V.str r.kind = V.str "at least") = r.lo := by
  unfold Rec.kind
  cases r.lo <;> decide +kernel
theorem kind_hi (r : Rec) : decide (V.str r.kind = V.str "at most") = !r.lo := by
  unfold Rec.kind
  cases r.lo <;> decide +kernel
/-! ### a list that a comprehension fills -/
/-- all but lists are as they were -/
def SameN (H H' : Hp) : Prop := ∀ b o, H b = some o → (∀ xs, o ≠ .lst xs) → H' b = some o
theorem SameN.of {H H' : Hp} (s : Same H H') : SameN H H' := fun b o h _ => s b o h
theorem SameN.trans {H H1 H2 : Hp} (a : SameN H H1) (b : SameN H1 H2) : SameN H H2 := fun c o h n => b c o (a c o h n) n
theorem SameN.lst {H : Hp} {D : Addr} {xs : List V} {o : HO} (h : H D = some (.lst xs)) : SameN H (upd H D o) := fun b u e n => by
  rw [upd_ne (ne_of e h (n xs))]
  exact e
def Stab {α : Type} (R : Hp → V → α → Prop) : Prop := ∀ H H' x y, SameN H H' → R H x y → R H' x y
structure CompInv {α : Type} (R : Hp → V → α → Prop) (H1 : Hp) (D : Addr) (H' : Hp) (ys : List α) : Prop where
  same : Same H1 H'
  at_ : ∃ acc, H' D = some (.lst acc) ∧ Al (R H') acc ys
section
variable {α : Type} {R : Hp → V → α → Prop} {H1 H2 H3 : Hp} {D : Addr} {ys : List α}
theorem CompInv.start (n : H1 D = none) : CompInv R H1 D (upd H1 D (.lst [])) [] := ⟨same_new n, [], upd_same, Al.nil⟩
theorem CompInv.keep (st : Stab R) (c : CompInv R H1 D H2 ys) (s : Same H2 H3) : CompInv R H1 D H3 ys := by
  obtain ⟨acc, h, al⟩ := c.at_
  exact ⟨c.same.trans s, acc, s _ _ h, al.mono fun x y r => st _ _ x y (SameN.of s) r⟩
theorem small_lt {n : Nat} (h : n ≤ 100000) : n < sizeLine := Nat.lt_of_le_of_lt h (by decide)
theorem CompInv.push (st : Stab R) (n : H1 D = none) (c : CompInv R H1 D H2 ys) (s : Same H2 H3) {x : V} {y : α} (r : R H3 x y) (hz : ys.length ≤ 100000) :
    ∃ acc, H3 D = some (.lst acc) ∧ acc.length < sizeLine ∧ CompInv R H1 D (upd H3 D (.lst (acc ++ [x]))) (ys ++ [y]) := by
  obtain ⟨acc, h, al⟩ := c.at_
  have h3 := s _ _ h
  have sn : SameN H3 (upd H3 D (.lst (acc ++ [x]))) := SameN.lst h3
  refine ⟨acc, h3, small_lt (by rw [al.len]; exact hz), same_mut (c.same.trans s) n, _, upd_same, ?_⟩
  exact (al.mono fun x y r => st _ _ x y ((SameN.of s).trans sn) r).snoc (st _ _ x y sn r)
end
theorem filter_snoc {α : Type} (f : α → Bool) {l : List α} {i : Nat} {x : α} (h : l[i]? = some x) : (l.take (i + 1)).filter f = (l.take i).filter f ++ if f x then [x] else [] := by
  rw [take_snoc h, List.filter_append]
  congr 1
  cases e : f x with
  | true => simp [e]
  | false => simp [e]
theorem fold_snoc {α β : Type} (f : β → α → β) (s : β) {l : List α} {i : Nat} {x : α} (h : l[i]? = some x) : (l.take (i + 1)).foldl f s = f ((l.take i).foldl f s) x := by
  rw [take_snoc h, List.foldl_append]; rfl
theorem len_filter_take {α : Type} (f : α → Bool) (l : List α) (i : Nat) : ((l.take i).filter f).length ≤ l.length :=
  Nat.le_trans (List.length_filter_le f _) (by rw [List.length_take]; exact Nat.min_le_right _ _)
/-- an item (index, record) -/
def PR (H : Hp) (x : V) (r : Rec) : Prop := ∃ (t b : Addr) (j : V), x = .ref t ∧ H t = some (.tup [j, .ref b]) ∧ H b = some (.tup r.v)
theorem PR.stab : Stab PR := fun H H' x r s ⟨t, b, j, e, h1, h2⟩ => ⟨t, b, j, e, s _ _ h1 (fun _ z => by cases z), s _ _ h2 (fun _ z => by cases z)⟩
theorem PR.sameB {H H' : Hp} {p C dx : Addr} {fs : List (Str × V)} (s : SameB p H H') (hp : H p = some (.ins C dx fs)) (x : V) (r : Rec) (h : PR H x r) : PR H' x r := by
  obtain ⟨t, b, j, e, h1, h2⟩ := h
  exact ⟨t, b, j, e, s _ _ h1 (ne_of h1 hp (by intro z; cases z)), s _ _ h2 (ne_of h2 hp (by intro z; cases z))⟩
section
variable {P : Program} {w : World} {K : PySem.W.Frag} {mg : Str → Option Value} {base : Heap}
def spRB (C : Addr) : Sp := fun vs H Q _ => ∃ (p dx a : Addr) (xs : List V) (rs : List Rec) (fp fq fc : Int), vs = [.ref p, .ref a] ∧ H p = some (.ins C dx []) ∧ RecsAt H a xs rs ∧ rs.length ≤ 1000 ∧ Fit fp fq fc rs ∧
  ∀ (H' : Hp) (vl vlp vh vhp : V), SameB p H H' → H' p = some (.ins C dx (rbf vl vlp vh vhp .non)) → OptAt H' vl (bounds rs).low → OptAt H' vh (bounds rs).high → Q .non H'
theorem ok_RB (T : Tx K mg) : Mak P w K mg base 3 "RateBounds" (CB K) p_RateBounds_init (spRB (CB K)) := by
  obtain ⟨fd, F⟩ := f_RateBounds_init T
  have GT : Met P w K mg base 2 (CB K) "tighten" p_RateBounds_tighten (spTighten (CB K)) := ok_tighten T
  refine ⟨_, fd, g_RateBounds T, k_RateBounds T, okD F sc_RateBounds_init (fun vs H Q E h => ?_) (fun cdv A outer s H vs Q E hr h => ?_), F.bindsN fun _ _ _ _ _ _ us hl => match us, hl with | [_, _], _ => rfl⟩
  · obtain ⟨p, dx, a, xs, rs, fp, fq, fc, rfl, _⟩ := h
    rfl
  · obtain ⟨p, dx, a, xs, rs, fp, fq, fc, rfl, hp, hR, hz, FT, q⟩ := h
    have c := c_RateBounds T
    refine ⟨_, (pss_cons (ps_fld (pv 0) pe_non rfl) (pss_cons (ps_fld (pv 0) pe_non rfl) (pss_cons (ps_fld (pv 0) pe_non rfl) (pss_cons (ps_fld (pv 0) pe_non rfl) (pss_cons (ps_fld (pv 0) pe_non rfl) (pss_cons (ps_setLc (i := 2) (own := [("index", 8), ("record", 9)]) (g := gTup K 2 (gCons (gName 8) (gCons (gName 9) gNil))) (tt := tTest (tOp rEq (tOp (rIxT K) (tVar 9) (tC (.int 0))) (tC (.str "at least")))) rfl sc_RateBounds_init.nd rfl rfl (sw_true rfl rfl rfl (by decide +kernel)) (pi_enum (by rfl) (t_enumerate T) (pa_cons (pv 1) pa_nil)) (blkOk_by (N := n_RateBounds_init) (sc := defScope s_RateBounds_init) (by decide +kernel))
        (fun _ _ _ _ _ => pg_tup rfl (pgs_cons (pg_name (i := 8) sc_RateBounds_init.nd rfl (Or.inl rfl)) (pgs_cons (pg_name (i := 9) sc_RateBounds_init.nd rfl (Or.inl rfl)) pgs_nil)))
        (fun _ _ _ _ _ => pts_one (pt_cmpR op_eq (pe_ix ix_tup (pv 9) pe_int (fun _ _ => rfl)) pe_str (nomark _))) (fun _ _ _ _ _ => pe_tup (pa_cons (pv 8) (pa_cons (pv 9) pa_nil)))) (pss_cons (ps_setLc (i := 3) (own := [("index", 8), ("record", 9)]) (g := gTup K 2 (gCons (gName 8) (gCons (gName 9) gNil))) (tt := tTest (tOp rEq (tOp (rIxT K) (tVar 9) (tC (.int 0))) (tC (.str "at most")))) rfl sc_RateBounds_init.nd rfl rfl (sw_true rfl rfl rfl (by decide +kernel)) (pi_enum (by rfl) (t_enumerate T) (pa_cons (pv 1) pa_nil)) (blkOk_by (N := n_RateBounds_init) (sc := defScope s_RateBounds_init) (by decide +kernel))
        (fun _ _ _ _ _ => pg_tup rfl (pgs_cons (pg_name (i := 8) sc_RateBounds_init.nd rfl (Or.inl rfl)) (pgs_cons (pg_name (i := 9) sc_RateBounds_init.nd rfl (Or.inl rfl)) pgs_nil)))
        (fun _ _ _ _ _ => pts_one (pt_cmpR op_eq (pe_ix ix_tup (pv 9) pe_int (fun _ _ => rfl)) pe_str (nomark _))) (fun _ _ _ _ _ => pe_tup (pa_cons (pv 8) (pa_cons (pv 9) pa_nil)))) (pss_one (ps_for PassesOwn.never rfl (pi_list (pv 2)) (pg_tup rfl (pgs_cons (pg_name (i := 4) sc_RateBounds_init.nd rfl (Or.inl rfl)) (pgs_cons (pg_name (i := 5) sc_RateBounds_init.nd rfl (Or.inl rfl)) pgs_nil)))
        (pss_one (ps_for PassesOwn.never rfl (pi_list (pv 3)) (pg_tup rfl (pgs_cons (pg_name (i := 6) sc_RateBounds_init.nd rfl (Or.inl rfl)) (pgs_cons (pg_name (i := 7) sc_RateBounds_init.nd rfl (Or.inl rfl)) pgs_nil)))
          (pss_one (ps_expr (pe_met (pv 0) c GT hr (pa_cons (pe_tup (pa_cons (pv 4) (pa_cons (pv 6) pa_nil))) (pa_cons (pv 5) (pa_cons (pv 7) pa_nil))))))))))))))))), ?_⟩
    -- the five fields
    refine ⟨_, rfl, p, CB K, dx, _, rfl, hp, c, a_RateBounds_low T, (by show 0 < 1000; decide), ?_⟩
    refine ⟨_, rfl, p, CB K, dx, _, rfl, upd_same, c, a_RateBounds_low_pair T, (by show 1 < 1000; decide), ?_⟩
    refine ⟨_, rfl, p, CB K, dx, _, rfl, upd_same, c, a_RateBounds_high T, (by show 2 < 1000; decide), ?_⟩
    refine ⟨_, rfl, p, CB K, dx, _, rfl, upd_same, c, a_RateBounds_high_pair T, (by show 3 < 1000; decide), ?_⟩
    refine ⟨_, rfl, p, CB K, dx, _, rfl, upd_same, c, a_RateBounds_clash T, (by show 4 < 1000; decide), ?_⟩
    rw [upd_upd, upd_upd, upd_upd, upd_upd]
    have hp1 : (upd H p (.ins (CB K) dx (rbf .non .non .non .non .non))) p = some (.ins (CB K) dx (rbf .non .non .non .non .non)) := upd_same
    have sb1 : SameB p H (upd H p (.ins (CB K) dx (rbf .non .non .non .non .non))) := (SameB.refl p H).upd
    show tSeq _ _ _ _ (upd H p (.ins (CB K) dx (rbf .non .non .non .non .non)))
    generalize upd H p (.ins (CB K) dx (rbf .non .non .non .non .non)) = H1 at hp1 sb1 ⊢
    have hR1 : RecsAt H1 a xs rs := ⟨sb1 _ _ hR.at_ (ne_of hR.at_ hp (by intro z; cases z)), hR.len, fun i r e => by
      obtain ⟨b, e1, e2⟩ := hR.get i r e
      exact ⟨b, e1, sb1 _ _ e2 (ne_of e2 hp (by intro z; cases z))⟩⟩
    -- lower
    refine ⟨_, rfl, a, xs, rfl, .inl (.inl hR1.at_), fun D1 nD1 => ?_⟩
    refine lc_it (walk_enum (K := K) (a := a) (xs := xs)) (fun i H' => CompInv PR H1 D1 H' ((rs.take i).filter (·.lo))) (CompInv.start nD1) (fun i H' _ z => .inl (.inl (z.same _ _ hR1.at_))) (fun i x H2 H3 hi z y => ?_) (fun H2 z => ?_)
    · obtain ⟨TT, x1, x2, rfl, nT, rfl, e1, e2⟩ := y
      obtain ⟨b, r, rfl, er, hb⟩ := hR1.back e2
      have s3 : Same H2 (upd H2 TT (.tup [x1, .ref b])) := same_new nT
      have hb3 := s3 _ _ (z.same _ _ hb)
      refine ⟨TT, [x1, .ref b], rfl, .inl (.inl upd_same), rfl, x1, [.ref b], rfl, .ref b, [], rfl, rfl, rfl, ?_⟩
      refine ⟨_, rfl, b, r.v, 0, .str r.kind, rfl, rfl, .inl (.inl hb3), atI_nat (j := 0) rfl, rfl, r.lo, congrArg V.bl (kind_lo r), ?_⟩
      rw [filter_snoc (fun r : Rec => r.lo) er]
      cases hlo : r.lo with
      | true =>
        refine iteT ⟨_, rfl, _, rfl, by show 2 ≤ sizeLine; decide, fun T2 nT2 => ?_⟩
        exact z.push PR.stab nD1 (s3.trans (same_new nT2)) ⟨T2, b, x1, rfl, upd_same, same_new nT2 _ _ hb3⟩ (by have := len_filter_take (fun r : Rec => r.lo) rs i; omega)
      | false =>
        refine iteF ?_
        rw [show (if false = true then [r] else []) = ([] : List Rec) from rfl, List.append_nil]
        exact z.keep PR.stab s3
    · rw [hR1.len, take_all] at z
      obtain ⟨sm1, xs1, hL1, al1⟩ := z
      have hp2 := sm1 _ _ hp1
      have hR2 := hR1.same sm1
      -- upper
      refine ⟨_, rfl, a, xs, rfl, .inl (.inl hR2.at_), fun D2 nD2 => ?_⟩
      refine lc_it (walk_enum (K := K) (a := a) (xs := xs)) (fun i H' => CompInv PR H2 D2 H' ((rs.take i).filter (!·.lo))) (CompInv.start nD2) (fun i H' _ z => .inl (.inl (z.same _ _ hR2.at_))) (fun i x H3 H4 hi z y => ?_) (fun H3 z => ?_)
      · obtain ⟨TT, x1, x2, rfl, nT, rfl, e1, e2⟩ := y
        obtain ⟨b, r, rfl, er, hb⟩ := hR2.back e2
        have s3 : Same H3 (upd H3 TT (.tup [x1, .ref b])) := same_new nT
        have hb3 := s3 _ _ (z.same _ _ hb)
        refine ⟨TT, [x1, .ref b], rfl, .inl (.inl upd_same), rfl, x1, [.ref b], rfl, .ref b, [], rfl, rfl, rfl, ?_⟩
        refine ⟨_, rfl, b, r.v, 0, .str r.kind, rfl, rfl, .inl (.inl hb3), atI_nat (j := 0) rfl, rfl, !r.lo, congrArg V.bl (kind_hi r), ?_⟩
        rw [filter_snoc (fun r : Rec => !r.lo) er]
        cases hlo : r.lo with
        | false =>
          refine iteT ⟨_, rfl, _, rfl, by show 2 ≤ sizeLine; decide, fun T2 nT2 => ?_⟩
          exact z.push PR.stab nD2 (s3.trans (same_new nT2)) ⟨T2, b, x1, rfl, upd_same, same_new nT2 _ _ hb3⟩ (by have := len_filter_take (fun r : Rec => !r.lo) rs i; omega)
        | true =>
          refine iteF ?_
          rw [show (if (!true) = true then [r] else []) = ([] : List Rec) from rfl, List.append_nil]
          exact z.keep PR.stab s3
      · rw [hR2.len, take_all] at z
        obtain ⟨sm2, xs2, hL2, al2⟩ := z
        have hp3 := sm2 _ _ hp2
        have hL13 := sm2 _ _ hL1
        have al13 := al1.mono fun x y r => PR.stab _ _ x y (SameN.of sm2) r
        have sb3 : SameB p H H3 := (sb1.trans (SameB.of sm1)).trans (SameB.of sm2)
        have n1p : D1 ≠ p := ne_of hL13 hp3 (by intro z; cases z)
        have n2p : D2 ≠ p := ne_of hL2 hp3 (by intro z; cases z)
        -- the pairs
        refine ⟨_, rfl, D1, rfl, ⟨_, .inl (.inl hL13)⟩, for_list (K := K) (a := D1) (xs := xs1) (fun i σ H' => ∃ u4 u5 u6 u7, σ = [some (.ref p), some (.ref a), some (.ref D1), some (.ref D2), u4, u5, u6, u7, none, none] ∧ SameB p H3 H' ∧
            ∃ vl vlp vh vhp, H' p = some (.ins (CB K) dx (rbf vl vlp vh vhp .non)) ∧ OptAt H' vl (((rs.filter (·.lo)).take i).foldl (fun s a => inner (rs.filter (!·.lo)) s a) ⟨none, none⟩).low ∧ OptAt H' vh (((rs.filter (·.lo)).take i).foldl (fun s a => inner (rs.filter (!·.lo)) s a) ⟨none, none⟩).high)
          ⟨_, _, _, _, rfl, SameB.refl p H3, _, _, _, _, hp3, rfl, rfl⟩ (fun i σ H' _ ⟨_, _, _, _, _, s, _⟩ => .inl (.inl (s _ _ hL13 n1p))) ?_ ?_⟩
        · rintro i x σ H4 hi ⟨u4, u5, u6, u7, rfl, sb4, vl, vlp, vh, vhp, hp4, ol, oh⟩
          obtain ⟨ra, era, hra⟩ := al13.back hi
          obtain ⟨t1, b1, j1, rfl, ht1, hb1⟩ := hra
          have np1 : t1 ≠ p := ne_of ht1 hp3 (by intro z; cases z)
          have nb1 : b1 ≠ p := ne_of hb1 hp3 (by intro z; cases z)
          obtain ⟨mra, lra⟩ := mem_lo (List.mem_of_getElem? era)
          refine ⟨t1, [j1, .ref b1], rfl, .inl (.inl (sb4 _ _ ht1 np1)), rfl, j1, [.ref b1], rfl, .ref b1, [], rfl, rfl, ?_⟩
          -- the invariant of the bounds so far
          have ok0 : RBok fp fq (((rs.filter (·.lo)).take i).foldl (fun s a => inner (rs.filter (!·.lo)) s a) ⟨none, none⟩) :=
            outer_ok FT (fun u h => mem_hi h) (fun a h => mem_lo (List.mem_of_mem_take h)) (RBok.start fp fq)
          have efold : ((rs.filter (·.lo)).take (i + 1)).foldl (fun s a => inner (rs.filter (!·.lo)) s a) ⟨none, none⟩ = inner (rs.filter (!·.lo)) (((rs.filter (·.lo)).take i).foldl (fun s a => inner (rs.filter (!·.lo)) s a) ⟨none, none⟩) ra := fold_snoc _ _ era
          rw [efold]
          generalize ((rs.filter (·.lo)).take i).foldl (fun s a => inner (rs.filter (!·.lo)) s a) ⟨none, none⟩ = S0 at ol oh ok0 ⊢
          refine ⟨_, rfl, D2, rfl, ⟨_, .inl (.inl (sb4 _ _ hL2 n2p))⟩, for_list (K := K) (a := D2) (xs := xs2) (fun k σ H' => ∃ u6 u7, σ = [some (.ref p), some (.ref a), some (.ref D1), some (.ref D2), some j1, some (.ref b1), u6, u7, none, none] ∧ SameB p H3 H' ∧
              ∃ vl vlp vh vhp, H' p = some (.ins (CB K) dx (rbf vl vlp vh vhp .non)) ∧ OptAt H' vl (inner ((rs.filter (!·.lo)).take k) S0 ra).low ∧ OptAt H' vh (inner ((rs.filter (!·.lo)).take k) S0 ra).high)
            ⟨_, _, rfl, sb4, vl, vlp, vh, vhp, hp4, ol, oh⟩ (fun k σ H' _ ⟨_, _, _, s, _⟩ => .inl (.inl (s _ _ hL2 n2p))) ?_ ?_⟩
          · rintro k x σ H5 hk ⟨u6, u7, rfl, sb5, vl, vlp, vh, vhp, hp5, ol, oh⟩
            obtain ⟨ru, eru, hru⟩ := al2.back hk
            obtain ⟨t2, b2, j2, rfl, ht2, hb2⟩ := hru
            have np2 : t2 ≠ p := ne_of ht2 hp3 (by intro z; cases z)
            have nb2 : b2 ≠ p := ne_of hb2 hp3 (by intro z; cases z)
            obtain ⟨mru, lru⟩ := mem_hi (List.mem_of_getElem? eru)
            refine ⟨t2, [j2, .ref b2], rfl, .inl (.inl (sb5 _ _ ht2 np2)), rfl, j2, [.ref b2], rfl, .ref b2, [], rfl, rfl, ?_⟩
            have ok1 : RBok fp fq (inner ((rs.filter (!·.lo)).take k) S0 ra) := inner_ok FT mra lra (fun u h => mem_hi (List.mem_of_mem_take h)) ok0
            have es : inner ((rs.filter (!·.lo)).take (k + 1)) S0 ra = tight (inner ((rs.filter (!·.lo)).take k) S0 ra) ra ru := fold_snoc (fun s u => tight s ra u) S0 eru
            rw [es]
            generalize inner ((rs.filter (!·.lo)).take k) S0 ra = S1 at ol oh ok1 ⊢
            refine ⟨_, rfl, p, dx, _, rfl, hp5, rfl, _, rfl, _, rfl, by show 2 ≤ sizeLine; decide, fun t nt => ?_⟩
            have s6 : Same H5 (upd H5 t (.tup [j1, j2])) := same_new nt
            refine ⟨_, rfl, _, rfl, p, dx, b1, b2, .ref t, vl, vlp, vh, vhp, S1, ra, ru, rfl, s6 _ _ hp5, ol.same fun r xs z => s6 _ _ z, oh.same fun r xs z => s6 _ _ z, s6 _ _ (sb5 _ _ hb1 nb1), s6 _ _ (sb5 _ _ hb2 nb2), ?_, fun l e => (ok1.low l e).2.2.1, fun l e => (ok1.high l e).2.2.1, fun e => room_zero FT mra mru lra lru e, ?_⟩
            · have t1 := FT.tb ra mra
              have t2 := FT.tb ru mru
              have e50 : (2 : Nat) ^ 50 = 1125899906842624 := by decide
              have e60 : (2 : Nat) ^ 60 = 1152921504606846976 := by decide
              omega
            · intro H7 vl' vlp' vh' vhp' sb7 hp7 ol7 oh7
              exact ⟨_, _, rfl, (sb5.trans (SameB.of s6)).trans sb7, vl', vlp', vh', vhp', hp7, ol7, oh7⟩
          · rintro σ H5 ⟨u6, u7, rfl, sb5, vl, vlp, vh, vhp, hp5, ol, oh⟩
            rw [al2.len, take_all] at ol oh
            exact ⟨_, _, _, _, rfl, sb5, vl, vlp, vh, vhp, hp5, ol, oh⟩
        · rintro σ H4 ⟨u4, u5, u6, u7, rfl, sb4, vl, vlp, vh, vhp, hp4, ol, oh⟩
          rw [al13.len, take_all] at ol oh
          exact q H4 vl vlp vh vhp (sb3.trans sb4) hp4 ol oh
end
end KN

/-! ## KG3 -/
set_option Elab.async false
set_option linter.all false
set_option maxRecDepth 100000
set_option maxHeartbeats 4000000
/-! is_empty, ends; ends_of. -/
namespace KN
open PySem PySem.Spec PyProof.Rows L2 LamX
section
variable {P : Program} {w : World} {K : PySem.W.Frag} {mg : Str → Option Value} {base : Heap}
/-- a RateBounds of s stands at p -/
def RBAt (C : Addr) (H : Hp) (p : Addr) (s : RB) : Prop := ∃ (dx : Addr) (vl vlp vh vhp : V), H p = some (.ins C dx (rbf vl vlp vh vhp .non)) ∧ OptAt H vl s.low ∧ OptAt H vh s.high
def spEmpty (C : Addr) : Sp := fun vs H Q _ => ∃ (p : Addr) (s : RB) (fp fq : Int), vs = [.ref p] ∧ RBAt C H p s ∧ 0 ≤ fp ∧ 0 < fq ∧ RBok fp fq s ∧ s.high ≠ none ∧ Q (.bl false) H
theorem ok_is_empty (T : Tx K mg) : Met P w K mg base 2 (CB K) "is_empty" p_RateBounds_is_empty (spEmpty (CB K)) := by
  obtain ⟨fd, F⟩ := f_RateBounds_is_empty T
  have GL : Cal P w K mg base 1 "is_less" p_is_less spLess := ok_is_less T
  refine ⟨_, fd, m_RateBounds_is_empty T, okD F sc_RateBounds_is_empty (fun vs H Q E h => ?_) (fun cdv A outer s H vs Q E hr h => ?_), F.bindsN fun _ _ _ _ _ _ us hl => match us, hl with | [_], _ => rfl⟩
  · obtain ⟨p, s, fp, fq, rfl, _⟩ := h
    rfl
  · obtain ⟨p, s, fp, fq, rfl, ⟨dx, vl, vlp, vh, vhp, hp, ol, oh⟩, p0, q0, ok, hh, q⟩ := h
    have c := c_RateBounds T
    refine ⟨_, (pss_cons (ps_if (pt_cmpR op_notN (pe_fld (pv 0) rfl) pe_non (nomark _)) (pss_one (ps_ret pe_bl)) pss_nil) (pss_cons (ps_if (pt_cmpR op_isN (pe_fld (pv 0) rfl) pe_non (nomark _)) (pss_one (ps_ret pe_bl)) pss_nil) (pss_one (ps_ret (pe_or (pe_cmpR op_le (pe_ix ix_tup (pe_fld (pv 0) rfl) pe_int (fun _ _ => rfl)) pe_int (nomark _))
        (pe_one (pe_and (pe_cmpR op_notN (pe_fld (pv 0) rfl) pe_non (nomark _)) (pe_one (pe_not (pe_cal GL hr (by rfl) (pa_cons (pe_fld (pv 0) rfl) (pa_cons (pe_fld (pv 0) rfl) pa_nil)))))))))))), ?_⟩
    cases eh : s.high with
    | none => exact absurd eh hh
    | some g =>
      rw [eh] at oh
      obtain ⟨th, rfl, hth⟩ := oh
      have g1 := rb_pos p0 q0 ok eh
      refine ⟨_, rfl, p, CB K, dx, _, _, rfl, hp, c, a_RateBounds_clash T, rfl, rfl, false, rfl, iteF ?_⟩
      refine ⟨_, rfl, p, CB K, dx, _, _, rfl, hp, c, a_RateBounds_high T, rfl, rfl, false, rfl, iteF ?_⟩
      refine ⟨_, rfl, p, CB K, dx, _, _, rfl, hp, c, a_RateBounds_high T, rfl, th, _, 0, _, rfl, rfl, .inl (.inl hth), atI_nat (j := 0) rfl, _, _, rfl, rfl, false, congrArg V.bl (decide_eq_false (by omega)), iteF ?_⟩
      cases el : s.low with
      | none =>
        rw [el] at ol
        cases ol
        refine ⟨_, rfl, p, CB K, dx, _, _, rfl, hp, c, a_RateBounds_low T, rfl, rfl, false, rfl, iteF ?_⟩
        exact q
      | some l =>
        rw [el] at ol
        obtain ⟨tl, rfl, htl⟩ := ol
        have sep := rb_sep p0 q0 ok el eh
        refine ⟨_, rfl, p, CB K, dx, _, _, rfl, hp, c, a_RateBounds_low T, rfl, rfl, true, rfl, iteT ?_⟩
        refine ⟨_, rfl, p, CB K, dx, _, _, rfl, hp, c, a_RateBounds_low T, rfl, _, rfl, p, CB K, dx, _, _, rfl, hp, c, a_RateBounds_high T, rfl, tl, th, _, _, _, _, rfl, htl, hth, bup (ok.low l el).2.2.1 (by decide), bup (ok.high g eh).2.2.1 (by decide), true, congrArg V.bl (decide_eq_true sep), ?_⟩
        exact q
def spEnds (C : Addr) : Sp := fun vs H Q _ => ∃ (p : Addr) (s : RB) (fp fq : Int), vs = [.ref p] ∧ RBAt C H p s ∧ RBok fp fq s ∧ s.high ≠ none ∧
  ∀ (t : Addr) (H' : Hp) (vl vh : V), Same H H' → H' t = some (.tup [vl, vh]) → OptAt H' vl (endsOf s).low → OptAt H' vh (some (endsOf s).high) → Q (.ref t) H'
theorem ok_ends (T : Tx K mg) : Met P w K mg base 3 (CB K) "ends" p_RateBounds_ends (spEnds (CB K)) := by
  obtain ⟨fd, F⟩ := f_RateBounds_ends T
  have GL : Cal P w K mg base 2 "lowest_terms" p_lowest_terms spLowest := ok_lowest_terms T
  refine ⟨_, fd, m_RateBounds_ends T, okD F sc_RateBounds_ends (fun vs H Q E h => ?_) (fun cdv A outer s H vs Q E hr h => ?_), F.bindsN fun _ _ _ _ _ _ us hl => match us, hl with | [_], _ => rfl⟩
  · obtain ⟨p, s, fp, fq, rfl, _⟩ := h
    rfl
  · obtain ⟨p, s, fp, fq, rfl, ⟨dx, vl, vlp, vh, vhp, hp, ol, oh⟩, ok, hh, q⟩ := h
    have c := c_RateBounds T
    refine ⟨_, (pss_cons (ps_set (i := 1) sc_RateBounds_ends.nd rfl (Or.inl rfl) (pe_ifExp (PW.pt (pw_or (pt_cmpR op_isN (pe_fld (pv 0) rfl) pe_non (nomark _)) (pw_or1 (pt_cmpR op_lt (pe_ix ix_tup (pe_fld (pv 0) rfl) pe_int (fun _ _ => rfl)) pe_int (nomark _))))) pe_non
        (pe_cal GL hr (by rfl) (pa_cons (pe_ix ix_tup (pe_fld (pv 0) rfl) pe_int (fun _ _ => rfl)) (pa_cons (pe_ix ix_tup (pe_fld (pv 0) rfl) pe_int (fun _ _ => rfl)) pa_nil))))) (pss_one (ps_ret (pe_tup (pa_cons (pv 1) (pa_cons (pe_ifExp (pt_cmpR op_isN (pe_fld (pv 0) rfl) pe_non (nomark _)) pe_non
        (pe_cal GL hr (by rfl) (pa_cons (pe_ix ix_tup (pe_fld (pv 0) rfl) pe_int (fun _ _ => rfl)) (pa_cons (pe_ix ix_tup (pe_fld (pv 0) rfl) pe_int (fun _ _ => rfl)) pa_nil)))) pa_nil)))))), ?_⟩
    cases eh : s.high with
    | none => exact absurd eh hh
    | some g =>
      rw [eh] at oh
      obtain ⟨th, rfl, hth⟩ := oh
      obtain ⟨g1, _, g2, _⟩ := ok.high g eh
      have ehi : (endsOf s).high = red g.1 g.2 := by
        unfold endsOf
        rw [eh]
      -- what follows the first row
      have rest : ∀ (v : V) (H1 : Hp), Same H H1 → OptAt H1 v (endsOf s).low →
          tRet (tTup (tCons (tVar 1) (tCons (tIf (tTest (tOp (fun x y H Q => y = .non ∧ Q (.bl (decide (x = .non))) H) (tFld K (tVar 0) "high") (tC .non))) (tC .non) (tCall spLowest [] E0 (tCons (tOp (rIxT K) (tFld K (tVar 0) "high") (tC (.int 0))) (tCons (tOp (rIxT K) (tFld K (tVar 0) "high") (tC (.int 1))) tNil)))) tNil)))
            { nx := fun _ H' => Q .non H', rt := Q } [some (.ref p), some v] H1 := by
        intro v H1 sm ov
        have hp1 := sm _ _ hp
        have hth1 := sm _ _ hth
        refine ⟨_, rfl, _, rfl, p, CB K, dx, _, _, rfl, hp1, c, a_RateBounds_high T, rfl, rfl, false, rfl, iteF ?_⟩
        refine ⟨_, rfl, p, CB K, dx, _, _, rfl, hp1, c, a_RateBounds_high T, rfl, th, _, 0, _, rfl, rfl, .inl (.inl hth1), atI_nat (j := 0) rfl, _, rfl, p, CB K, dx, _, _, rfl, hp1, c, a_RateBounds_high T, rfl, th, _, 1, _, rfl, rfl, .inl (.inl hth1), atI_nat (j := 1) rfl, g.1, g.2, rfl, g1, bup g2 (by decide), fun t2 H2 sm2 ht2 => ?_⟩
        refine ⟨by show 2 ≤ sizeLine; decide, fun t3 nt3 => ?_⟩
        have sm3 : Same H2 (upd H2 t3 (.tup [v, .ref t2])) := same_new nt3
        refine q t3 _ v (.ref t2) ((sm.trans sm2).trans sm3) upd_same ((ov.same fun r xs z => sm2 _ _ z).same fun r xs z => sm3 _ _ z) ⟨t2, rfl, ?_⟩
        rw [ehi]
        exact sm3 _ _ ht2
      cases el : s.low with
      | none =>
        rw [el] at ol
        cases ol
        have elo : (endsOf s).low = none := by
          unfold endsOf
          rw [el]
        refine ⟨_, rfl, p, CB K, dx, _, _, rfl, hp, c, a_RateBounds_low T, rfl, rfl, true, rfl, iteT ?_⟩
        refine iteT ?_
        exact rest .non H (Same.refl H) (by rw [elo]; rfl)
      | some l =>
        rw [el] at ol
        obtain ⟨tl, rfl, htl⟩ := ol
        obtain ⟨l1, _, l2, _⟩ := ok.low l el
        have elo : (endsOf s).low = if l.1 < 0 then none else some (red l.1 l.2) := by
          unfold endsOf
          rw [el]
        refine ⟨_, rfl, p, CB K, dx, _, _, rfl, hp, c, a_RateBounds_low T, rfl, rfl, false, rfl, iteF ?_⟩
        refine ⟨_, rfl, p, CB K, dx, _, _, rfl, hp, c, a_RateBounds_low T, rfl, tl, _, 0, _, rfl, rfl, .inl (.inl htl), atI_nat (j := 0) rfl, _, _, rfl, rfl, _, rfl, ?_⟩
        by_cases hneg : l.1 < 0
        · rw [decide_eq_true hneg]
          refine iteT ?_
          exact rest .non H (Same.refl H) (by rw [elo, if_pos hneg]; rfl)
        · rw [decide_eq_false hneg]
          refine iteF ?_
          refine ⟨_, rfl, p, CB K, dx, _, _, rfl, hp, c, a_RateBounds_low T, rfl, tl, _, 0, _, rfl, rfl, .inl (.inl htl), atI_nat (j := 0) rfl, _, rfl, p, CB K, dx, _, _, rfl, hp, c, a_RateBounds_low T, rfl, tl, _, 1, _, rfl, rfl, .inl (.inl htl), atI_nat (j := 1) rfl, l.1, l.2, rfl, l1, bup l2 (by decide), fun t2 H2 sm2 ht2 => ?_⟩
          exact rest (.ref t2) H2 sm2 (by rw [elo, if_neg hneg]; exact ⟨t2, rfl, ht2⟩)
def spEndsOf : Sp := fun vs H Q _ => ∃ (a : Addr) (xs : List V) (rs : List Rec) (fp fq fc : Int), vs = [.ref a] ∧ RecsAt H a xs rs ∧ rs.length ≤ 1000 ∧ Fit fp fq fc rs ∧ (bounds rs).high ≠ none ∧
  ∀ (t : Addr) (H' : Hp) (vl vh : V), Same H H' → H' t = some (.tup [vl, vh]) → OptAt H' vl (endsOf (bounds rs)).low → OptAt H' vh (some (endsOf (bounds rs)).high) → Q (.ref t) H'
theorem ok_ends_of (T : Tx K mg) : Cal P w K mg base 5 "ends_of" p_ends_of spEndsOf := by
  obtain ⟨fd, F⟩ := f_ends_of T
  have GB : Mak P w K mg base 3 "RateBounds" (CB K) p_RateBounds_init (spRB (CB K)) := ok_RB T
  have GE : Met P w K mg base 2 (CB K) "is_empty" p_RateBounds_is_empty (spEmpty (CB K)) := ok_is_empty T
  have GN : Met P w K mg base 3 (CB K) "ends" p_RateBounds_ends (spEnds (CB K)) := ok_ends T
  refine ⟨_, fd, g_ends_of T, F.kp, okD F sc_ends_of (fun vs H Q E h => ?_) (fun cdv A outer s H vs Q E hr h => ?_), F.bindsN fun _ _ _ _ _ _ us hl => match us, hl with | [_], _ => rfl⟩
  · obtain ⟨a, xs, rs, fp, fq, fc, rfl, _⟩ := h
    rfl
  · obtain ⟨a, xs, rs, fp, fq, fc, rfl, hR, hz, FT, hh, q⟩ := h
    have c := c_RateBounds T
    refine ⟨_, (pss_cons (ps_set (i := 1) sc_ends_of.nd rfl (Or.inl rfl) (pe_mak GB hr (by rfl) (pa_cons (pv 0) pa_nil))) (pss_one (ps_ret (pe_ifExp (pt_val (pe_met0 (pv 1) c GE (hr.mono (by decide)))) pe_non (pe_met0 (pv 1) c GN (hr.mono (by decide))))))), ?_⟩
    refine ⟨_, rfl, fun x dx nx ndx nex => ?_⟩
    have s0 : Same H (upd (upd H dx (.own x)) x (.ins (CB K) dx [])) := fun b o e => by
      rw [upd_ne (ne_of_none e nx), upd_ne (ne_of_none e ndx)]
      exact e
    refine ⟨x, dx, a, xs, rs, fp, fq, fc, rfl, upd_same, hR.same s0, hz, FT, fun H' vl vlp vh vhp sb hp ol oh => ⟨rfl, ?_⟩⟩
    have s1 : Same H H' := fun b o e => sb b o (s0 _ _ e) (ne_of_none e nx)
    have rb : RBAt (CB K) H' x (bounds rs) := ⟨dx, vl, vlp, vh, vhp, hp, ol, oh⟩
    refine ⟨_, rfl, x, dx, _, rfl, hp, rfl, x, bounds rs, fp, fq, rfl, rb, FT.p0, FT.q0, bounds_ok FT, hh, _, rfl, iteF ?_⟩
    refine ⟨_, rfl, x, dx, _, rfl, hp, rfl, x, bounds rs, fp, fq, rfl, rb, bounds_ok FT, hh, fun t H2 vl' vh' sm ht ol' oh' => ?_⟩
    exact q t H2 vl' vh' (s1.trans sm) ht ol' oh'
end
end KN

/-! ## KI -/
set_option Elab.async false
set_option linter.all false
set_option maxRecDepth 100000
set_option maxHeartbeats 4000000
/-! Line; lowest. -/
namespace KN
open PySem PySem.Spec PyProof.Rows L2 LamX NdefX
abbrev CL (K : PySem.W.Frag) : Addr := He.ga K "Line"
def lnf (m o : Int) : List (Str × V) := [("slope", .int m), ("offset", .int o)]
def LnAt (C : Addr) (H : Hp) (x : V) (l : M.Ln) : Prop := ∃ a dx : Addr, x = .ref a ∧ H a = some (.ins C dx (lnf l.1 l.2))
theorem LnAt.stab {C : Addr} : Stab (LnAt C) := fun H H' x l s ⟨a, dx, e, h⟩ => ⟨a, dx, e, s _ _ h (fun _ z => by cases z)⟩
def LnB (l : M.Ln) : Prop := l.1.natAbs < 2 ^ 60 ∧ l.2.natAbs < 2 ^ 300
/-- the code object of lowest, its table, the lambda's name -/
abbrev dlow : Str × Option Str := ("lowest", none)
abbrev cLow (K : PySem.W.Frag) : Addr := He.codeOf K dlow
abbrev pLow (K : PySem.W.Frag) : Addr := (He.cT K dlow).2
abbrev Tl (K : PySem.W.Frag) : List (Addr × Str) := [(pLow K, ("lowest" ++ ".<locals>.") ++ "<lambda>")]
section
variable {P : Program} {w : World} {K : PySem.W.Frag} {mg : Str → Option Value} {base : Heap}
def spLine (C : Addr) : Sp := fun vs H Q _ => ∃ (p dx : Addr) (m o : Int), vs = [.ref p, .int m, .int o] ∧ H p = some (.ins C dx []) ∧ ∀ H', SameB p H H' → H' p = some (.ins C dx (lnf m o)) → Q .non H'
theorem ok_Line (T : Tx K mg) : Mak P w K mg base 1 "Line" (CL K) p_Line_init (spLine (CL K)) := by
  obtain ⟨fd, F⟩ := f_Line_init T
  refine ⟨_, fd, g_Line T, k_Line T, okD F sc_Line_init (fun vs H Q E h => ?_) (fun cdv A outer s H vs Q E hr h => ?_), F.bindsN fun _ _ _ _ _ _ us hl => match us, hl with | [_, _, _], _ => rfl⟩
  · obtain ⟨p, dx, m, o, rfl, _⟩ := h
    rfl
  · obtain ⟨p, dx, m, o, rfl, hp, q⟩ := h
    have c := c_Line T
    refine ⟨_, (pss_cons (ps_fld (pv 0) (pv 1) rfl) (pss_one (ps_fld (pv 0) (pv 2) rfl))), ?_⟩
    refine ⟨_, rfl, _, rfl, p, CL K, dx, _, rfl, hp, c, a_Line_slope T, (by show 0 < 1000; decide), ?_⟩
    refine ⟨_, rfl, _, rfl, p, CL K, dx, _, rfl, upd_same, c, a_Line_offset T, (by show 1 < 1000; decide), ?_⟩
    exact q _ ((SameB.refl p H).upd.upd) upd_same
def spAt (C : Addr) : Sp := fun vs H Q _ => ∃ (x : V) (l : M.Ln) (p : Int), vs = [x, .int p] ∧ LnAt C H x l ∧ l.1.natAbs < 2 ^ 60 ∧ Q (.int (M.val l p)) H
theorem ok_at (T : Tx K mg) : Met P w K mg base 1 (CL K) "at" p_Line_at (spAt (CL K)) := by
  obtain ⟨fd, F⟩ := f_Line_at T
  refine ⟨_, fd, m_Line_at T, okD F sc_Line_at (fun vs H Q E h => ?_) (fun cdv A outer s H vs Q E hr h => ?_), F.bindsN fun _ _ _ _ _ _ us hl => match us, hl with | [_, _], _ => rfl⟩
  · obtain ⟨x, l, p, rfl, _⟩ := h
    rfl
  · obtain ⟨x, l, p, rfl, ⟨a, dx, rfl, ha⟩, hb, q⟩ := h
    have c := c_Line T
    refine ⟨_, (pss_one (ps_ret (pe_op op_add (pe_op op_mul (pe_fld (pv 0) rfl) (pv 1)) (pe_fld (pv 0) rfl)))), ?_⟩
    refine ⟨_, rfl, a, CL K, dx, _, _, rfl, ha, c, a_Line_slope T, rfl, _, rfl, _, _, rfl, rfl, .inl (by have := bup hb (show 60 ≤ 64 by decide); omega), _, rfl, a, CL K, dx, _, _, rfl, ha, c, a_Line_offset T, rfl, _, _, rfl, rfl, ?_⟩
    exact q
def optV : Option Int → V
  | none => .non
  | some c => .int c
def spNext (C : Addr) : Sp := fun vs H Q _ => ∃ (x y : V) (l k : M.Ln) (p : Int), vs = [x, y, .int p] ∧ LnAt C H x l ∧ LnAt C H y k ∧ l.1.natAbs < 2 ^ 60 ∧ k.1.natAbs < 2 ^ 60 ∧ Q (optV (M.below l k p)) H
theorem ok_next_below (T : Tx K mg) : Met P w K mg base 1 (CL K) "next_below" p_Line_next_below (spNext (CL K)) := by
  obtain ⟨fd, F⟩ := f_Line_next_below T
  refine ⟨_, fd, m_Line_next_below T, okD F sc_Line_next_below (fun vs H Q E h => ?_) (fun cdv A outer s H vs Q E hr h => ?_), F.bindsN fun _ _ _ _ _ _ us hl => match us, hl with | [_, _, _], _ => rfl⟩
  · obtain ⟨x, y, l, k, p, rfl, _⟩ := h
    rfl
  · obtain ⟨x, y, l, k, p, rfl, ⟨a, dx, rfl, ha⟩, ⟨b, dy, rfl, hb⟩, bl, bk, q⟩ := h
    have c := c_Line T
    refine ⟨_, (pss_cons (ps_if (pt_cmpR op_ge (pe_fld (pv 1) rfl) (pe_fld (pv 0) rfl) (nomark _)) (pss_one (ps_ret pe_non)) pss_nil) (pss_one (ps_ret (pe_op op_add (pe_callB (call_max2 rfl) (by rfl) (t_max T) b_max (pa_cons (pv 2) (pa_cons (pe_op op_fdivW (pe_op op_sub (pe_fld (pv 1) rfl) (pe_fld (pv 0) rfl)) (pe_op op_sub (pe_fld (pv 0) rfl) (pe_fld (pv 1) rfl))) pa_nil))) pe_int)))), ?_⟩
    unfold M.below at q
    refine ⟨_, rfl, b, CL K, dy, _, _, rfl, hb, c, a_Line_slope T, rfl, _, rfl, a, CL K, dx, _, _, rfl, ha, c, a_Line_slope T, rfl, _, _, rfl, rfl, _, rfl, ite2 (fun e => ?_) (fun e => ?_)⟩
    · have h1 : l.1 ≤ k.1 := of_decide_eq_true e
      rw [if_pos h1] at q
      exact q
    · have h1 : ¬ l.1 ≤ k.1 := fun z => e (decide_eq_true z)
      rw [if_neg h1] at q
      refine ⟨_, rfl, _, rfl, b, CL K, dy, _, _, rfl, hb, c, a_Line_offset T, rfl, _, rfl, a, CL K, dx, _, _, rfl, ha, c, a_Line_offset T, rfl, _, _, rfl, rfl, _, rfl, a, CL K, dx, _, _, rfl, ha, c, a_Line_slope T, rfl, _, rfl, b, CL K, dy, _, _, rfl, hb, c, a_Line_slope T, rfl, _, _, rfl, rfl, _, _, rfl, rfl,
        dw (by omega) (bup (bsub bl bk) (by decide)), _, _, rfl, _, _, rfl, rfl, ?_⟩
      exact q
/-- the lines at a -/
def LnsAt (C : Addr) (H : Hp) (a : Addr) (xs : List V) (ls : List M.Ln) : Prop := H a = some (.lst xs) ∧ Al (LnAt C H) xs ls
def spLow (K : PySem.W.Frag) : Sp := fun vs H Q _ => ∃ (a : Addr) (xs : List V) (ls : List M.Ln) (p : Int), vs = [.ref a, .int p] ∧ LnsAt (CL K) H a xs ls ∧ ls ≠ [] ∧ (∀ l ∈ ls, l.1.natAbs < 2 ^ 60) ∧ Tabs (Tl K) H ∧
  ∀ (i : Nat) (x : V) (l : M.Ln) (H' : Hp), ExtN H H' → Tabs (Tl K) H' → xs[i]? = some x → ls[i]? = some l → M.Lowest ls p l → Q x H'
theorem ExtN.n {H H' : Hp} (e : ExtN H H') {b : Addr} {o : HO} (h : H b = some o) (n : ∀ ps, o ≠ .tbl ps) : H' b = some o := e b o h n
theorem low_free : ∀ y ∈ ([("line", NameKind.local), ("p", NameKind.free)] : List (Str × NameKind)), y.2 = .free → (defScope s_lowest).names.lookup y.1 = some .cell ∨ (defScope s_lowest).names.lookup y.1 = some .free := by decide +kernel
theorem ok_lowest (T : Tx K mg) (TB : TabB base mg (cLow K) (pLow K)) : Cal P w K mg base 4 "lowest" p_lowest (spLow K) := by
  obtain ⟨fd, F⟩ := f_lowest T
  have GA : Met P w K mg base 1 (CL K) "at" p_Line_at (spAt (CL K)) := ok_at T
  refine ⟨_, fd, g_lowest T, F.kp, okC (at_ := dlow) F sc_lowest (fun vs H Q E h => ?_) (fun A outer s H vs Q E hr h => ?_), F.bindsN fun _ _ _ _ _ _ us hl => match us, hl with | [_, _], _ => rfl⟩
  · obtain ⟨a, xs, ls, p, rfl, _⟩ := h
    rfl
  · obtain ⟨a, xs, ls, p, rfl, ⟨ha, al⟩, hne, hb, hT, q⟩ := h
    have c := c_Line T
    refine ⟨_, (pss_one (ps_ret (KL.pe_minLam (T := Tl K) (c := cLow K) (P := pLow K) (k := 1) (N := ["line", "p"]) (fr := ["p"]) (js := [1]) (a := "line")
      (tb := tTup (tCons (tMeth (CL K) "at" (spAt (CL K)) [] E0 (tVar 0) (tCons (tVar 1) tNil)) (tCons (tFld K (tVar 0) "slope") tNil)))
      rfl (by rfl) (t_min T) (pa_cons (pv 0) pa_nil) TB rfl (List.mem_singleton.mpr rfl) (fun p hp _ => by rw [List.mem_singleton.mp hp]; rfl) hr (nscope_by (by decide +kernel)) low_free (by decide +kernel) rfl rfl
      (fun _ _ _ _ _ _ => rfl) (fun c' f A outer s H hr2 => pe_tup (pa_cons (pe_met (pv 0) c GA hr2 (pa_cons (pv 1) pa_nil)) (pa_cons (pe_fld (pv 0) rfl) pa_nil)))))), ?_⟩
    refine ⟨_, rfl, hT, fun H1 eN T1 => ?_⟩
    have ha1 : H1 a = some (.lst xs) := eN _ _ ha (fun _ z => by cases z)
    have al1 : Al (LnAt (CL K) H1) xs ls := al.mono fun x l ⟨b, dx, e, h⟩ => ⟨b, dx, e, eN _ _ h (fun _ z => by cases z)⟩
    refine ⟨a, xs, fun i => (M.val (ls.getD i (0, 0)) p, (ls.getD i (0, 0)).1), rfl, .inl (.inl ha1), (fun z => hne (by have := al.len; rw [z] at this; exact List.length_eq_zero_iff.mp this.symm)), fun i x H2 hi s2 => ?_, fun i x H2 hi hmin s2 => ?_⟩
    · obtain ⟨l, el, b, dx, rfl, hl⟩ := al1.back hi
      have ed : ls.getD i (0, 0) = l := by rw [List.getD_eq_getElem?_getD, el]; rfl
      have hl2 := s2 _ _ hl
      simp only [ed]
      refine ⟨_, rfl, b, dx, _, rfl, hl2, rfl, _, rfl, .ref b, l, p, rfl, ⟨b, dx, rfl, hl2⟩, hb l (List.mem_of_getElem? el), ?_⟩
      refine ⟨_, rfl, b, CL K, dx, _, _, rfl, hl2, c, a_Line_slope T, rfl, by show 2 ≤ sizeLine; decide, fun t nt => ?_⟩
      exact ⟨same_new nt, t, rfl, upd_same⟩
    · obtain ⟨l, el, _⟩ := al1.back hi
      have ed : ls.getD i (0, 0) = l := by rw [List.getD_eq_getElem?_getD, el]; rfl
      refine q i x l H2 (eN.trans (ExtN.of s2)) (T1.ext s2) hi el ⟨List.mem_of_getElem? el, fun k hk => ?_⟩
      obtain ⟨j, hj, ej⟩ := List.getElem_of_mem hk
      have h1 := hmin j (by rw [al.len]; exact hj)
      have ek : ls.getD j (0, 0) = k := by rw [List.getD_eq_getElem?_getD, List.getElem?_eq_getElem hj, ej]; rfl
      simp only [ed, ek] at h1
      exact h1
end
end KN

/-! ## KJ -/
set_option Elab.async false
set_option linter.all false
set_option maxRecDepth 100000
set_option maxHeartbeats 4000000
/-! prime_factors; signed_divisors. -/
namespace KN
open PySem PySem.Spec PyProof.Rows L2 LamX NdefX
theorem same_none {H H' : Hp} {p : Addr} (s : Same H H') (h : H' p = none) : H p = none := by
  cases e : H p with
  | none => rfl
  | some o =>
    rw [s _ _ e] at h
    cases h
section
variable {P : Program} {w : World} {K : PySem.W.Frag} {mg : Str → Option Value} {base : Heap}
/-- few prime factors -/
def Few (n : Int) (L : List Int) (m : Int) : Prop := (3 : Int) ^ L.length * m ≤ 2 * n
theorem pow3_pos (k : Nat) : (0 : Int) < 3 ^ k := Int.pow_pos (by decide)
theorem Few.len {n m : Int} {L : List Int} (h : Few n L m) (hm : 0 < m) (hn : n ≤ 100000000) : L.length ≤ 17 := by
  unfold Few at h
  by_cases z : L.length ≤ 17
  · exact z
  · exfalso
    have h1 : (3 : Int) ^ 18 ≤ 3 ^ L.length := by
      have : (3 : Nat) ^ 18 ≤ 3 ^ L.length := Nat.pow_le_pow_right (by decide) (by omega)
      exact_mod_cast this
    have h2 : (3 : Int) ^ L.length * 1 ≤ 3 ^ L.length * m := Int.mul_le_mul_of_nonneg_left (by omega) (Int.le_of_lt (pow3_pos _))
    have h3 : (3 : Int) ^ 18 = 387420489 := by decide
    omega
theorem Few.found {n m f : Int} {L : List Int} (h : Few n L m) (hn : 0 < n) (hm : m ≤ n) (h2 : 2 ≤ f) (hf : f = 2 → L = []) : (3 : Int) ^ (L ++ [f]).length * m ≤ 2 * n * f := by
  unfold Few at h
  rw [List.length_append, List.length_singleton, Int.pow_succ]
  by_cases e : f = 2
  · rw [hf e, e]
    show (1 : Int) * 3 * m ≤ 2 * n * 2
    omega
  · have h3 : 2 * n * 3 ≤ 2 * n * f := Int.mul_le_mul_of_nonneg_left (by omega) (by omega)
    have h4 : (3 : Int) ^ L.length * 3 * m = 3 * (3 ^ L.length * m) := by rw [Int.mul_comm (3 ^ L.length) 3, Int.mul_assoc]
    omega
theorem Few.next {n m f : Int} {L : List Int} (hn : 0 < n) (hm : 0 < m) (h2 : 2 ≤ f) (hd : f ∣ m) (h : Few n L m ∨ (3 : Int) ^ L.length * m ≤ 2 * n * f) : Few n L (m / f) := by
  have h' : (3 : Int) ^ L.length * m ≤ 2 * n * f := by
    rcases h with h | h
    · unfold Few at h
      have h3 : 2 * n * 1 ≤ 2 * n * f := Int.mul_le_mul_of_nonneg_left (by omega) (by omega)
      omega
    · exact h
  unfold Few
  have e : m / f * f = m := Int.ediv_mul_cancel hd
  have h5 : (3 : Int) ^ L.length * (m / f) * f ≤ 2 * n * f := by
    rw [Int.mul_assoc, e]
    exact h'
  exact Int.le_of_mul_le_mul_right h5 (by omega)
def spPF : Sp := fun vs H Q _ => ∃ n : Int, vs = [.int n] ∧ 0 < n ∧ n ≤ 100000000 ∧ ∀ (H' : Hp) (a : Addr) (L : List Int), Same H H' → H a = none → H' a = some (.lst (L.map V.int)) → M.Factors n L → L.length ≤ 18 → (∀ p ∈ L, 0 < p ∧ p ≤ n) → Q (.ref a) H'
theorem int_eq {a b : Int} (h : decide (V.int a = V.int b) = true) : a = b := by
  have := of_decide_eq_true h
  injection this
theorem int_ne {a b : Int} (h : ¬ decide (V.int a = V.int b) = true) : a ≠ b := fun e => h (decide_eq_true (by rw [e]))
theorem ok_prime_factors (T : Tx K mg) : Cal P w K mg base 1 "prime_factors" p_prime_factors spPF := by
  obtain ⟨fd, F⟩ := f_prime_factors T
  refine ⟨_, fd, g_prime_factors T, F.kp, okD F sc_prime_factors (fun vs H Q E h => ?_) (fun cdv A outer s H vs Q E hr h => ?_), F.bindsN fun _ _ _ _ _ _ us hl => match us, hl with | [_], _ => rfl⟩
  · obtain ⟨n, rfl, _⟩ := h
    rfl
  · obtain ⟨n, rfl, n0, n8, q⟩ := h
    refine ⟨_, (pss_cons (ps_par (i := 1) (j := 2) rfl sc_prime_factors.nd rfl rfl (by decide) rfl rfl (pa_cons (pe_lst pa_nil) (pa_cons (pe_int) pa_nil)) (by rfl)) (pss_cons (ps_while PassesOwn.never (pt_cmpR op_le (pe_op op_mul (pv 2) (pv 2)) (pv 0) (nomark _))
        (pss_cons (ps_if (pt_cmpR op_eq (pe_op op_mod (pv 0) (pv 2)) pe_int (nomark _))
            (pss_cons (ps_expr (pe_bm PySem.F.plainAttrs_list PySem.F.slot_list_append PySem.F.type_list_append mt_append (pv 1) (pa_cons (pv 2) pa_nil))) (pss_one (ps_while PassesOwn.never (pt_cmpR op_eq (pe_op op_mod (pv 0) (pv 2)) pe_int (nomark _)) (pss_one (ps_aug (i := 0) sc_prime_factors.nd rfl (Or.inl rfl) (pv 2) iop_fdivW))))) pss_nil) (pss_one (ps_aug (i := 2) sc_prime_factors.nd rfl (Or.inl rfl) pe_int iop_add)))) (pss_one (ps_ret (pe_ifExp (pt_cmpR op_gt (pv 0) pe_int (nomark _)) (pe_op op_cat (pv 1) (pe_lst (pa_cons (pv 0) pa_nil))) (pv 1)))))), ?_⟩
    refine ⟨by show 0 ≤ sizeLine; decide, fun D nD => ⟨_, _, rfl, ?_⟩⟩
    refine ⟨fun mu σ H' => ∃ (m f : Int) (L : List Int), σ = [some (.int m), some (.ref D), some (.int f)] ∧ Same H H' ∧ H' D = some (.lst (L.map V.int)) ∧ M.PF n L m f ∧ Few n L m ∧ (f = 2 → L = []) ∧ m ≤ n ∧ (∀ p ∈ L, 0 < p ∧ p ≤ n) ∧ f ≤ n + 1 ∧ mu = (n + 1 - f).toNat,
      ⟨_, n, 2, [], rfl, same_new nD, upd_same, M.PF.start n0, (by unfold Few; show (1 : Int) * n ≤ 2 * n; omega), fun _ => rfl, Int.le_refl _, (fun p hp => nomatch hp), by omega, rfl⟩, ?_⟩
    rintro mu σ H1 ⟨m, f, L, rfl, sm, hD, pf, few, f2, mn, pn, fn, rfl⟩
    have two := pf.two
    have mp := pf.pos
    have sq : f ≤ f * f := by
      have : f * 1 ≤ f * f := Int.mul_le_mul_of_nonneg_left (by omega) (by omega)
      omega
    -- the number, the factor: what follows
    refine ⟨_, rfl, _, rfl, _, _, rfl, rfl, .inl (by omega), _, rfl, _, _, rfl, rfl, _, rfl, ite2 (fun e => ?_) (fun e => ?_)⟩
    · have ff : f * f ≤ m := of_decide_eq_true e
      refine ⟨fun σ' H2 => ∃ (m' : Int) (L' : List Int), σ' = [some (.int m'), some (.ref D), some (.int (f + 1))] ∧ Same H H2 ∧ H2 D = some (.lst (L'.map V.int)) ∧ M.PF n L' m' (f + 1) ∧ Few n L' m' ∧ m' ≤ n ∧ (∀ p ∈ L', 0 < p ∧ p ≤ n), fun σ' H2 ⟨m', L', e1, e2, e3, e4, e5, e6, e7⟩ => ⟨(n + 1 - (f + 1)).toNat, by omega, m', f + 1, L', e1, e2, e3, e4, e5, fun z => by omega, e6, e7, by omega, rfl⟩, ?_⟩
      refine ⟨_, rfl, _, rfl, _, _, rfl, rfl, by omega, rfl, _, rfl, ite2 (fun e => ?_) (fun e => ?_)⟩
      · have hd : f ∣ m := Int.dvd_of_emod_eq_zero (int_eq e)
        have z1 : (L.map V.int).length < sizeLine := small_lt (by rw [List.length_map]; have := few.len mp n8; omega)
        refine ⟨_, rfl, .inl ⟨rfl, _, .inl (.inl hD)⟩, _, rfl, D, _, .int f, rfl, rfl, hD, z1, ?_⟩
        have em : L.map V.int ++ [V.int f] = (L ++ [f]).map V.int := by rw [List.map_append]; rfl
        rw [em]
        have sm2 : Same H (upd H1 D (.lst ((L ++ [f]).map V.int))) := same_mut sm nD
        have hD2 : (upd H1 D (.lst ((L ++ [f]).map V.int))) D = some (.lst ((L ++ [f]).map V.int)) := upd_same
        generalize upd H1 D (.lst ((L ++ [f]).map V.int)) = H2 at sm2 hD2 ⊢
        refine ⟨fun mu σ H' => ∃ m : Int, σ = [some (.int m), some (.ref D), some (.int f)] ∧ H' = H2 ∧ M.PG n (L ++ [f]) m f ∧ m ≤ n ∧ (Few n (L ++ [f]) m ∨ (f ∣ m ∧ (3 : Int) ^ (L ++ [f]).length * m ≤ 2 * n * f)) ∧ mu = m.toNat,
          ⟨_, m, rfl, rfl, pf.found hd, mn, .inr ⟨hd, few.found n0 mn two f2⟩, rfl⟩, ?_⟩
        rintro mu σ H3 ⟨m, rfl, rfl, pg, mn, fw, rfl⟩
        refine ⟨_, rfl, _, rfl, _, _, rfl, rfl, by omega, rfl, _, rfl, ite2 (fun e => ?_) (fun e => ?_)⟩
        · have hd : f ∣ m := Int.dvd_of_emod_eq_zero (int_eq e)
          have mp := pg.pos
          obtain ⟨g1, g2⟩ := pg.next hd
          refine ⟨fun σ' H' => σ' = [some (.int (m / f)), some (.ref D), some (.int f)] ∧ H' = H3, fun σ' H' ⟨e1, e2⟩ => ⟨(m / f).toNat, by omega, m / f, e1, e2, g1, by omega, .inl (Few.next n0 mp two hd (fw.imp id And.right)), rfl⟩, ?_⟩
          exact ⟨_, rfl, _, rfl, _, _, rfl, rfl, dw (by omega) (by have : (2 : Nat) ^ 30 ≤ 2 ^ 2000 := Nat.pow_le_pow_right (by decide) (by decide); omega), rfl, rfl⟩
        · have hd : ¬ f ∣ m := fun z => int_ne e (Int.emod_eq_zero_of_dvd z)
          refine ⟨_, rfl, _, _, rfl, rfl, m, L ++ [f], rfl, sm2, hD2, pg.done hd, fw.resolve_right (fun z => hd z.1), mn, fun p hp => ?_⟩
          rcases List.mem_append.mp hp with hp | hp
          · exact pn p hp
          · rw [List.mem_singleton.mp hp]
            exact ⟨by omega, by omega⟩
      · have hd : ¬ f ∣ m := fun z => int_ne e (Int.emod_eq_zero_of_dvd z)
        exact ⟨_, rfl, _, _, rfl, rfl, m, L, rfl, sm, hD, pf.skip hd, few, mn, pn⟩
    · have ff : ¬ f * f ≤ m := fun z => e (decide_eq_true z)
      have fl := few.len mp n8
      refine ⟨_, rfl, _, _, rfl, rfl, _, rfl, ite2 (fun e => ?_) (fun e => ?_)⟩
      · have m1 : m > 1 := of_decide_eq_true e
        refine ⟨_, rfl, _, rfl, by show 1 ≤ sizeLine; decide, fun D2 nD2 => ?_⟩
        have s2 := same_new (o := .lst [V.int m]) nD2
        refine ⟨D, D2, _, _, rfl, rfl, s2 _ _ hD, upd_same, Nat.le_of_lt (small_lt (by rw [List.length_map, List.length_singleton]; omega)), fun D3 nD3 => ?_⟩
        have em : L.map V.int ++ [V.int m] = (L ++ [m]).map V.int := by rw [List.map_append]; rfl
        rw [em]
        refine q _ D3 (L ++ [m]) ((sm.trans s2).trans (same_new nD3)) (same_none (sm.trans s2) nD3) upd_same (pf.end2 m1 (by omega)) (by rw [List.length_append, List.length_singleton]; omega) fun p hp => ?_
        rcases List.mem_append.mp hp with hp | hp
        · exact pn p hp
        · rw [List.mem_singleton.mp hp]
          exact ⟨by omega, by omega⟩
      · have m1 : ¬ m > 1 := fun z => e (decide_eq_true z)
        exact ⟨_, rfl, q _ D L sm nD hD (pf.end1 m1) (by omega) pn⟩
end
end KN

/-! ## KK -/
set_option Elab.async false
set_option linter.all false
set_option maxRecDepth 100000
set_option maxHeartbeats 4000000
/-! signed_divisors. -/
namespace KN
open PySem PySem.Spec PyProof.Rows L2 LamX NdefX
def SgAt (H : Hp) (x : V) (e : Int × Int) : Prop := ∃ a : Addr, x = .ref a ∧ H a = some (.tup [.int e.1, .int e.2])
theorem SgAt.stab : Stab SgAt := fun H H' x e s ⟨a, h, g⟩ => ⟨a, h, s _ _ g (fun _ z => by cases z)⟩
theorem CompInv.pushL {α : Type} {R : Hp → V → α → Prop} {H1 H2 H3 : Hp} {D : Addr} {ys : List α} (st : Stab R) (n : H1 D = none) (c : CompInv R H1 D H2 ys) (s : Same H2 H3) {x : V} {y : α} (r : R H3 x y) (hz : ys.length ≤ 1000000) :
    ∃ acc, H3 D = some (.lst acc) ∧ acc.length < sizeLine ∧ CompInv R H1 D (upd H3 D (.lst (acc ++ [x]))) (ys ++ [y]) := by
  obtain ⟨acc, h, al⟩ := c.at_
  have h3 := s _ _ h
  have sn : SameN H3 (upd H3 D (.lst (acc ++ [x]))) := SameN.lst h3
  have hs : sizeLine = 2 ^ 24 := rfl
  refine ⟨acc, h3, by rw [al.len]; omega, same_mut (c.same.trans s) n, _, upd_same, ?_⟩
  exact (al.mono fun x y r => st _ _ x y ((SameN.of s).trans sn) r).snoc (st _ _ x y sn r)
def SgB (k : Nat) (e : Int × Int) : Prop := 0 < e.1 ∧ e.1.natAbs < 2 ^ k ∧ e.2.natAbs ≤ 1
theorem signed_len : ∀ (L : List Int) (fs : List (Int × Int)), (L.foldl M.addP fs).length = 2 ^ L.length * fs.length
  | [], fs => by simp
  | p :: L, fs => by
    rw [List.foldl_cons, signed_len L, List.length_cons, Nat.pow_succ]
    unfold M.addP
    rw [List.length_append, List.length_map, Nat.mul_assoc]
    congr 1
    omega
theorem signed_bd : ∀ (L : List Int) (fs : List (Int × Int)) (k : Nat), (∀ p ∈ L, 0 < p ∧ p.natAbs < 2 ^ 27) → (∀ e ∈ fs, SgB k e) → ∀ e ∈ L.foldl M.addP fs, SgB (k + 27 * L.length) e
  | [], fs, k, _, h => h
  | p :: L, fs, k, hp, h => by
    rw [List.foldl_cons]
    obtain ⟨p0, p1⟩ := hp p List.mem_cons_self
    have ih := signed_bd L (M.addP fs p) (k + 27) (fun q hq => hp q (List.mem_cons_of_mem _ hq)) (fun e he => by
      rcases List.mem_append.mp he with he | he
      · obtain ⟨a, b, c⟩ := h e he
        exact ⟨a, bup b (by omega), c⟩
      · obtain ⟨d, hd, rfl⟩ := List.mem_map.mp he
        obtain ⟨a, b, c⟩ := h d hd
        refine ⟨Int.mul_pos p0 a, ?_, by show (-d.2).natAbs ≤ 1; omega⟩
        have := bmul p1 b
        rw [Nat.add_comm 27 k] at this
        exact this)
    intro e he
    have := ih e he
    rw [List.length_cons, show k + 27 * (L.length + 1) = k + 27 + 27 * L.length by omega]
    exact this
section
variable {P : Program} {w : World} {K : PySem.W.Frag} {mg : Str → Option Value} {base : Heap}
def spSD : Sp := fun vs H Q _ => ∃ n : Int, vs = [.int n] ∧ 0 < n ∧ n ≤ 100000000 ∧ ∀ (H' : Hp) (a : Addr) (xs : List V) (L : List Int), Same H H' → H' a = some (.lst xs) → Al (SgAt H') xs (M.signedOf L) → M.Factors n L → (∀ e ∈ M.signedOf L, SgB 600 e) → (M.signedOf L).length ≤ 262144 → Q (.ref a) H'
theorem ok_signed_divisors (T : Tx K mg) : Cal P w K mg base 2 "signed_divisors" p_signed_divisors spSD := by
  obtain ⟨fd, F⟩ := f_signed_divisors T
  have GP : Cal P w K mg base 1 "prime_factors" p_prime_factors spPF := ok_prime_factors T
  refine ⟨_, fd, g_signed_divisors T, F.kp, okD F sc_signed_divisors (fun vs H Q E h => ?_) (fun cdv A outer s H vs Q E hr h => ?_), F.bindsN fun _ _ _ _ _ _ us hl => match us, hl with | [_], _ => rfl⟩
  · obtain ⟨n, rfl, _⟩ := h
    rfl
  · obtain ⟨n, rfl, n0, n8, q⟩ := h
    refine ⟨_, (pss_cons (ps_set (i := 1) sc_signed_divisors.nd rfl (Or.inl rfl) (pe_lst (pa_cons (pe_tup (pa_cons (pe_int) (pa_cons (pe_int) pa_nil))) pa_nil))) (pss_cons (ps_for PassesOwn.never rfl (pi_list (pe_cal GP hr (by rfl) (pa_cons (pv 0) pa_nil))) (pg_name (i := 2) sc_signed_divisors.nd rfl (Or.inr rfl))
        (pss_one (ps_expr (pe_bm PySem.F.plainAttrs_list PySem.F.slot_list_extend PySem.F.type_list_extend mt_extend (pv 1)
            (pa_cons (pe_lc (own := [("divisor", 3), ("sign", 4)]) (g := gTup K 2 (gCons (gName 3) (gCons (gName 4) gNil))) (tt := tYes) (te := tTup (tCons (tOp (rI CMul fun i j => .int (i * j)) (tVar 2) (tVar 3)) (tCons (tUn (rU fun i => .int (-i)) (tVar 4)) tNil))) rfl sc_signed_divisors.nd (pi_list (pv 1)) (blkOk_by (N := n_signed_divisors) (sc := defScope s_signed_divisors) (by decide +kernel))
              (fun _ _ _ _ _ => pg_tup rfl (pgs_cons (pg_name (i := 3) sc_signed_divisors.nd rfl (Or.inl rfl)) (pgs_cons (pg_name (i := 4) sc_signed_divisors.nd rfl (Or.inl rfl)) pgs_nil)))
              (fun _ _ _ _ _ => pts_nil) (fun _ _ _ _ _ => pe_tup (pa_cons (pe_op op_mul (pv 2) (pv 3)) (pa_cons (pe_un un_neg (pv 4)) pa_nil)))) pa_nil))))) (pss_one (ps_ret (pv 1))))), ?_⟩
    refine ⟨by show 2 ≤ sizeLine; decide, fun t0 nt0 => ⟨by show 1 ≤ sizeLine; decide, fun D nD => ?_⟩⟩
    have s1 : Same H (upd (upd H t0 (.tup [.int 1, .int 1])) D (.lst [.ref t0])) := (same_new nt0).trans (same_new nD)
    have hD1 : (upd (upd H t0 (.tup [.int 1, .int 1])) D (.lst [.ref t0])) D = some (.lst [.ref t0]) := upd_same
    have hT1 : (upd (upd H t0 (.tup [.int 1, .int 1])) D (.lst [.ref t0])) t0 = some (.tup [.int 1, .int 1]) := same_new nD _ _ upd_same
    have nDH : H D = none := same_none (same_new nt0) nD
    generalize upd (upd H t0 (.tup [.int 1, .int 1])) D (.lst [.ref t0]) = H1 at s1 hD1 hT1 ⊢
    refine ⟨_, rfl, n, rfl, n0, n8, fun H2 D1 L s2 nD1 hD1L FL Ll Lb => ?_⟩
    have nDD : D ≠ D1 := fun z => by
      rw [z, nD1] at hD1
      cases hD1
    have Lb' : ∀ p ∈ L, 0 < p ∧ p.natAbs < 2 ^ 27 := fun p hp => ⟨(Lb p hp).1, by have := Lb p hp; omega⟩
    refine ⟨D1, rfl, ⟨_, .inl (.inl hD1L)⟩, for_list (K := K) (a := D1) (xs := L.map V.int) (fun i σ H' => ∃ u2, σ = [some (.int n), some (.ref D), u2, none, none] ∧ Same H H' ∧ H' D1 = some (.lst (L.map V.int)) ∧ ∃ xs, H' D = some (.lst xs) ∧ Al (SgAt H') xs ((L.take i).foldl M.addP [(1, 1)]))
      ⟨_, rfl, s1.trans s2, hD1L, [.ref t0], s2 _ _ hD1, Al.nil.snoc (y := (1, 1)) ⟨t0, rfl, s2 _ _ hT1⟩⟩ (fun i σ H' _ ⟨_, _, _, h, _⟩ => .inl (.inl h)) ?_ ?_⟩
    · rintro i x σ H3 hi ⟨u2, rfl, s3, hL3, xs, hD3, al3⟩
      rw [List.getElem?_map] at hi
      cases ep : L[i]? with
      | none => rw [ep] at hi; cases hi
      | some p =>
        rw [ep] at hi
        cases hi
        obtain ⟨p0, p1⟩ := Lb' p (List.mem_of_getElem? ep)
        rw [fold_snoc M.addP [(1, 1)] ep]
        have Sl : ((L.take i).foldl M.addP [(1, 1)]).length ≤ 262144 := by
          rw [signed_len, List.length_take]
          have : (2 : Nat) ^ min i L.length ≤ 2 ^ 18 := Nat.pow_le_pow_right (by decide) (by omega)
          have e : ([(1, 1)] : List (Int × Int)).length = 1 := rfl
          rw [e]
          omega
        generalize (L.take i).foldl M.addP [(1, 1)] = S at al3 Sl ⊢
        refine ⟨_, rfl, .inl ⟨rfl, _, .inl (.inl hD3)⟩, ?_⟩
        refine ⟨_, rfl, D, rfl, ⟨_, .inl (.inl hD3)⟩, fun D2 nD2 => ?_⟩
        refine lc_it (walk_list (K := K) (a := D) (xs := xs)) (fun k H' => CompInv SgAt H3 D2 H' ((S.take k).map fun e => (p * e.1, -e.2))) (CompInv.start nD2) (fun k H' _ z => .inl (.inl (z.same _ _ hD3))) (fun k x H4 H5 hk z y => ?_) (fun H4 z => ?_)
        · obtain ⟨rfl, ex⟩ := y
          obtain ⟨e, ee, a, rfl, ha⟩ := al3.back ex
          have ha4 := z.same _ _ ha
          refine ⟨a, _, rfl, .inl (.inl ha4), rfl, .int e.1, [.int e.2], rfl, .int e.2, [], rfl, rfl, rfl, ?_⟩
          refine ⟨_, rfl, _, rfl, _, _, rfl, rfl, .inl (by omega), _, rfl, _, rfl, by show 2 ≤ sizeLine; decide, fun T2 nT2 => ?_⟩
          rw [take_snoc ee, List.map_append]
          exact z.pushL SgAt.stab nD2 (same_new nT2) ⟨T2, rfl, upd_same⟩ (by rw [List.length_map, List.length_take]; omega)
        · rw [al3.len, take_all] at z
          obtain ⟨s4, acc, hD4, al4⟩ := z
          refine ⟨D, D2, xs, acc, rfl, rfl, s4 _ _ hD3, hD4, ?_, ?_⟩
          · rw [al3.len, al4.len, List.length_map]
            have : sizeLine = 2 ^ 24 := rfl
            omega
          · have sn : SameN H4 (upd H4 D (.lst (xs ++ acc))) := SameN.lst (s4 _ _ hD3)
            refine ⟨_, rfl, same_mut (s3.trans s4) nDH, ?_, xs ++ acc, upd_same, ?_⟩
            · rw [upd_ne (Ne.symm nDD)]
              exact s4 _ _ hL3
            · exact (al3.mono fun x y r => SgAt.stab _ _ x y ((SameN.of s4).trans sn) r).append (al4.mono fun x y r => SgAt.stab _ _ x y sn r)
    · rintro σ H3 ⟨u2, rfl, s3, hL3, xs, hD3, al3⟩
      rw [List.length_map, take_all] at al3
      refine ⟨_, rfl, q H3 D xs L s3 hD3 al3 FL (fun e he => ?_) ?_⟩
      · obtain ⟨a, b, c⟩ := signed_bd L [(1, 1)] 1 Lb' (fun e he => by rw [List.mem_singleton.mp he]; exact ⟨by decide, by decide, by decide⟩) e he
        exact ⟨a, bup b (by omega), c⟩
      · unfold M.signedOf
        rw [signed_len]
        have : (2 : Nat) ^ L.length ≤ 2 ^ 18 := Nat.pow_le_pow_right (by decide) Ll
        have e : ([(1, 1)] : List (Int × Int)).length = 1 := rfl
        rw [e]
        omega
end
end KN

/-! ## KO -/
set_option Elab.async false
set_option linter.all false
set_option maxRecDepth 100000
set_option maxHeartbeats 4000000
/-! lower_envelope. -/
namespace M
def cnt (ls : List Ln) (m : Int) : Nat := (ls.filter fun k => decide (k.1 < m)).length
theorem cnt_cons (k : Ln) (ls : List Ln) (m : Int) : cnt (k :: ls) m = cnt ls m + if k.1 < m then 1 else 0 := by
  unfold cnt
  by_cases h : k.1 < m
  · simp [h]
  · simp [h]
theorem cnt_mono {a b : Int} (h : a ≤ b) : ∀ ls : List Ln, cnt ls a ≤ cnt ls b
  | [] => Nat.le_refl _
  | k :: r => by
    have ih := cnt_mono h r
    rw [cnt_cons, cnt_cons]
    split <;> split <;> omega
theorem cnt_lt {m : Int} {k : Ln} : ∀ {ls : List Ln}, k ∈ ls → k.1 < m → cnt ls k.1 < cnt ls m
  | [], h, _ => by cases h
  | l :: r, h, hm => by
    rw [cnt_cons, cnt_cons]
    rcases List.mem_cons.mp h with rfl | h
    · have := cnt_mono (Int.le_of_lt hm) r
      rw [if_neg (Int.lt_irrefl _), if_pos hm]
      omega
    · have := cnt_lt h hm
      split <;> split <;> omega
theorem cnt_le (ls : List Ln) (m : Int) : cnt ls m ≤ ls.length := List.length_filter_le _ _
theorem cnt_len {k : Ln} {ls : List Ln} (h : k ∈ ls) : cnt ls k.1 < ls.length := Nat.lt_of_lt_of_le (cnt_lt h (show k.1 < k.1 + 1 by omega)) (cnt_le ls _)
theorem below_lt {l k : Ln} {p c q : Int} (h : below l k p = some c) (hq : c ≤ q) : val k q < val l q := by
  unfold below at h
  split at h
  · cases h
  · have e := Option.some.inj h
    have ev : val k q - val l q = (k.1 - l.1) * q + (k.2 - l.2) := by
      unfold val
      rw [Int.sub_mul]; omega
    have h1 : (k.2 - l.2) / (l.1 - k.1) < q := by split at e <;> omega
    have h2 : k.2 - l.2 < q * (l.1 - k.1) := (Int.ediv_lt_iff_lt_mul (by omega)).mp h1
    have e3 : (k.1 - l.1) * q = -(q * (l.1 - k.1)) := by rw [← Int.mul_neg, Int.mul_comm]; congr 1; omega
    omega
theorem falls {ls : List Ln} {l l' k : Ln} {p c q : Int} (h : Lowest ls p l) (h' : Lowest ls q l') (hk : k ∈ ls) (hb : below l k p = some c) (hc : c ≤ q) : l'.1 < l.1 := by
  have h1 := below_lt hb hc
  have h2 := below_gt hb
  have h3 : val l' q ≤ val k q := by rcases h'.2 k hk with z | z <;> omega
  have h4 : val l p ≤ val l' p := by rcases h.2 l' h'.1 with z | z <;> omega
  have e1 : val l' q - val l q = (l'.1 - l.1) * q + (l'.2 - l.2) := by
    unfold val
    rw [Int.sub_mul]; omega
  have e2 : val l' p - val l p = (l'.1 - l.1) * p + (l'.2 - l.2) := by
    unfold val
    rw [Int.sub_mul]; omega
  by_cases z : l'.1 < l.1
  · exact z
  · exfalso
    have : (l'.1 - l.1) * p ≤ (l'.1 - l.1) * q := Int.mul_le_mul_of_nonneg_left (by omega) (by omega)
    omega
end M
namespace KN
open PySem PySem.Spec PyProof.Rows L2 LamX NdefX
theorem tabs_but {T : List (Addr × Str)} {H H' : Hp} {p : Addr} {o : HO} (t : Tabs T H) (s : SameB p H H') (hp : H p = some o) (n1 : ∀ ps, o ≠ .tbl ps) (n2 : ∀ c q, o ≠ CodeO c q) : Tabs T H' := fun x hx => by
  obtain ⟨ps, h1, h2, h3⟩ := t x hx
  refine ⟨ps, s _ _ h1 (ne_of h1 hp fun z => n1 ps z.symm), h2, fun pos cv hc => ?_⟩
  obtain ⟨c, e1, e2⟩ := h3 pos cv hc
  exact ⟨c, e1, s _ _ e2 (ne_of e2 hp fun z => n2 _ _ z.symm)⟩
theorem tabs_lst {T : List (Addr × Str)} {H : Hp} {p : Addr} {xs : List V} {o : HO} (t : Tabs T H) (hp : H p = some (.lst xs)) : Tabs T (upd H p o) :=
  tabs_but t (SameB.refl p H).upd hp (fun _ z => by cases z) (fun _ _ z => by cases z)
theorem ext_mut {H H' : Hp} {p : Addr} {o : HO} (s : ExtN H H') (h : H p = none) : ExtN H (upd H' p o) := fun b x e n => by
  rw [upd_ne (ne_of_none e h)]
  exact s b x e n
def PtAt (C : Addr) (H : Hp) (x : V) (q : Int × Int × M.Ln) : Prop := ∃ (t : Addr) (y : V), x = .ref t ∧ H t = some (.tup [.int q.1, .int q.2.1, y]) ∧ LnAt C H y q.2.2
theorem PtAt.stab {C : Addr} : Stab (PtAt C) := fun H H' x q s ⟨t, y, e, h, l⟩ => ⟨t, y, e, s _ _ h (fun _ z => by cases z), LnAt.stab _ _ _ _ s l⟩
/-- all but lists and tables -/
def SameM (H H' : Hp) : Prop := ∀ b o, H b = some o → (∀ xs, o ≠ .lst xs) → (∀ ps, o ≠ .tbl ps) → H' b = some o
theorem LnAt.ext {C : Addr} {H H' : Hp} {x : V} {l : M.Ln} (s : ExtN H H') (h : LnAt C H x l) : LnAt C H' x l := by
  obtain ⟨a, dx, e, g⟩ := h
  exact ⟨a, dx, e, s _ _ g (fun _ z => by cases z)⟩
theorem PtAt.ext {C : Addr} {H H' : Hp} {x : V} {q : Int × Int × M.Ln} (s : ExtN H H') (h : PtAt C H x q) : PtAt C H' x q := by
  obtain ⟨t, y, e, g, l⟩ := h
  exact ⟨t, y, e, s _ _ g (fun _ z => by cases z), l.ext s⟩
def OptI (_ : Hp) (x : V) (o : Option Int) : Prop := x = optV o
theorem OptI.stab : Stab OptI := fun _ _ _ _ _ h => h
def IntI (_ : Hp) (x : V) (c : Int) : Prop := x = .int c
theorem IntI.stab : Stab IntI := fun _ _ _ _ _ h => h
theorem al_int {H : Hp} : ∀ {xs : List V} {cs : List Int}, Al (IntI H) xs cs → xs = cs.map V.int := fun {xs cs} h => by
  refine List.ext_getElem? fun i => ?_
  rw [List.getElem?_map]
  cases e : cs[i]? with
  | none =>
    have : cs.length ≤ i := List.getElem?_eq_none_iff.mp e
    exact List.getElem?_eq_none_iff.mpr (by rw [h.len]; exact this)
  | some c =>
    obtain ⟨x, ex, rx⟩ := h.get i c e
    rw [ex, rx]; rfl
section
variable {P : Program} {w : World} {K : PySem.W.Frag} {mg : Str → Option Value} {base : Heap}
def spEnv (K : PySem.W.Frag) : Sp := fun vs H Q _ => ∃ (a : Addr) (xs : List V) (ls : List M.Ln) (f l : Int), vs = [.ref a, .int f, .int l] ∧ LnsAt (CL K) H a xs ls ∧ ls ≠ [] ∧ ls.length ≤ 1000 ∧ (∀ k ∈ ls, k.1.natAbs < 2 ^ 60) ∧ Tabs (Tl K) H ∧ f ≤ l + 1 ∧
  ∀ (H' : Hp) (D : Addr) (ys : List V) (ps : List (Int × Int × M.Ln)), ExtN H H' → Tabs (Tl K) H' → H' D = some (.lst ys) → Al (PtAt (CL K) H') ys ps → M.EnvOk (M.minv ls) f (l + 1) ps → (∀ q ∈ ps, q.2.2 ∈ ls) → ps.length ≤ ls.length → Q (.ref D) H'
theorem ok_lower_envelope (T : Tx K mg) (TB : TabB base mg (cLow K) (pLow K)) : Cal P w K mg base 5 "lower_envelope" p_lower_envelope (spEnv K) := by
  obtain ⟨fd, F⟩ := f_lower_envelope T
  have GL : Cal P w K mg base 4 "lowest" p_lowest (spLow K) := ok_lowest T TB
  have GN : Met P w K mg base 1 (CL K) "next_below" p_Line_next_below (spNext (CL K)) := ok_next_below T
  refine ⟨_, fd, g_lower_envelope T, F.kp, okD F sc_lower_envelope (fun vs H Q E h => ?_) (fun cdv A outer s H vs Q E hr h => ?_), F.bindsN fun _ _ _ _ _ _ us hl => match us, hl with | [_, _, _], _ => rfl⟩
  · obtain ⟨a, xs, ls, f, l, rfl, _⟩ := h
    rfl
  · obtain ⟨a, xs, ls, f, l, rfl, ⟨ha, al⟩, hne, hlen, hb, hT, hfl, q⟩ := h
    have c := c_Line T
    refine ⟨_, (pss_cons (ps_asg (pe_tup (pa_cons (pe_lst pa_nil) (pa_cons (pv 1) pa_nil))) (pg_tup rfl (pgs_cons (pg_name (i := 3) sc_lower_envelope.nd rfl (Or.inl rfl)) (pgs_cons (pg_name (i := 4) sc_lower_envelope.nd rfl (Or.inr rfl)) pgs_nil)))) (pss_cons (ps_while PassesOwn.never (pt_cmpR op_le (pv 4) (pv 2) (nomark _))
        (pss_cons (ps_set (i := 5) sc_lower_envelope.nd rfl (Or.inr rfl) (pe_cal GL hr (by rfl) (pa_cons (pv 0) (pa_cons (pv 4) pa_nil)))) (pss_cons (ps_setLc (i := 6) (own := [("other", 8)]) (g := gName 8) (tt := tYes) (te := tMeth (CL K) "next_below" (spNext (CL K)) [] E0 (tVar 5) (tCons (tVar 8) (tCons (tVar 4) tNil))) rfl sc_lower_envelope.nd rfl rfl (sw_true rfl rfl rfl (by decide +kernel)) (pi_list (pv 0)) (blkOk_by (N := n_lower_envelope) (sc := defScope s_lower_envelope) (by decide +kernel))
            (fun _ _ _ _ _ => pg_name (i := 8) sc_lower_envelope.nd rfl (Or.inl rfl)) (fun _ _ _ _ _ => pts_nil) (fun _ _ _ _ _ => pe_met (pv 5) c GN (hr.mono (by decide)) (pa_cons (pv 8) (pa_cons (pv 4) pa_nil)))) (pss_cons (ps_set (i := 7) sc_lower_envelope.nd rfl (Or.inl rfl) (pe_callB (cr_min rfl) (by rfl) (t_min T) b_min (pa_cons (pe_op op_cat
              (pe_lc (own := [("change", 9)]) (g := gName 9) (tt := tTest (tOp (fun x y H Q => y = .non ∧ Q (.bl (!decide (x = .non))) H) (tVar 9) (tC .non))) (te := tVar 9) rfl sc_lower_envelope.nd (pi_list (pv 6)) (blkOk_by (N := n_lower_envelope) (sc := defScope s_lower_envelope) (by decide +kernel))
                (fun _ _ _ _ _ => pg_name (i := 9) sc_lower_envelope.nd rfl (Or.inl rfl)) (fun _ _ _ _ _ => pts_one (pt_cmpR op_notN (pv 9) pe_non (nomark _))) (fun _ _ _ _ _ => pv 9))
              (pe_lst (pa_cons (pe_op op_add (pv 2) pe_int) pa_nil))) pa_nil))) (pss_cons (ps_expr (pe_bm PySem.F.plainAttrs_list PySem.F.slot_list_append PySem.F.type_list_append mt_append (pv 3) (pa_cons (pe_tup (pa_cons (pv 4) (pa_cons (pv 7) (pa_cons (pv 5) pa_nil)))) pa_nil))) (pss_one (ps_set (i := 4) sc_lower_envelope.nd rfl (Or.inr rfl) (pv 7)))))))) (pss_one (ps_ret (pv 3))))), ?_⟩
    refine ⟨by show 0 ≤ sizeLine; decide, fun D nD => ⟨_, rfl, by show 2 ≤ sizeLine; decide, fun t nt => ?_⟩⟩
    refine ⟨t, _, rfl, .inl (.inl upd_same), rfl, .ref D, [.int f], rfl, .int f, [], rfl, rfl, ?_⟩
    have s1 : Same H (upd (upd H D (.lst [])) t (.tup [.ref D, .int f])) := (same_new nD).trans (same_new nt)
    have hD1 : (upd (upd H D (.lst [])) t (.tup [.ref D, .int f])) D = some (.lst []) := same_new nt _ _ upd_same
    generalize upd (upd H D (.lst [])) t (.tup [.ref D, .int f]) = H1 at s1 hD1 ⊢
    refine ⟨fun mu σ H' => ∃ (p : Int) (u5 u6 u7 : Option V) (ps : List (Int × Int × M.Ln)) (ys : List V), σ = [some (.ref a), some (.int f), some (.int l), some (.ref D), some (.int p), u5, u6, u7, none, none] ∧ ExtN H H' ∧ Tabs (Tl K) H' ∧ H' D = some (.lst ys) ∧ Al (PtAt (CL K) H') ys ps ∧
        M.EnvOk (M.minv ls) f p ps ∧ (∀ q ∈ ps, q.2.2 ∈ ls) ∧ ps.length ≤ ls.length ∧ (p ≤ l → ∀ k, M.Lowest ls p k → ps.length + M.cnt ls k.1 < ls.length) ∧ p ≤ l + 1 ∧ mu = (l + 1 - p).toNat,
      ⟨_, f, none, none, none, [], [], rfl, ExtN.of s1, hT.ext s1, hD1, Al.nil, rfl, (fun q h => nomatch h), Nat.zero_le _, fun _ k hk => by have := M.cnt_len hk.1; show 0 + _ < _; omega, hfl, rfl⟩, ?_⟩
    rintro mu σ H2 ⟨p, u5, u6, u7, ps, ys, rfl, ex, tb, hD, alp, env, mem, len, fall, pl, rfl⟩
    refine ⟨_, rfl, _, rfl, _, _, rfl, rfl, _, rfl, ite2 (fun e => ?_) (fun e => ?_)⟩
    · have hp : p ≤ l := of_decide_eq_true e
      refine ⟨fun σ' H' => ∃ (p' : Int) (u5 u6 u7 : Option V) (ps : List (Int × Int × M.Ln)) (ys : List V), σ' = [some (.ref a), some (.int f), some (.int l), some (.ref D), some (.int p'), u5, u6, u7, none, none] ∧ ExtN H H' ∧ Tabs (Tl K) H' ∧ H' D = some (.lst ys) ∧ Al (PtAt (CL K) H') ys ps ∧
        M.EnvOk (M.minv ls) f p' ps ∧ (∀ q ∈ ps, q.2.2 ∈ ls) ∧ ps.length ≤ ls.length ∧ (p' ≤ l → ∀ k, M.Lowest ls p' k → ps.length + M.cnt ls k.1 < ls.length) ∧ p' ≤ l + 1 ∧ p < p',
        fun σ' H' ⟨p', u5, u6, u7, ps, ys, e1, e2, e3, e4, e5, e6, e7, e8, e9, e10, e11⟩ => ⟨(l + 1 - p').toNat, by omega, p', u5, u6, u7, ps, ys, e1, e2, e3, e4, e5, e6, e7, e8, e9, e10, rfl⟩, ?_⟩
      have ha2 : H2 a = some (.lst xs) := ex _ _ ha (fun _ z => by cases z)
      have al2 : Al (LnAt (CL K) H2) xs ls := al.mono fun x l h => h.ext ex
      refine ⟨_, rfl, _, rfl, a, xs, ls, p, rfl, ⟨ha2, al2⟩, hne, hb, tb, fun i x k H3 ex3 tb3 hi hk low => ?_⟩
      have ha3 : H3 a = some (.lst xs) := ex3 _ _ ha2 (fun _ z => by cases z)
      have al3 : Al (LnAt (CL K) H3) xs ls := al2.mono fun x l h => h.ext ex3
      have hD3 : H3 D = some (.lst ys) := ex3 _ _ hD (fun _ z => by cases z)
      have alp3 : Al (PtAt (CL K) H3) ys ps := alp.mono fun x q h => h.ext ex3
      have exH3 : ExtN H H3 := ex.trans ex3
      have hx : LnAt (CL K) H3 x k := by
        obtain ⟨k2, ek2, hx⟩ := al3.back hi
        rw [hk] at ek2
        cases ek2
        exact hx
      -- changes
      refine ⟨_, rfl, a, rfl, ⟨_, .inl (.inl ha3)⟩, fun D1 nD1 => ?_⟩
      refine lc_it (walk_list (K := K) (a := a) (xs := xs)) (fun i H' => CompInv OptI H3 D1 H' ((ls.take i).map fun k' => M.below k k' p)) (CompInv.start nD1) (fun i H' _ z => .inl (.inl (z.same _ _ ha3))) (fun i y H4 H5 hi z yy => ?_) (fun H4 z => ?_)
      · obtain ⟨rfl, ey⟩ := yy
        obtain ⟨k', ek', hk'⟩ := al3.back ey
        have hx4 : LnAt (CL K) H5 x k := hx.ext (ExtN.of z.same)
        have hk4 : LnAt (CL K) H5 y k' := hk'.ext (ExtN.of z.same)
        obtain ⟨b, dx, rfl, hb1⟩ := hx4
        refine ⟨rfl, ?_⟩
        refine ⟨_, rfl, b, dx, _, rfl, hb1, rfl, _, rfl, _, rfl, .ref b, y, k, k', p, rfl, ⟨b, dx, rfl, hb1⟩, hk4, hb k low.1, hb k' (List.mem_of_getElem? ek'), ?_⟩
        rw [take_snoc ek', List.map_append]
        exact z.push OptI.stab nD1 (fun _ _ h => h) rfl (by rw [List.length_map, List.length_take]; omega)
      · rw [al3.len, take_all] at z
        obtain ⟨s4, cs, hC4, alc⟩ := z
        have elen : cs.length = ls.length := by rw [alc.len, List.length_map]
        -- the least change
        refine ⟨_, rfl, D1, rfl, ⟨_, .inl (.inl hC4)⟩, fun D2 nD2 => ?_⟩
        refine lc_it (walk_list (K := K) (a := D1) (xs := cs)) (fun i H' => CompInv IntI H4 D2 H' (((ls.map fun k' => M.below k k' p).take i).filterMap id)) (CompInv.start nD2) (fun i H' _ z => .inl (.inl (z.same _ _ hC4))) (fun i y H5 H6 hi z yy => ?_) (fun H5 z => ?_)
        · obtain ⟨rfl, ey⟩ := yy
          obtain ⟨o, eo, ho⟩ := alc.back ey
          cases (show y = optV o from ho)
          rw [take_snoc eo, List.filterMap_append]
          cases o with
          | none =>
            rw [show List.filterMap id [(none : Option Int)] = [] from rfl, List.append_nil]
            exact ⟨rfl, _, rfl, rfl, false, rfl, iteF z⟩
          | some c' =>
            refine ⟨rfl, _, rfl, rfl, true, rfl, iteT ?_⟩
            refine ⟨_, rfl, ?_⟩
            exact z.push IntI.stab nD2 (fun _ _ h => h) rfl (by have := List.length_filterMap_le id ((ls.map fun k' => M.below k k' p).take i); rw [List.length_take, List.length_map] at this; omega)
        · rw [elen, ← List.length_map (f := fun k' => M.below k k' p), take_all] at z
          obtain ⟨s5, ns', hC5, aln⟩ := z
          have ens := al_int aln
          have hmemc : ∀ c', c' ∈ (ls.map fun k' => M.below k k' p).filterMap id ↔ ∃ k' ∈ ls, M.below k k' p = some c' := fun c' => by
            rw [List.mem_filterMap]
            constructor
            · rintro ⟨o, h1, h2⟩
              obtain ⟨k', h3, h4⟩ := List.mem_map.mp h1
              exact ⟨k', h3, by rw [h4]; exact h2⟩
            · rintro ⟨k', h3, h4⟩
              exact ⟨_, List.mem_map.mpr ⟨k', h3, rfl⟩, h4⟩
          have lcs : ((ls.map fun k' => M.below k k' p).filterMap id).length ≤ ls.length := by
            have := List.length_filterMap_le id (ls.map fun k' => M.below k k' p)
            rw [List.length_map] at this
            exact this
          generalize (ls.map fun k' => M.below k k' p).filterMap id = cc at ens hmemc lcs
          refine ⟨_, rfl, _, _, rfl, rfl, by show 1 ≤ sizeLine; decide, fun D3 nD3 => ?_⟩
          have s6 := same_new (o := .lst [.int (l + 1)]) nD3
          refine ⟨D2, D3, _, _, rfl, rfl, s6 _ _ hC5, upd_same, Nat.le_of_lt (small_lt (by rw [ens, List.length_map, List.length_singleton]; omega)), fun D4 nD4 => ?_⟩
          have s7 := same_new (o := .lst (ns' ++ [.int (l + 1)])) nD4
          have e4 : ns' ++ [V.int (l + 1)] = (cc ++ [l + 1]).map V.int := by rw [ens, List.map_append]; rfl
          refine ⟨D4, cc ++ [l + 1], rfl, .inl (.inl (by rw [← e4]; exact upd_same)), by rw [List.length_append, List.length_singleton]; omega, fun m hm hle => ?_⟩
          have sam := ((s4.trans s5).trans s6).trans s7
          generalize upd (upd H5 D3 (.lst [.int (l + 1)])) D4 (.lst (ns' ++ [.int (l + 1)])) = H6 at sam ⊢
          have ml : m ≤ l + 1 := hle _ (List.mem_append_right _ (List.mem_singleton.mpr rfl))
          have mc : ∀ c', c' ∈ cc → m ≤ c' := fun c' h => hle _ (List.mem_append_left _ h)
          have mcase : m ∈ cc ∨ m = l + 1 := by
            rcases List.mem_append.mp hm with h | h
            · exact .inl h
            · exact .inr (List.mem_singleton.mp h)
          have mp : p < m := by
            rcases mcase with h | h
            · obtain ⟨k', _, h4⟩ := (hmemc m).mp h
              exact M.below_gt h4
            · omega
          have hD6 := sam _ _ hD3
          have fl := fall hp k low
          have ex6 : ExtN H H6 := exH3.trans (ExtN.of sam)
          have tb6 := tb3.ext sam
          refine ⟨_, rfl, .inl ⟨rfl, _, .inl (.inl hD6)⟩, ?_⟩
          refine ⟨_, rfl, _, rfl, _, rfl, by show 3 ≤ sizeLine; decide, fun t nt => ?_⟩
          have s8 := same_new (o := .tup [.int p, .int m, x]) nt
          have hD7 := s8 _ _ hD6
          refine ⟨D, _, _, rfl, rfl, hD7, small_lt (by rw [alp3.len]; omega), ?_⟩
          have ht7 : (upd H6 t (.tup [.int p, .int m, x])) t = some (.tup [.int p, .int m, x]) := upd_same
          have ex7 := ex6.trans (ExtN.of s8)
          have tb7 := tb6.ext s8
          have hx7 : LnAt (CL K) (upd H6 t (.tup [.int p, .int m, x])) x k := hx.ext (ExtN.of (sam.trans s8))
          have alp7 : Al (PtAt (CL K) (upd H6 t (.tup [.int p, .int m, x]))) ys ps := alp3.mono fun x q h => h.ext (ExtN.of (sam.trans s8))
          generalize upd H6 t (.tup [.int p, .int m, x]) = H7 at hD7 ht7 ex7 tb7 hx7 alp7 ⊢
          have sn : SameN H7 (upd H7 D (.lst (ys ++ [.ref t]))) := SameN.lst hD7
          refine ⟨_, rfl, m, _, _, _, ps ++ [(p, m, k)], ys ++ [.ref t], rfl, ext_mut ex7 nD, tabs_lst tb7 hD7, upd_same, ?_, ?_, ?_, ?_, ?_, ml, mp⟩
          · exact (alp7.mono fun x q h => PtAt.stab _ _ _ _ sn h).snoc ⟨t, x, rfl, sn _ _ ht7 (fun _ z => by cases z), LnAt.stab _ _ _ _ sn hx7⟩
          · exact env.snoc mp fun y hy1 hy2 => M.stay low hy1 fun k' hk' c' hc' => Int.lt_of_lt_of_le hy2 (mc c' ((hmemc c').mpr ⟨k', hk', hc'⟩))
          · intro q hq
            rcases List.mem_append.mp hq with hq | hq
            · exact mem q hq
            · rw [List.mem_singleton.mp hq]
              exact low.1
          · rw [List.length_append, List.length_singleton]; omega
          · intro hml k2 low2
            rcases mcase with h | h
            · obtain ⟨k', h3, h4⟩ := (hmemc m).mp h
              have f1 := M.falls low low2 h3 h4 (Int.le_refl m)
              have f2 := M.cnt_lt low2.1 f1
              rw [List.length_append, List.length_singleton]; omega
            · omega
    · have hp : ¬ p ≤ l := fun z => e (decide_eq_true z)
      have ep : p = l + 1 := by omega
      subst ep
      exact ⟨_, rfl, q H2 D ys ps ex tb hD alp env mem len⟩
end
end KN

/-! ## KP -/
set_option Elab.async false
set_option linter.all false
set_option maxRecDepth 100000
set_option maxHeartbeats 4000000
/-! Pairs. -/
namespace M
theorem EnvOk.mem {f : Int → Int} : ∀ {ps : List (Int × Int × Ln)} {a b : Int}, EnvOk f a b ps → ∀ q ∈ ps, a ≤ q.1 ∧ q.1 < q.2.1 ∧ q.2.1 ≤ b
  | [], _, _, _, q, h => by cases h
  | (s, e, l) :: r, a, b, ⟨h0, h1, h2, _, h4⟩, q, h => by
    subst h0
    rcases List.mem_cons.mp h with rfl | h
    · exact ⟨Int.le_refl _, h1, h2⟩
    · obtain ⟨g1, g2, g3⟩ := EnvOk.mem h4 q h
      exact ⟨by omega, g2, g3⟩
end M
namespace KN
open PySem PySem.Spec PyProof.Rows L2 LamX NdefX
abbrev CP (K : PySem.W.Frag) : Addr := He.ga K "Pairs"
/-- the records of the law -/
structure Good (rs : List Rec) : Prop where
  len : rs.length ≤ 200
  fit : ∃ p q c, Fit p q c rs
  two : ∃ a ∈ rs, ∃ u ∈ rs, a.lo = true ∧ u.lo = false ∧ a.t < u.t
def shapeOf (rs : List Rec) : M.Shape := ⟨endsOf (bounds rs), (rs.filter (!·.lo)).map (fun r => (-r.t, r.n + 1)), (rs.filter (·.lo)).map (fun r => (r.t, -r.n))⟩
theorem Good.high {rs : List Rec} (g : Good rs) : (bounds rs).high ≠ none := by
  obtain ⟨a, ha, u, hu, la, lu, h⟩ := g.two
  exact bounds_high ha hu la lu h
theorem Good.ok {rs : List Rec} (g : Good rs) : (shapeOf rs).e.Ok := by
  obtain ⟨p, q, c, F⟩ := g.fit
  exact endsOf_ok F.p0 F.q0 (bounds_ok F) g.high
theorem red_bd (a b : Int) : (red a b).1.natAbs ≤ a.natAbs ∧ (red a b).2.natAbs ≤ b.natAbs := by
  unfold red
  constructor
  · rw [Int.natAbs_ediv_of_dvd (Int.gcd_dvd_left a b)]; exact Nat.div_le_self _ _
  · rw [Int.natAbs_ediv_of_dvd (Int.gcd_dvd_right a b)]; exact Nat.div_le_self _ _
structure EndsB (e : M.Ends) : Prop where
  low : ∀ l, e.low = some l → l.1.natAbs < 2 ^ 160 ∧ l.2.natAbs < 2 ^ 60
  h1 : e.high.1.natAbs < 2 ^ 160
  h2 : e.high.2.natAbs < 2 ^ 60
theorem Good.eb {rs : List Rec} (g : Good rs) : EndsB (shapeOf rs).e := by
  obtain ⟨p, q, c, F⟩ := g.fit
  have ok := bounds_ok F
  have hh := g.high
  show EndsB (endsOf (bounds rs))
  generalize bounds rs = s at ok hh
  cases eh : s.high with
  | none => exact absurd eh hh
  | some h =>
    obtain ⟨_, _, a2, a1⟩ := ok.high h eh
    have ehi : (endsOf s).high = red h.1 h.2 := by
      unfold endsOf
      rw [eh]
    obtain ⟨r1, r2⟩ := red_bd h.1 h.2
    refine ⟨fun l hl => ?_, by rw [ehi]; exact Nat.lt_of_le_of_lt r1 a1, by rw [ehi]; exact Nat.lt_of_le_of_lt r2 a2⟩
    unfold endsOf at hl
    cases el : s.low with
    | none =>
      rw [el] at hl
      cases hl
    | some m =>
      rw [el] at hl
      have hl' : (if m.1 < 0 then none else some (red m.1 m.2)) = some l := hl
      obtain ⟨_, _, b2, b1⟩ := ok.low m el
      obtain ⟨r3, r4⟩ := red_bd m.1 m.2
      split at hl'
      · cases hl'
      · cases hl'
        exact ⟨Nat.lt_of_le_of_lt r3 b1, Nat.lt_of_le_of_lt r4 b2⟩
theorem EndsB.first {e : M.Ends} (b : EndsB e) (ok : e.Ok) {d : Int} (h0 : 0 < d) (hd : d.natAbs < 2 ^ 27) : (e.first d).natAbs < 2 ^ 190 := by
  unfold M.Ends.first
  cases el : e.low with
  | none => show (0 : Int).natAbs < 2 ^ 190; decide
  | some l =>
    have h1 := bdiv (bmul (b.low l el).1 hd) (ok.1 l el)
    show (l.1 * d / l.2 + 1).natAbs < 2 ^ 190
    have e1 : (2 : Nat) ^ (160 + 27) + 2 ≤ 2 ^ 190 := by decide
    omega
theorem EndsB.last {e : M.Ends} (b : EndsB e) (ok : e.Ok) {d : Int} (h0 : 0 < d) (hd : d.natAbs < 2 ^ 27) : (e.last d).natAbs < 2 ^ 190 := by
  unfold M.Ends.last
  have h1 := bdiv (bmul (bneg b.h1) hd) ok.2.1
  have e1 : (2 : Nat) ^ (160 + 27) + 2 ≤ 2 ^ 190 := by decide
  omega
/-- a part's numbers -/
def PtB (q : Int × Int × M.Ln) : Prop := q.1.natAbs < 2 ^ 200 ∧ q.2.1.natAbs < 2 ^ 200 ∧ q.2.2.1.natAbs < 2 ^ 60 ∧ q.2.2.2.natAbs < 2 ^ 200
def pf (f l : Int) (D : Addr) : List (Str × V) := [("first", .int f), ("last", .int l), ("parts", .ref D)]
def PairsAt (K : PySem.W.Frag) (H : Hp) (p : Addr) (s : M.Shape) (d : Int) : Prop := ∃ (dx D : Addr) (ys : List V) (ps qs : List (Int × Int × M.Ln)), H p = some (.ins (CP K) dx (pf (s.e.first d) (s.e.last d) D)) ∧ H D = some (.lst ys) ∧ Al (PtAt (CL K) H) ys (ps ++ qs) ∧
  M.EnvOk (M.minv (M.cyc s.u d)) (s.e.first d) (s.e.last d + 1) ps ∧ M.EnvOk (M.minv (M.cyc s.l d)) (s.e.first d) (s.e.last d + 1) qs ∧ ∀ q ∈ ps ++ qs, PtB q
/-- all but p and tables -/
def SameX (p : Addr) (H H' : Hp) : Prop := ∀ b o, H b = some o → (∀ ps, o ≠ .tbl ps) → b ≠ p → H' b = some o
section
variable {p : Addr} {H H1 H2 : Hp}
theorem SameX.of (s : Same H H1) : SameX p H H1 := fun _ _ h _ _ => s _ _ h
theorem SameX.ofB (s : SameB p H H1) : SameX p H H1 := fun _ _ h _ n => s _ _ h n
theorem SameX.ofE (s : ExtN H H1) : SameX p H H1 := fun _ _ h n _ => s _ _ h n
theorem SameX.trans (a : SameX p H H1) (b : SameX p H1 H2) : SameX p H H2 := fun _ _ h n m => b _ _ (a _ _ h n m) n m
end
theorem cyc_append (a b : List M.Ln) (d : Int) : M.cyc (a ++ b) d = M.cyc a d ++ M.cyc b d := List.map_append
theorem PtAt.but {C : Addr} {H H' : Hp} {p C' dx : Addr} {fs : List (Str × V)} {x : V} {q : Int × Int × M.Ln} (s : SameB p H H') (hp : H p = some (.ins C' dx fs)) (hn : fs.head?.map Prod.fst ≠ some "slope") (h : PtAt C H x q) : PtAt C H' x q := by
  obtain ⟨t, y, e, ht, b, dy, e2, hb⟩ := h
  refine ⟨t, y, e, s _ _ ht (ne_of ht hp (by intro z; cases z)), b, dy, e2, s _ _ hb (ne_of hb hp (fun z => hn ?_))⟩
  injection z with _ _ z
  rw [← z]; rfl
section
variable {K : PySem.W.Frag}
theorem first_te {σ : L2.St} {H : Hp} {Q : VK} {v : V} {e : M.Ends} {d : Int} (h4 : σ[4]? = some (some v)) (h2 : σ[2]? = some (some (.int d))) (hv : OptAt H v e.low) (eb : EndsB e) (ok : e.Ok) (hd : d.natAbs < 2 ^ 27) (q : Q (.int (e.first d)) H) :
    tIf (tTest (tOp (fun x y H Q => y = .non ∧ Q (.bl (decide (x = .non))) H) (tVar 4) (tC .non))) (tC (.int 0)) (tOp (rI0 fun i j => .int (i + j)) (tOp (rI CDivW fun i j => .int (i / j)) (tOp (rI CMulW fun i j => .int (i * j)) (tOp (rIxT K) (tVar 4) (tC (.int 0))) (tVar 2)) (tOp (rIxT K) (tVar 4) (tC (.int 1)))) (tC (.int 1))) σ H Q := by
  unfold M.Ends.first at q
  cases el : e.low with
  | none =>
    rw [el] at q hv
    cases hv
    exact ⟨_, h4, rfl, true, rfl, iteT q⟩
  | some l =>
    rw [el] at q hv
    obtain ⟨t, rfl, ht⟩ := hv
    obtain ⟨b1, b2⟩ := eb.low l el
    have l0 := ok.1 l el
    refine ⟨_, h4, rfl, false, rfl, iteF ?_⟩
    refine ⟨_, h4, t, _, 0, _, rfl, rfl, .inl (.inl ht), atI_nat (j := 0) rfl, _, h2, _, _, rfl, rfl, mw (bup b1 (by decide)) (bup hd (by decide)), _, h4, t, _, 1, _, rfl, rfl, .inl (.inl ht), atI_nat (j := 1) rfl, _, _, rfl, rfl, dw l0 (bup b2 (by decide)), _, _, rfl, rfl, q⟩
end
section
variable {P : Program} {w : World} {K : PySem.W.Frag} {mg : Str → Option Value} {base : Heap}
def spPairs (K : PySem.W.Frag) : Sp := fun vs H Q _ => ∃ (p dx a : Addr) (xs : List V) (rs : List Rec) (d : Int), vs = [.ref p, .ref a, .int d] ∧ H p = some (.ins (CP K) dx []) ∧ RecsAt H a xs rs ∧ Good rs ∧ 0 < d ∧ d.natAbs < 2 ^ 27 ∧ Tabs (Tl K) H ∧
  ∀ H', SameX p H H' → Tabs (Tl K) H' → PairsAt K H' p (shapeOf rs) d → Q .non H'
theorem ok_Pairs (T : Tx K mg) (TB : TabB base mg (cLow K) (pLow K)) : Mak P w K mg base 6 "Pairs" (CP K) p_Pairs_init (spPairs K) := by
  obtain ⟨fd, F⟩ := f_Pairs_init T
  have GE : Cal P w K mg base 5 "ends_of" p_ends_of spEndsOf := ok_ends_of T
  have GV : Cal P w K mg base 5 "lower_envelope" p_lower_envelope (spEnv K) := ok_lower_envelope T TB
  have GM : Mak P w K mg base 1 "Line" (CL K) p_Line_init (spLine (CL K)) := ok_Line T
  refine ⟨_, fd, g_Pairs T, k_Pairs T, okD F sc_Pairs_init (fun vs H Q E h => ?_) (fun cdv A outer s H vs Q E hr h => ?_), F.bindsN fun _ _ _ _ _ _ us hl => match us, hl with | [_, _, _], _ => rfl⟩
  · obtain ⟨p, dx, a, xs, rs, d, rfl, _⟩ := h
    rfl
  · obtain ⟨p, dx, a, xs, rs, d, rfl, hp, hR, gd, d0, d27, hT, q⟩ := h
    have c := c_Pairs T
    refine ⟨_, (pss_cons (ps_set (i := 3) sc_Pairs_init.nd rfl (Or.inl rfl) (pe_cal GE hr (by rfl) (pa_cons (pv 1) pa_nil))) (pss_cons (ps_if (pt_cmpR op_isN (pv 3) pe_non (nomark _)) (pss_one (ps_never)) pss_nil) (pss_cons (ps_asg (pv 3) (pg_tup rfl (pgs_cons (pg_name (i := 4) sc_Pairs_init.nd rfl (Or.inl rfl)) (pgs_cons (pg_name (i := 5) sc_Pairs_init.nd rfl (Or.inl rfl)) pgs_nil)))) (pss_cons (ps_if (pt_cmpR op_isN (pv 5) pe_non (nomark _)) (pss_one (ps_never)) pss_nil) (pss_cons (ps_fld (pv 0) (pe_ifExp (pt_cmpR op_isN (pv 4) pe_non (nomark _)) pe_int (pe_op op_add (pe_op op_fdivW (pe_op op_mulW (pe_ix ix_tup (pv 4) pe_int (fun _ _ => rfl)) (pv 2)) (pe_ix ix_tup (pv 4) pe_int (fun _ _ => rfl))) pe_int)) rfl) (pss_cons (ps_fld (pv 0) (pe_op op_sub (pe_un un_neg (pe_op op_fdivW (pe_op op_mulW (pe_un un_neg (pe_ix ix_tup (pv 5) pe_int (fun _ _ => rfl))) (pv 2)) (pe_ix ix_tup (pv 5) pe_int (fun _ _ => rfl)))) pe_int) rfl) (pss_cons (ps_setLc (i := 6) (own := [("kind", 8), ("time", 9), ("number", 10)]) (g := gTup K 3 (gCons (gName 8) (gCons (gName 9) (gCons (gName 10) gNil)))) (tt := tTest (tOp rEq (tVar 8) (tC (.str "at most")))) (te := tMake (CL K) (spLine (CL K)) [] E0 (tCons (tUn (rU fun i => .int (-i)) (tVar 9)) (tCons (tOp (rI CMul fun i j => .int (i * j)) (tOp (rI0 fun i j => .int (i + j)) (tVar 10) (tC (.int 1))) (tVar 2)) tNil)))
          rfl sc_Pairs_init.nd rfl rfl (sw_true rfl rfl rfl (by decide +kernel)) (pi_list (pv 1)) (blkOk_by (N := n_Pairs_init) (sc := defScope s_Pairs_init) (by decide +kernel))
          (fun _ _ _ _ _ => pg_tup rfl (pgs_cons (pg_name (i := 8) sc_Pairs_init.nd rfl (Or.inl rfl)) (pgs_cons (pg_name (i := 9) sc_Pairs_init.nd rfl (Or.inl rfl)) (pgs_cons (pg_name (i := 10) sc_Pairs_init.nd rfl (Or.inl rfl)) pgs_nil))))
          (fun _ _ _ _ _ => pts_one (pt_cmpR op_eq (pv 8) pe_str (nomark _))) (fun _ _ _ _ _ => pe_mak GM (hr.mono (by decide)) (by rfl) (pa_cons (pe_un un_neg (pv 9)) (pa_cons (pe_op op_mul (pe_op op_add (pv 10) pe_int) (pv 2)) pa_nil)))) (pss_cons (ps_setLc (i := 7) (own := [("kind", 8), ("time", 9), ("number", 10)]) (g := gTup K 3 (gCons (gName 8) (gCons (gName 9) (gCons (gName 10) gNil)))) (tt := tTest (tOp rEq (tVar 8) (tC (.str "at least")))) (te := tMake (CL K) (spLine (CL K)) [] E0 (tCons (tVar 9) (tCons (tOp (rI CMul fun i j => .int (i * j)) (tUn (rU fun i => .int (-i)) (tVar 10)) (tVar 2)) tNil)))
          rfl sc_Pairs_init.nd rfl rfl (sw_true rfl rfl rfl (by decide +kernel)) (pi_list (pv 1)) (blkOk_by (N := n_Pairs_init) (sc := defScope s_Pairs_init) (by decide +kernel))
          (fun _ _ _ _ _ => pg_tup rfl (pgs_cons (pg_name (i := 8) sc_Pairs_init.nd rfl (Or.inl rfl)) (pgs_cons (pg_name (i := 9) sc_Pairs_init.nd rfl (Or.inl rfl)) (pgs_cons (pg_name (i := 10) sc_Pairs_init.nd rfl (Or.inl rfl)) pgs_nil))))
          (fun _ _ _ _ _ => pts_one (pt_cmpR op_eq (pv 8) pe_str (nomark _))) (fun _ _ _ _ _ => pe_mak GM (hr.mono (by decide)) (by rfl) (pa_cons (pv 9) (pa_cons (pe_op op_mul (pe_un un_neg (pv 10)) (pv 2)) pa_nil)))) (pss_one (ps_fld (pv 0) (pe_op op_cat (pe_cal GV hr (by rfl) (pa_cons (pv 6) (pa_cons (pe_fld (pv 0) rfl) (pa_cons (pe_fld (pv 0) rfl) pa_nil)))) (pe_cal GV hr (by rfl) (pa_cons (pv 7) (pa_cons (pe_fld (pv 0) rfl) (pa_cons (pe_fld (pv 0) rfl) pa_nil))))) rfl)))))))))), ?_⟩
    obtain ⟨fp, fq, fc, FT⟩ := gd.fit
    have hh := gd.high
    have eb := gd.eb
    have ok := gd.ok
    have glen := gd.len
    refine ⟨_, rfl, a, xs, rs, fp, fq, fc, rfl, hR, by omega, FT, hh, fun t H1 vl vh s1 ht ol oh => ?_⟩
    refine ⟨_, rfl, rfl, false, rfl, iteF ?_⟩
    obtain ⟨th, rfl, hth⟩ := oh
    refine ⟨_, rfl, t, [vl, .ref th], rfl, .inl (.inl ht), rfl, vl, [.ref th], rfl, .ref th, [], rfl, rfl, ?_⟩
    refine ⟨_, rfl, rfl, false, rfl, iteF ?_⟩
    have hp1 := s1 _ _ hp
    have tb1 := hT.ext s1
    have hR1 := hR.same s1
    refine first_te (e := (shapeOf rs).e) (d := d) rfl rfl ol eb ok d27 ?_
    refine ⟨_, rfl, p, CP K, dx, _, rfl, hp1, c, a_Pairs_first T, by show 0 < 1000; decide, ?_⟩
    have nth : th ≠ p := ne_of hth hp1 (by intro z; cases z)
    have hth2 : (upd H1 p (.ins (CP K) dx [("first", .int ((shapeOf rs).e.first d))])) th = some (.tup [.int (shapeOf rs).e.high.1, .int (shapeOf rs).e.high.2]) := by
      rw [upd_ne nth]; exact hth
    refine ⟨_, rfl, th, _, 0, _, rfl, rfl, .inl (.inl hth2), atI_nat (j := 0) rfl, _, rfl, _, rfl, _, _, rfl, rfl, mw (bup (bneg eb.h1) (by decide)) (bup d27 (by decide)), _, rfl, th, _, 1, _, rfl, rfl, .inl (.inl hth2), atI_nat (j := 1) rfl, _, _, rfl, rfl, dw ok.2.1 (bup eb.h2 (by decide)), _, rfl, _, _, rfl, rfl, ?_⟩
    refine ⟨_, rfl, p, CP K, dx, _, rfl, upd_same, c, a_Pairs_last T, by show 1 < 1000; decide, ?_⟩
    rw [upd_upd]
    have fbd := eb.first ok d0 d27
    have lbd := eb.last ok d0 d27
    have fle := M.Ends.le ok d0
    show tSeq _ _ _ _ (upd H1 p (.ins (CP K) dx [("first", .int ((shapeOf rs).e.first d)), ("last", .int ((shapeOf rs).e.last d))]))
    have hp2 : (upd H1 p (.ins (CP K) dx [("first", .int ((shapeOf rs).e.first d)), ("last", .int ((shapeOf rs).e.last d))])) p = some (.ins (CP K) dx [("first", .int ((shapeOf rs).e.first d)), ("last", .int ((shapeOf rs).e.last d))]) := upd_same
    have sb2 : SameB p H1 (upd H1 p (.ins (CP K) dx [("first", .int ((shapeOf rs).e.first d)), ("last", .int ((shapeOf rs).e.last d))])) := (SameB.refl p H1).upd
    generalize upd H1 p (.ins (CP K) dx [("first", .int ((shapeOf rs).e.first d)), ("last", .int ((shapeOf rs).e.last d))]) = H2 at hp2 sb2 ⊢
    have tb2 : Tabs (Tl K) H2 := tabs_but tb1 sb2 hp1 (fun _ z => by cases z) (fun _ _ z => by cases z)
    have sx2 : SameX p H H2 := (SameX.of s1).trans (SameX.ofB sb2)
    have hR2 : RecsAt H2 a xs rs := ⟨sb2 _ _ hR1.at_ (ne_of hR1.at_ hp1 (by intro z; cases z)), hR1.len, fun i r e => by
      obtain ⟨b, e1, e2⟩ := hR1.get i r e
      exact ⟨b, e1, sb2 _ _ e2 (ne_of e2 hp1 (by intro z; cases z))⟩⟩
    -- upper
    refine ⟨_, rfl, a, rfl, ⟨_, .inl (.inl hR2.at_)⟩, fun D1 nD1 => ?_⟩
    refine lc_it (walk_list (K := K) (a := a) (xs := xs)) (fun i H' => CompInv (LnAt (CL K)) H2 D1 H' (M.cyc (((rs.take i).filter (!·.lo)).map fun r => (-r.t, r.n + 1)) d)) (CompInv.start nD1) (fun i H' _ z => .inl (.inl (z.same _ _ hR2.at_))) (fun i x H3 H4 hi z y => ?_) (fun H3 z => ?_)
    · obtain ⟨rfl, ex⟩ := y
      obtain ⟨b, r, rfl, er, hb⟩ := hR2.back ex
      have hb3 := z.same _ _ hb
      refine ⟨b, r.v, rfl, .inl (.inl hb3), rfl, .str r.kind, [.int r.t, .int r.n], rfl, .int r.t, [.int r.n], rfl, .int r.n, [], rfl, rfl, rfl, ?_⟩
      refine ⟨_, rfl, rfl, !r.lo, congrArg V.bl (kind_hi r), ?_⟩
      rw [filter_snoc (fun r : Rec => !r.lo) er, List.map_append, cyc_append]
      cases hlo : r.lo with
      | false =>
        refine iteT ?_
        refine ⟨_, rfl, _, rfl, _, rfl, _, _, rfl, rfl, _, rfl, _, _, rfl, rfl, .inr ⟨by omega, by omega⟩, fun x dx' nx ndx nex => ?_⟩
        have s0 : Same H4 (upd (upd H4 dx' (.own x)) x (.ins (CL K) dx' [])) := fun b o e => by
          rw [upd_ne (ne_of_none e nx), upd_ne (ne_of_none e ndx)]
          exact e
        refine ⟨x, dx', _, _, rfl, upd_same, fun H' sb hx' => ⟨rfl, ?_⟩⟩
        have s5 : Same H4 H' := fun b o e => sb b o (s0 _ _ e) (ne_of_none e nx)
        refine z.push LnAt.stab nD1 s5 ⟨x, dx', rfl, ?_⟩ (by have := len_filter_take (fun r : Rec => !r.lo) rs i; unfold M.cyc; rw [List.length_map, List.length_map]; omega)
        rw [hx', Int.mul_comm]
      | true =>
        refine iteF ?_
        rw [show M.cyc (List.map (fun r : Rec => (-r.t, r.n + 1)) (if (!true) = true then [r] else [])) d = ([] : List M.Ln) from rfl, List.append_nil]
        exact z
    · rw [hR2.len, take_all] at z
      obtain ⟨s3, xs1, hD1, al1⟩ := z
      have hp3 := s3 _ _ hp2
      have hR3 := hR2.same s3
      -- lower
      refine ⟨_, rfl, a, rfl, ⟨_, .inl (.inl hR3.at_)⟩, fun D2 nD2 => ?_⟩
      refine lc_it (walk_list (K := K) (a := a) (xs := xs)) (fun i H' => CompInv (LnAt (CL K)) H3 D2 H' (M.cyc (((rs.take i).filter (·.lo)).map fun r => (r.t, -r.n)) d)) (CompInv.start nD2) (fun i H' _ z => .inl (.inl (z.same _ _ hR3.at_))) (fun i x H4 H5 hi z y => ?_) (fun H4 z => ?_)
      · obtain ⟨rfl, ex⟩ := y
        obtain ⟨b, r, rfl, er, hb⟩ := hR3.back ex
        have hb3 := z.same _ _ hb
        refine ⟨b, r.v, rfl, .inl (.inl hb3), rfl, .str r.kind, [.int r.t, .int r.n], rfl, .int r.t, [.int r.n], rfl, .int r.n, [], rfl, rfl, rfl, ?_⟩
        refine ⟨_, rfl, rfl, r.lo, congrArg V.bl (kind_lo r), ?_⟩
        rw [filter_snoc (fun r : Rec => r.lo) er, List.map_append, cyc_append]
        cases hlo : r.lo with
        | true =>
          refine iteT ?_
          refine ⟨_, rfl, _, rfl, _, rfl, _, rfl, _, _, rfl, rfl, .inr ⟨by omega, by omega⟩, fun x dx' nx ndx nex => ?_⟩
          have s0 : Same H5 (upd (upd H5 dx' (.own x)) x (.ins (CL K) dx' [])) := fun b o e => by
            rw [upd_ne (ne_of_none e nx), upd_ne (ne_of_none e ndx)]
            exact e
          refine ⟨x, dx', _, _, rfl, upd_same, fun H' sb hx' => ⟨rfl, ?_⟩⟩
          have s5 : Same H5 H' := fun b o e => sb b o (s0 _ _ e) (ne_of_none e nx)
          refine z.push LnAt.stab nD2 s5 ⟨x, dx', rfl, ?_⟩ (by have := len_filter_take (fun r : Rec => r.lo) rs i; unfold M.cyc; rw [List.length_map, List.length_map]; omega)
          rw [hx', Int.mul_comm]
        | false =>
          refine iteF ?_
          rw [show M.cyc (List.map (fun r : Rec => (r.t, -r.n)) (if false = true then [r] else [])) d = ([] : List M.Ln) from rfl, List.append_nil]
          exact z
      · rw [hR3.len, take_all] at z
        obtain ⟨s4, xs2, hD2, al2⟩ := z
        have hp4 := s4 _ _ hp3
        have hD14 := s4 _ _ hD1
        have al14 : Al (LnAt (CL K) H4) xs1 (M.cyc (shapeOf rs).u d) := al1.mono fun x y h => h.ext (ExtN.of s4)
        have al24 : Al (LnAt (CL K) H4) xs2 (M.cyc (shapeOf rs).l d) := al2
        have tb4 : Tabs (Tl K) H4 := tb2.ext (s3.trans s4)
        have sx4 : SameX p H H4 := sx2.trans (SameX.of (s3.trans s4))
        have ub : ∀ k ∈ M.cyc (shapeOf rs).u d, k.1.natAbs < 2 ^ 60 ∧ k.2.natAbs < 2 ^ 200 := fun k hk => by
          obtain ⟨k1, hk1, rfl⟩ := List.mem_map.mp hk
          obtain ⟨r, hr1, rfl⟩ := List.mem_map.mp hk1
          have m := (List.mem_filter.mp hr1).1
          exact ⟨bup (bneg (FT.tb r m)) (by decide), bup (bmul d27 (badd (FT.nb r m) (show (1 : Int).natAbs < 2 ^ 150 by decide))) (by decide)⟩
        have lb : ∀ k ∈ M.cyc (shapeOf rs).l d, k.1.natAbs < 2 ^ 60 ∧ k.2.natAbs < 2 ^ 200 := fun k hk => by
          obtain ⟨k1, hk1, rfl⟩ := List.mem_map.mp hk
          obtain ⟨r, hr1, rfl⟩ := List.mem_map.mp hk1
          have m := (List.mem_filter.mp hr1).1
          exact ⟨bup (FT.tb r m) (by decide), bup (bmul d27 (bneg (FT.nb r m))) (by decide)⟩
        have ulen : (M.cyc (shapeOf rs).u d).length ≤ 1000 := by
          unfold M.cyc shapeOf
          rw [List.length_map, List.length_map]
          exact Nat.le_trans (List.length_filter_le _ _) (by omega)
        have llen : (M.cyc (shapeOf rs).l d).length ≤ 1000 := by
          unfold M.cyc shapeOf
          rw [List.length_map, List.length_map]
          exact Nat.le_trans (List.length_filter_le _ _) (by omega)
        obtain ⟨ra, hra, ru, hru, la, lu, _⟩ := gd.two
        have une : M.cyc (shapeOf rs).u d ≠ [] := fun z => by
          have m : ru ∈ rs.filter (!·.lo) := List.mem_filter.mpr ⟨hru, by simp [lu]⟩
          rw [List.map_eq_nil_iff.mp (List.map_eq_nil_iff.mp z)] at m
          cases m
        have lne : M.cyc (shapeOf rs).l d ≠ [] := fun z => by
          have m : ra ∈ rs.filter (·.lo) := List.mem_filter.mpr ⟨hra, by simp [la]⟩
          rw [List.map_eq_nil_iff.mp (List.map_eq_nil_iff.mp z)] at m
          cases m
        refine ⟨_, rfl, _, rfl, p, CP K, dx, _, _, rfl, hp4, c, a_Pairs_first T, rfl, _, rfl, p, CP K, dx, _, _, rfl, hp4, c, a_Pairs_last T, rfl, D1, xs1, M.cyc (shapeOf rs).u d, (shapeOf rs).e.first d, (shapeOf rs).e.last d, rfl, ⟨hD14, al14⟩, une, ulen, fun k hk => (ub k hk).1, tb4, fle, fun H5 E1 ys1 ps ex5 tb5 hE1 alE1 env1 mem1 len1 => ?_⟩
        have hp5 := ex5 _ _ hp4 (fun _ z => by cases z)
        have hD25 := ex5 _ _ hD2 (fun _ z => by cases z)
        have al25 : Al (LnAt (CL K) H5) xs2 (M.cyc (shapeOf rs).l d) := al24.mono fun x y h => h.ext ex5
        refine ⟨_, rfl, _, rfl, p, CP K, dx, _, _, rfl, hp5, c, a_Pairs_first T, rfl, _, rfl, p, CP K, dx, _, _, rfl, hp5, c, a_Pairs_last T, rfl, D2, xs2, M.cyc (shapeOf rs).l d, (shapeOf rs).e.first d, (shapeOf rs).e.last d, rfl, ⟨hD25, al25⟩, lne, llen, fun k hk => (lb k hk).1, tb5, fle, fun H6 E2 ys2 qs ex6 tb6 hE2 alE2 env2 mem2 len2 => ?_⟩
        have hp6 := ex6 _ _ hp5 (fun _ z => by cases z)
        have hE16 := ex6 _ _ hE1 (fun _ z => by cases z)
        have alE16 : Al (PtAt (CL K) H6) ys1 ps := alE1.mono fun x q h => h.ext ex6
        refine ⟨E1, E2, ys1, ys2, rfl, rfl, hE16, hE2, ?_, fun E3 nE3 => ?_⟩
        · rw [alE1.len, alE2.len]
          have : sizeLine = 2 ^ 24 := rfl
          omega
        · have s7 : Same H6 (upd H6 E3 (.lst (ys1 ++ ys2))) := same_new nE3
          have hE3 : (upd H6 E3 (.lst (ys1 ++ ys2))) E3 = some (.lst (ys1 ++ ys2)) := upd_same
          generalize upd H6 E3 (.lst (ys1 ++ ys2)) = H7 at s7 hE3 ⊢
          have hp7 := s7 _ _ hp6
          have al7 : Al (PtAt (CL K) H7) (ys1 ++ ys2) (ps ++ qs) := (alE16.append alE2).mono fun x q h => h.ext (ExtN.of s7)
          refine ⟨_, rfl, p, CP K, dx, _, rfl, hp7, c, a_Pairs_parts T, by show 2 < 1000; decide, ?_⟩
          have sb8 : SameB p H7 (upd H7 p (.ins (CP K) dx (putF "parts" (.ref E3) [("first", .int ((shapeOf rs).e.first d)), ("last", .int ((shapeOf rs).e.last d))]))) := (SameB.refl p H7).upd
          refine q _ ((((sx4.trans (SameX.ofE ex5)).trans (SameX.ofE ex6)).trans (SameX.of s7)).trans (SameX.ofB sb8)) (tabs_but (tb6.ext s7) sb8 hp7 (fun _ z => by cases z) (fun _ _ z => by cases z)) ⟨dx, E3, ys1 ++ ys2, ps, qs, upd_same, ?_, al7.mono fun x q h => h.but sb8 hp7 (by show some (Str.ofString "first") ≠ some (Str.ofString "slope"); decide), env1, env2, fun q hq => ?_⟩
          · exact sb8 _ _ hE3 (ne_of hE3 hp7 (by intro z; cases z))
          · rcases List.mem_append.mp hq with hq | hq
            · obtain ⟨g1, g2, g3⟩ := env1.mem q hq
              obtain ⟨g4, g5⟩ := ub _ (mem1 q hq)
              exact ⟨by omega, by omega, g4, g5⟩
            · obtain ⟨g1, g2, g3⟩ := env2.mem q hq
              obtain ⟨g4, g5⟩ := lb _ (mem2 q hq)
              exact ⟨by omega, by omega, g4, g5⟩
end
end KN

/-! ## KQ -/
set_option Elab.async false
set_option linter.all false
set_option maxRecDepth 100000
set_option maxHeartbeats 4000000
/-! Pairs.total; Rules; count_pairs; count_rules. -/
namespace KN
open PySem PySem.Spec PyProof.Rows L2 LamX NdefX
section
variable {P : Program} {w : World} {K : PySem.W.Frag} {mg : Str → Option Value} {base : Heap}
def stepSum (s : M.Shape) (d step : Int) : Int := M.sumZ (fun x => if step ∣ x then s.f d x else 0) (s.e.first d) (s.e.last d + 1)
def spTot (K : PySem.W.Frag) : Sp := fun vs H Q _ => ∃ (p : Addr) (s : M.Shape) (d step : Int), vs = [.ref p, .int (s.e.last d), .int step] ∧ PairsAt K H p s d ∧ 0 < step ∧ step.natAbs < 2 ^ 600 ∧ (s.e.last d).natAbs < 2 ^ 200 ∧ ∀ H', Same H H' → Q (.int (stepSum s d step)) H'
theorem ok_total (T : Tx K mg) : Met P w K mg base 1 (CP K) "total" p_Pairs_total (spTot K) := by
  obtain ⟨fd, F⟩ := f_Pairs_total T
  refine ⟨_, fd, m_Pairs_total T, okD F sc_Pairs_total (fun vs H Q E h => ?_) (fun cdv A outer s H vs Q E hr h => ?_), F.bindsN fun _ _ _ _ _ _ us hl => match us, hl with | [_, _, _], _ => rfl⟩
  · obtain ⟨p, s, d, step, rfl, _⟩ := h
    rfl
  · obtain ⟨p, s, d, step, rfl, ⟨dx, D, ys, ps, qs, hp, hD, al, env1, env2, bd⟩, st0, st6, lb, q⟩ := h
    have c := c_Pairs T
    have cl := c_Line T
    refine ⟨_, (pss_cons (ps_set (i := 3) sc_Pairs_total.nd rfl (Or.inl rfl) pe_int) (pss_cons (ps_for PassesOwn.never rfl (pi_list (pe_fld (pv 0) rfl)) (pg_tup rfl (pgs_cons (pg_name (i := 4) sc_Pairs_total.nd rfl (Or.inl rfl)) (pgs_cons (pg_name (i := 5) sc_Pairs_total.nd rfl (Or.inl rfl)) (pgs_cons (pg_name (i := 6) sc_Pairs_total.nd rfl (Or.inl rfl)) pgs_nil))))
        (pss_cons (ps_par (i := 7) (j := 8) rfl sc_Pairs_total.nd rfl rfl (by decide) rfl rfl (pa_cons (pe_un un_neg (pe_op op_fdivW (pe_un un_neg (pv 4)) (pv 2))) (pa_cons (pe_op op_fdivW (pe_callB (call_min2 rfl) (by rfl) (t_min T) b_min (pa_cons (pe_op op_sub (pv 5) pe_int) (pa_cons (pv 1) pa_nil))) (pv 2)) pa_nil)) (by rfl)) (pss_one (ps_if (pt_cmpR op_le (pv 7) (pv 8) (nomark _))
            (pss_cons (ps_set (i := 9) sc_Pairs_total.nd rfl (Or.inl rfl) (pe_op op_add (pe_op op_sub (pv 8) (pv 7)) pe_int)) (pss_one (ps_aug (i := 3) sc_Pairs_total.nd rfl (Or.inl rfl) (pe_op op_add (pe_op op_mulW (pe_fld (pv 6) rfl) (pv 9)) (pe_op op_mulW (pe_op op_mulW (pe_fld (pv 6) rfl) (pv 2)) (pe_op op_fdiv (pe_op op_mulW (pe_op op_add (pv 7) (pv 8)) (pv 9)) pe_int))) iop_add))) pss_nil)))) (pss_one (ps_ret (pv 3))))), ?_⟩
    refine ⟨_, rfl, p, CP K, dx, _, _, rfl, hp, c, a_Pairs_parts T, rfl, D, rfl, ⟨_, .inl (.inl hD)⟩,
      for_list (K := K) (a := D) (xs := ys) (fun i σ H' => ∃ u4 u5 u6 u7 u8 u9, σ = [some (.ref p), some (.int (s.e.last d)), some (.int step), some (.int (M.total ((ps ++ qs).take i) (s.e.last d) step)), u4, u5, u6, u7, u8, u9] ∧ H' = H)
      ⟨_, _, _, _, _, _, rfl, rfl⟩ (fun i σ H' _ ⟨_, _, _, _, _, _, _, e⟩ => .inl (.inl (by rw [e]; exact hD))) ?_ ?_⟩
    · rintro i x σ H' hi ⟨u4, u5, u6, u7, u8, u9, rfl, rfl⟩
      obtain ⟨r, er, t, y, rfl, ht, b, dl, rfl, hb⟩ := al.back hi
      obtain ⟨b1, b2, b3, b4⟩ := bd r (List.mem_of_getElem? er)
      rw [take_snoc er, M.total_append, M.total_one]
      generalize M.total ((ps ++ qs).take i) (s.e.last d) step = acc
      refine ⟨t, _, rfl, .inl (.inl ht), rfl, .int r.1, _, rfl, .int r.2.1, _, rfl, .ref b, [], rfl, rfl, ?_⟩
      have st2 : step.natAbs < 2 ^ 2000 := bup st6 (by decide)
      refine ⟨_, rfl, _, rfl, _, rfl, _, _, rfl, rfl, dw st0 st2, _, rfl, _, rfl, _, _, rfl, rfl, _, rfl, _, _, rfl, _, rfl, _, _, rfl, rfl, dw st0 st2, _, _, rfl, ?_⟩
      unfold M.piece
      have ba : (-(-r.1 / step)).natAbs < 2 ^ 202 := by
        have := bdiv (bneg b1) st0
        omega
      have bb : ((if s.e.last d < r.2.1 - 1 then s.e.last d else r.2.1 - 1) / step).natAbs < 2 ^ 202 := by
        have : (if s.e.last d < r.2.1 - 1 then s.e.last d else r.2.1 - 1).natAbs < 2 ^ 201 := by split <;> omega
        have := bdiv this st0
        omega
      dsimp only
      generalize -(-r.1 / step) = one at ba ⊢
      generalize (if s.e.last d < r.2.1 - 1 then s.e.last d else r.2.1 - 1) / step = two at bb ⊢
      refine ⟨_, rfl, _, rfl, _, _, rfl, rfl, _, rfl, ite2 (fun e => ?_) (fun e => ?_)⟩
      · have h : one ≤ two := of_decide_eq_true e
        rw [if_pos h]
        have bn : (two - one + 1).natAbs < 2 ^ 204 := by omega
        have bs : (one + two).natAbs < 2 ^ 204 := by omega
        refine ⟨_, rfl, _, rfl, _, _, rfl, rfl, _, _, rfl, rfl, ?_⟩
        have bh : ((one + two) * (two - one + 1) / 2).natAbs < 2 ^ 409 := by
          have := bdiv (bmul bs bn) (show (0 : Int) < 2 by decide)
          have e2 : (2 : Nat) ^ (204 + 204) + 1 ≤ 2 ^ 409 := by decide +kernel
          omega
        refine ⟨_, rfl, _, rfl, b, CL K, dl, _, _, rfl, hb, cl, a_Line_offset T, rfl, _, rfl, _, _, rfl, rfl, mw (bup b4 (by decide)) (bup bn (by decide)), _, rfl, b, CL K, dl, _, _, rfl, hb, cl, a_Line_slope T, rfl, _, rfl, _, _, rfl, rfl, mw (bup b3 (by decide)) st2,
          _, rfl, _, rfl, _, _, rfl, rfl, _, rfl, _, _, rfl, rfl, mw (bup bs (by decide)) (bup bn (by decide)), _, _, rfl, rfl, ⟨by decide, by decide⟩, _, _, rfl, rfl, mw (bup (bmul b3 st6) (by decide)) (bup bh (by decide)), _, _, rfl, rfl, _, _, rfl, rfl, ?_⟩
        exact ⟨_, _, _, _, _, _, rfl, rfl⟩
      · rw [if_neg (fun z => e (decide_eq_true z)), Int.add_zero]
        exact ⟨_, _, _, _, _, _, rfl, rfl⟩
    · rintro σ H' ⟨u4, u5, u6, u7, u8, u9, rfl, rfl⟩
      rw [al.len, take_all]
      have e1 := env1.total st0
      have e2 := env2.total st0
      rw [show s.e.last d + 1 - 1 = s.e.last d by omega] at e1 e2
      have e3 : M.total (ps ++ qs) (s.e.last d) step = stepSum s d step := by
        rw [M.total_append, e1, e2, ← M.sumZ_add]
        unfold stepSum
        refine M.sumZ_congr _ _ fun x _ _ => ?_
        unfold M.Shape.f
        split <;> omega
      rw [e3]
      exact ⟨_, rfl, q _ (Same.refl _)⟩
end
end KN

/-! ## KR -/
set_option Elab.async false
set_option linter.all false
set_option maxRecDepth 100000
set_option maxHeartbeats 4000000
/-! Rules; count_pairs; count_rules. -/
namespace KN
open PySem PySem.Spec PyProof.Rows L2 LamX NdefX
abbrev CR (K : PySem.W.Frag) : Addr := He.ga K "Rules"
theorem PairsAt.ext {K : PySem.W.Frag} {H H' : Hp} {p : Addr} {s : M.Shape} {d : Int} (e : ExtN H H') (h : PairsAt K H p s d) : PairsAt K H' p s d := by
  obtain ⟨dx, D, ys, ps, qs, h1, h2, h3, h4⟩ := h
  exact ⟨dx, D, ys, ps, qs, e _ _ h1 (fun _ z => by cases z), e _ _ h2 (fun _ z => by cases z), h3.mono fun x q r => r.ext e, h4⟩
theorem PairsAt.but {K : PySem.W.Frag} {H H' : Hp} {p x C' dx' : Addr} {fs : List (Str × V)} {s : M.Shape} {d : Int} (e : SameB x H H') (hx : H x = some (.ins C' dx' fs)) (hn : fs.head?.map Prod.fst ≠ some "slope") (hn2 : x ≠ p) (h : PairsAt K H p s d) : PairsAt K H' p s d := by
  obtain ⟨dx, D, ys, ps, qs, h1, h2, h3, h4⟩ := h
  exact ⟨dx, D, ys, ps, qs, e _ _ h1 (Ne.symm hn2), e _ _ h2 (ne_of h2 hx (by intro z; cases z)), h3.mono fun x q r => r.but e hx hn, h4⟩
theorem al_same {α : Type} {R : Hp → V → α → Prop} (st : Stab R) {H H' : Hp} {xs : List V} {ys : List α} (s : Same H H') (h : Al (R H) xs ys) : Al (R H') xs ys := h.mono fun x y r => st _ _ x y (SameN.of s) r
theorem SgAt.ext {H H' : Hp} {x : V} {e : Int × Int} (s : ExtN H H') (h : SgAt H x e) : SgAt H' x e := by
  obtain ⟨a, e1, g⟩ := h
  exact ⟨a, e1, s _ _ g (fun _ z => by cases z)⟩
theorem SgAt.but {H H' : Hp} {p C' dx : Addr} {fs : List (Str × V)} {x : V} {e : Int × Int} (s : SameB p H H') (hp : H p = some (.ins C' dx fs)) (h : SgAt H x e) : SgAt H' x e := by
  obtain ⟨a, e1, g⟩ := h
  exact ⟨a, e1, s _ _ g (ne_of g hp (by intro z; cases z))⟩
def rf (px D : Addr) : List (Str × V) := [("pairs", .ref px), ("steps", .ref D)]
def RulesAt (K : PySem.W.Frag) (H : Hp) (p : Addr) (s : M.Shape) (d : Int) : Prop := ∃ (dx px D : Addr) (xs : List V) (L : List Int), H p = some (.ins (CR K) dx (rf px D)) ∧ PairsAt K H px s d ∧ H D = some (.lst xs) ∧ Al (SgAt H) xs (M.signedOf L) ∧ M.Factors d L ∧ (∀ e ∈ M.signedOf L, SgB 600 e) ∧ (M.signedOf L).length ≤ 262144
theorem rules_sum (s : M.Shape) {d : Int} {L : List Int} (F : M.Factors d L) : ((M.signedOf L).map fun e => e.2 * stepSum s d e.1).sum = s.rules d := by
  have h := M.signed_sum (s.f d) (s.e.first d) (s.e.last d + 1) (M.signedOf L)
  unfold stepSum
  rw [h]
  unfold M.Shape.rules
  refine M.sumZ_congr _ _ fun x _ _ => ?_
  rw [F.w x]
  split
  · rw [Int.one_mul]
  · rw [Int.zero_mul]
theorem pairs_sum (s : M.Shape) (d : Int) : stepSum s d 1 = s.pairs d := by
  unfold stepSum M.Shape.pairs
  exact M.sumZ_congr _ _ fun x _ _ => if_pos (Int.one_dvd x)
section
variable {P : Program} {w : World} {K : PySem.W.Frag} {mg : Str → Option Value} {base : Heap}
theorem make_same {H : Hp} {x dx C : Addr} (nx : H x = none) (ndx : H dx = none) : Same H (upd (upd H dx (.own x)) x (.ins C dx [])) := fun b o e => by
  rw [upd_ne (ne_of_none e nx), upd_ne (ne_of_none e ndx)]
  exact e
theorem make_ext {H H1 H' : Hp} {x : Addr} (nx : H x = none) (s : Same H H1) (sx : SameX x H1 H') : ExtN H H' := fun b o e n => sx _ _ (s _ _ e) n (ne_of_none e nx)
def spRules (K : PySem.W.Frag) : Sp := fun vs H Q _ => ∃ (p dx a : Addr) (xs : List V) (rs : List Rec) (d : Int), vs = [.ref p, .ref a, .int d] ∧ H p = some (.ins (CR K) dx []) ∧ RecsAt H a xs rs ∧ Good rs ∧ 0 < d ∧ d ≤ 100000000 ∧ Tabs (Tl K) H ∧
  ∀ H', SameX p H H' → Tabs (Tl K) H' → RulesAt K H' p (shapeOf rs) d → Q .non H'
theorem ok_Rules (T : Tx K mg) (TB : TabB base mg (cLow K) (pLow K)) : Mak P w K mg base 8 "Rules" (CR K) p_Rules_init (spRules K) := by
  obtain ⟨fd, F⟩ := f_Rules_init T
  have GP : Mak P w K mg base 6 "Pairs" (CP K) p_Pairs_init (spPairs K) := ok_Pairs T TB
  have GS : Cal P w K mg base 2 "signed_divisors" p_signed_divisors spSD := ok_signed_divisors T
  refine ⟨_, fd, g_Rules T, k_Rules T, okD F sc_Rules_init (fun vs H Q E h => ?_) (fun cdv A outer s H vs Q E hr h => ?_), F.bindsN fun _ _ _ _ _ _ us hl => match us, hl with | [_, _, _], _ => rfl⟩
  · obtain ⟨p, dx, a, xs, rs, d, rfl, _⟩ := h
    rfl
  · obtain ⟨p, dx, a, xs, rs, d, rfl, hp, hR, gd, d0, d8, hT, q⟩ := h
    have c := c_Rules T
    refine ⟨_, (pss_cons (ps_fld (pv 0) (pe_mak GP hr (by rfl) (pa_cons (pv 1) (pa_cons (pv 2) pa_nil))) rfl) (pss_one (ps_fld (pv 0) (pe_cal GS (hr.mono (by decide)) (by rfl) (pa_cons (pv 2) pa_nil)) rfl))), ?_⟩
    refine ⟨_, rfl, _, rfl, fun x dx1 nx ndx nex => ?_⟩
    have s0 := make_same (C := CP K) nx ndx
    refine ⟨x, dx1, a, xs, rs, d, rfl, upd_same, hR.same s0, gd, d0, by omega, hT.ext s0, fun H1 sx tb1 pa => ⟨rfl, ?_⟩⟩
    have ex1 : ExtN H H1 := make_ext nx s0 sx
    have hp1 := ex1 _ _ hp (fun _ z => by cases z)
    have npx : p ≠ x := ne_of_none hp nx
    refine ⟨_, rfl, p, CR K, dx, _, rfl, hp1, c, a_Rules_pairs T, by show 0 < 1000; decide, ?_⟩
    have sb2 : SameB p H1 (upd H1 p (.ins (CR K) dx (putF "pairs" (.ref x) []))) := (SameB.refl p H1).upd
    have hp2 : (upd H1 p (.ins (CR K) dx (putF "pairs" (.ref x) []))) p = some (.ins (CR K) dx [("pairs", .ref x)]) := upd_same
    have tb2 : Tabs (Tl K) (upd H1 p (.ins (CR K) dx (putF "pairs" (.ref x) []))) := tabs_but tb1 sb2 hp1 (fun _ z => by cases z) (fun _ _ z => by cases z)
    have pa2 : PairsAt K (upd H1 p (.ins (CR K) dx (putF "pairs" (.ref x) []))) x (shapeOf rs) d := pa.but sb2 hp1 (fun z => nomatch z) npx
    generalize upd H1 p (.ins (CR K) dx (putF "pairs" (.ref x) [])) = H2 at sb2 hp2 tb2 pa2 ⊢
    refine ⟨_, rfl, d, rfl, d0, d8, fun H3 D ys L s3 hD al FL sb sl => ?_⟩
    have hp3 := s3 _ _ hp2
    refine ⟨_, rfl, p, CR K, dx, _, rfl, hp3, c, a_Rules_steps T, by show 1 < 1000; decide, ?_⟩
    have sb4 : SameB p H3 (upd H3 p (.ins (CR K) dx (putF "steps" (.ref D) [("pairs", .ref x)]))) := (SameB.refl p H3).upd
    have e4 : (some (Str.ofString "pairs") : Option Str) ≠ some (Str.ofString "slope") := by decide
    refine q _ (((SameX.ofE ex1).trans (SameX.ofB sb2)).trans ((SameX.of s3).trans (SameX.ofB sb4))) (tabs_but (tb2.ext s3) sb4 hp3 (fun _ z => by cases z) (fun _ _ z => by cases z)) ⟨dx, x, D, ys, L, upd_same, (pa2.ext (ExtN.of s3)).but sb4 hp3 e4 npx, sb4 _ _ hD (ne_of hD hp3 (by intro z; cases z)), al.mono fun x e h => h.but sb4 hp3, FL, sb, sl⟩
def spNumTo (K : PySem.W.Frag) : Sp := fun vs H Q _ => ∃ (p : Addr) (s : M.Shape) (d : Int), vs = [.ref p, .int (s.e.last d)] ∧ RulesAt K H p s d ∧ (s.e.last d).natAbs < 2 ^ 200 ∧ ∀ H', Same H H' → Q (.int (s.rules d)) H'
theorem ok_number_to (T : Tx K mg) : Met P w K mg base 2 (CR K) "number_to" p_Rules_number_to (spNumTo K) := by
  obtain ⟨fd, F⟩ := f_Rules_number_to T
  have GT : Met P w K mg base 1 (CP K) "total" p_Pairs_total (spTot K) := ok_total T
  refine ⟨_, fd, m_Rules_number_to T, okD F sc_Rules_number_to (fun vs H Q E h => ?_) (fun cdv A outer s H vs Q E hr h => ?_), F.bindsN fun _ _ _ _ _ _ us hl => match us, hl with | [_, _], _ => rfl⟩
  · obtain ⟨p, s, d, rfl, _⟩ := h
    rfl
  · obtain ⟨p, s, d, rfl, ⟨dx, px, D, xs, L, hp, pa, hD, al, FL, sb, sl⟩, lb, q⟩ := h
    have c := c_Rules T
    have cp := c_Pairs T
    refine ⟨_, (pss_one (ps_ret (pe_callB (cr_sum rfl) (by rfl) (t_sum T) b_sum (pa_cons (pe_lc (own := [("step", 2), ("sign", 3)]) (g := gTup K 2 (gCons (gName 2) (gCons (gName 3) gNil))) (tt := tYes) (te := tOp (rI CMul fun i j => .int (i * j)) (tVar 3) (tMeth (CP K) "total" (spTot K) [] E0 (tFld K (tVar 0) "pairs") (tCons (tVar 1) (tCons (tVar 2) tNil))))
        rfl sc_Rules_number_to.nd (pi_list (pe_fld (pv 0) rfl)) (blkOk_by (N := n_Rules_number_to) (sc := defScope s_Rules_number_to) (by decide +kernel))
        (fun _ _ _ _ _ => pg_tup rfl (pgs_cons (pg_name (i := 2) sc_Rules_number_to.nd rfl (Or.inl rfl)) (pgs_cons (pg_name (i := 3) sc_Rules_number_to.nd rfl (Or.inl rfl)) pgs_nil)))
        (fun _ _ _ _ _ => pts_nil) (fun _ _ _ _ _ => pe_op op_mul (pv 3) (pe_met (pe_fld (pv 0) rfl) cp GT hr (pa_cons (pv 1) (pa_cons (pv 2) pa_nil))))) pa_nil)))), ?_⟩
    refine ⟨_, rfl, p, CR K, dx, _, _, rfl, hp, c, a_Rules_steps T, rfl, D, rfl, ⟨_, .inl (.inl hD)⟩, fun D2 nD2 => ?_⟩
    refine lc_it (walk_list (K := K) (a := D) (xs := xs)) (fun k H' => CompInv IntI H D2 H' (((M.signedOf L).take k).map fun e => e.2 * stepSum s d e.1)) (CompInv.start nD2) (fun k H' _ z => .inl (.inl (z.same _ _ hD))) (fun k x H4 H5 hk z y => ?_) (fun H4 z => ?_)
    · obtain ⟨rfl, ex⟩ := y
      obtain ⟨e, ee, a, rfl, ha⟩ := al.back ex
      have ha4 := z.same _ _ ha
      have hp4 := z.same _ _ hp
      have pa4 := pa.ext (ExtN.of z.same)
      obtain ⟨e0, e6, e1⟩ := sb e (List.mem_of_getElem? ee)
      refine ⟨a, _, rfl, .inl (.inl ha4), rfl, .int e.1, [.int e.2], rfl, .int e.2, [], rfl, rfl, rfl, ?_⟩
      have ⟨pdx, pD, pys, pps, pqs, php, _⟩ := pa4
      refine ⟨_, rfl, _, rfl, p, CR K, dx, _, _, rfl, hp4, c, a_Rules_pairs T, rfl, px, pdx, _, rfl, php, rfl, _, rfl, _, rfl, px, s, d, e.1, rfl, pa4, e0, e6, lb, fun H6 s6 => ?_⟩
      refine ⟨_, _, rfl, rfl, .inl ⟨by omega, by omega⟩, ?_⟩
      rw [take_snoc ee, List.map_append]
      exact z.pushL IntI.stab nD2 s6 rfl (by rw [List.length_map, List.length_take]; omega)
    · rw [al.len, take_all] at z
      obtain ⟨s4, acc, hD4, al4⟩ := z
      rw [al_int al4] at hD4
      refine ⟨D2, _, rfl, .inl (.inl hD4), ?_⟩
      rw [rules_sum s FL]
      exact q H4 s4
def spNum (K : PySem.W.Frag) : Sp := fun vs H Q _ => ∃ (p : Addr) (s : M.Shape) (d : Int), vs = [.ref p] ∧ RulesAt K H p s d ∧ (s.e.last d).natAbs < 2 ^ 200 ∧ ∀ H', Same H H' → Q (.int (s.rules d)) H'
theorem ok_number (T : Tx K mg) : Met P w K mg base 3 (CR K) "number" p_Rules_number (spNum K) := by
  obtain ⟨fd, F⟩ := f_Rules_number T
  have GT : Met P w K mg base 2 (CR K) "number_to" p_Rules_number_to (spNumTo K) := ok_number_to T
  refine ⟨_, fd, m_Rules_number T, okD F sc_Rules_number (fun vs H Q E h => ?_) (fun cdv A outer s H vs Q E hr h => ?_), F.bindsN fun _ _ _ _ _ _ us hl => match us, hl with | [_], _ => rfl⟩
  · obtain ⟨p, s, d, rfl, _⟩ := h
    rfl
  · obtain ⟨p, s, d, rfl, ra, lb, q⟩ := h
    have c := c_Rules T
    have cp := c_Pairs T
    refine ⟨_, (pss_one (ps_ret (pe_met (pv 0) c GT hr (pa_cons (pe_fld (pe_fld (pv 0) rfl) rfl) pa_nil)))), ?_⟩
    have ⟨dx, px, D, xs, L, hp, pa, _⟩ := ra
    have ⟨pdx, pD, pys, pps, pqs, php, _⟩ := pa
    exact ⟨_, rfl, p, dx, _, rfl, hp, rfl, _, rfl, p, CR K, dx, _, _, rfl, hp, c, a_Rules_pairs T, rfl, px, CP K, pdx, _, _, rfl, php, cp, a_Pairs_last T, rfl, p, s, d, rfl, ra, lb, q⟩
def spCount (K : PySem.W.Frag) (f : M.Shape → Int → Int) : Sp := fun vs H Q _ => ∃ (a : Addr) (xs : List V) (rs : List Rec) (d : Int), vs = [.ref a, .int d] ∧ RecsAt H a xs rs ∧ Good rs ∧ 0 < d ∧ d ≤ 100000000 ∧ Tabs (Tl K) H ∧
  ∀ H', ExtN H H' → Tabs (Tl K) H' → Q (.int (f (shapeOf rs) d)) H'
theorem ok_count_pairs (T : Tx K mg) (TB : TabB base mg (cLow K) (pLow K)) : Cal P w K mg base 8 "count_pairs" p_count_pairs (spCount K M.Shape.pairs) := by
  obtain ⟨fd, F⟩ := f_count_pairs T
  have GR : Cal P w K mg base 3 "need_records" p_need_records spNeedRecs := ok_need_records T
  obtain ⟨fN, fdN, n1, n2, n3, n4⟩ : CalN P w K mg base := ok_need_number T
  have GP : Mak P w K mg base 6 "Pairs" (CP K) p_Pairs_init (spPairs K) := ok_Pairs T TB
  have GT : Met P w K mg base 1 (CP K) "total" p_Pairs_total (spTot K) := ok_total T
  obtain ⟨tk, gM⟩ := i_MOST_CYCLE T
  refine ⟨_, fd, g_count_pairs T, F.kp, okD F sc_count_pairs (fun vs H Q E h => ?_) (fun cdv A outer s H vs Q E hr h => ?_), F.bindsN fun _ _ _ _ _ _ us hl => match us, hl with | [_, _], _ => rfl⟩
  · obtain ⟨a, xs, rs, d, rfl, _⟩ := h
    rfl
  · obtain ⟨a, xs, rs, d, rfl, hR, gd, d0, d8, hT, q⟩ := h
    have cp := c_Pairs T
    refine ⟨_, (pss_cons (ps_expr (pe_cal GR (hr.mono (by decide)) (by rfl) (pa_cons (pv 0) pa_nil))) (pss_cons (ps_expr (pe_callN n3 (hr.mono (by decide)) (by rfl) n1 n2 n4 pass0 (pa_cons (pv 1) pa_nil) (pk_cons pe_int (pk_cons (pe_glob (v := .int 1000000000000000000000000000000000000000000000000000000000000) (by rfl) gM ⟨_, rfl⟩) pk_nil)))) (pss_cons (ps_set (i := 2) sc_count_pairs.nd rfl (Or.inl rfl) (pe_mak GP hr (by rfl) (pa_cons (pv 0) (pa_cons (pv 1) pa_nil)))) (pss_one (ps_ret (pe_met (pv 2) cp GT (hr.mono (by decide)) (pa_cons (pe_fld (pv 2) rfl) (pa_cons (pe_int) pa_nil)))))))), ?_⟩
    refine ⟨_, rfl, a, xs, rs, rfl, hR, gd.len, fun H1 s1 => ?_⟩
    refine ⟨_, rfl, rfl, rfl, _, _, _, rfl, by omega, by omega, ?_⟩
    refine ⟨_, rfl, _, rfl, fun x dx nx ndx nex => ?_⟩
    have s0 := make_same (C := CP K) nx ndx
    refine ⟨x, dx, a, xs, rs, d, rfl, upd_same, (hR.same s1).same s0, gd, d0, by omega, (hT.ext s1).ext s0, fun H2 sx tb2 pa => ⟨rfl, ?_⟩⟩
    have ex2 : ExtN H1 H2 := make_ext nx s0 sx
    have ⟨pdx, pD, pys, pps, pqs, php, _⟩ := pa
    refine ⟨_, rfl, x, pdx, _, rfl, php, rfl, _, rfl, x, CP K, pdx, _, _, rfl, php, cp, a_Pairs_last T, rfl, x, shapeOf rs, d, 1, rfl, pa, by decide, by decide, Nat.lt_of_lt_of_le (gd.eb.last gd.ok d0 (by omega)) (by decide), fun H3 s3 => ?_⟩
    rw [pairs_sum]
    exact q H3 (((ExtN.of s1).trans ex2).trans (ExtN.of s3)) (tb2.ext s3)
theorem ok_count_rules (T : Tx K mg) (TB : TabB base mg (cLow K) (pLow K)) : Cal P w K mg base 10 "count_rules" p_count_rules (spCount K M.Shape.rules) := by
  obtain ⟨fd, F⟩ := f_count_rules T
  have GR : Cal P w K mg base 3 "need_records" p_need_records spNeedRecs := ok_need_records T
  obtain ⟨fN, fdN, n1, n2, n3, n4⟩ : CalN P w K mg base := ok_need_number T
  have GU : Mak P w K mg base 8 "Rules" (CR K) p_Rules_init (spRules K) := ok_Rules T TB
  have GN : Met P w K mg base 3 (CR K) "number" p_Rules_number (spNum K) := ok_number T
  obtain ⟨tk, gM⟩ := i_MOST_PARTED T
  refine ⟨_, fd, g_count_rules T, F.kp, okD F sc_count_rules (fun vs H Q E h => ?_) (fun cdv A outer s H vs Q E hr h => ?_), F.bindsN fun _ _ _ _ _ _ us hl => match us, hl with | [_, _], _ => rfl⟩
  · obtain ⟨a, xs, rs, d, rfl, _⟩ := h
    rfl
  · obtain ⟨a, xs, rs, d, rfl, hR, gd, d0, d8, hT, q⟩ := h
    have cr := c_Rules T
    refine ⟨_, (pss_cons (ps_expr (pe_cal GR (hr.mono (by decide)) (by rfl) (pa_cons (pv 0) pa_nil))) (pss_cons (ps_expr (pe_callN n3 (hr.mono (by decide)) (by rfl) n1 n2 n4 pass0 (pa_cons (pv 1) pa_nil) (pk_cons pe_int (pk_cons (pe_glob (v := .int 100000000) (by rfl) gM ⟨_, rfl⟩) pk_nil)))) (pss_one (ps_ret (pe_met0 (pe_mak GU hr (by rfl) (pa_cons (pv 0) (pa_cons (pv 1) pa_nil))) cr GN (hr.mono (by decide))))))), ?_⟩
    refine ⟨_, rfl, a, xs, rs, rfl, hR, gd.len, fun H1 s1 => ?_⟩
    refine ⟨_, rfl, rfl, rfl, _, _, _, rfl, by omega, by omega, ?_⟩
    refine ⟨_, rfl, _, rfl, fun x dx nx ndx nex => ?_⟩
    have s0 := make_same (C := CR K) nx ndx
    refine ⟨x, dx, a, xs, rs, d, rfl, upd_same, (hR.same s1).same s0, gd, d0, d8, (hT.ext s1).ext s0, fun H2 sx tb2 ra => ⟨rfl, ?_⟩⟩
    have ex2 : ExtN H1 H2 := make_ext nx s0 sx
    have ⟨rdx, rpx, rD, rxs, rL, hrx, _⟩ := ra
    refine ⟨x, rdx, _, rfl, hrx, rfl, x, shapeOf rs, d, rfl, ra, Nat.lt_of_lt_of_le (gd.eb.last gd.ok d0 (by omega)) (by decide), fun H3 s3 => ?_⟩
    exact q H3 (((ExtN.of s1).trans ex2).trans (ExtN.of s3)) (tb2.ext s3)
end
end KN

/-! ## KS -/
set_option Elab.async false
set_option linter.all false
set_option maxRecDepth 100000
set_option maxHeartbeats 4000000
/-! the pen; draw. -/
namespace KN
open PySem PySem.Spec PyProof.Rows L2 LamX NdefX
theorem twoZ {R : Int → Prop} {G : Prop} (b : (∀ z, R z) → G) (a : ∀ z, R z) : G := b a
theorem twoP {R : Prop} {G : Prop} (b : R → G) (a : R) : G := b a
def pk (D : Addr) (t : Nat) (l : Int) : List (Key × V) := [(.inr "cells", .ref D), (.inr "turn", .int (t : Int)), (.inr "left", .int l)]
def PenAt (H : Hp) (p : Addr) (T : Nat) : Prop := ∃ (D : Addr) (zs : List Int) (t : Nat) (l : Int), H p = some (.dK (pk D t l)) ∧ H D = some (.lst (zs.map V.int)) ∧ t ≤ T
theorem PenAt.mono {H : Hp} {p : Addr} {T U : Nat} (h : PenAt H p T) (u : T ≤ U) : PenAt H p U := by
  obtain ⟨D, zs, t, l, h1, h2, h3⟩ := h
  exact ⟨D, zs, t, l, h1, h2, by omega⟩
theorem PenAt.ext {H H' : Hp} {p : Addr} {T : Nat} (h : PenAt H p T) (e : ExtN H H') : PenAt H' p T := by
  obtain ⟨D, zs, t, l, h1, h2, h3⟩ := h
  exact ⟨D, zs, t, l, e _ _ h1 (fun _ z => by cases z), e _ _ h2 (fun _ z => by cases z), h3⟩
theorem PenAt.same {H H' : Hp} {p : Addr} {T : Nat} (h : PenAt H p T) (e : Same H H') : PenAt H' p T := h.ext (ExtN.of e)
/-- all but the pen, whose list of cells stays the same one -/
structure PB (p : Addr) (H H' : Hp) : Prop where
  sb : SameB p H H'
  dd : ∀ D t l, H p = some (.dK (pk D t l)) → ∃ t' l', H' p = some (.dK (pk D t' l'))
theorem pk_inj {D E : Addr} {t u : Nat} {l m : Int} (h : (some (.dK (pk D t l)) : Option HO) = some (.dK (pk E u m))) : D = E := by
  injection h with h
  injection h with h
  have := congrArg (fun l : List (Key × V) => l.head?.map Prod.snd) h
  injection this with this
  injection this
theorem PB.mk1 {p D : Addr} {t u : Nat} {l m : Int} {H H' : Hp} (hp : H p = some (.dK (pk D t l))) (hp' : H' p = some (.dK (pk D u m))) (s : SameB p H H') : PB p H H' := ⟨s, fun E t' l' h => by
  rw [hp] at h
  cases pk_inj h
  exact ⟨u, m, hp'⟩⟩
theorem PB.refl (p : Addr) (H : Hp) : PB p H H := ⟨SameB.refl p H, fun D t l h => ⟨t, l, h⟩⟩
theorem PB.of {p : Addr} {H H' : Hp} (s : Same H H') : PB p H H' := ⟨SameB.of s, fun D t l h => ⟨t, l, s _ _ h⟩⟩
theorem PB.trans {p : Addr} {H H1 H2 : Hp} (a : PB p H H1) (b : PB p H1 H2) : PB p H H2 := ⟨a.sb.trans b.sb, fun D t l h => by
  obtain ⟨t1, l1, h1⟩ := a.dd D t l h
  exact b.dd D t1 l1 h1⟩
theorem put_left (D : Addr) (t : Nat) (l m : Int) : putK (pk D t l) (.inr "left") (.int m) = pk D t m := rfl
theorem put_turn (D : Addr) (t u : Nat) (l : Int) : putK (pk D t l) (.inr "turn") (.int (u : Int)) = pk D u l := rfl
/-! ### a list that is compared with [] -/
def Flat (d : PyData) : Prop := d.canLay0 = true ∧ d.depth ≤ 8
theorem flat_all : ∀ {ds : List PyData}, (∀ d ∈ ds, Flat d) → PyData.canLayAll0 ds = true ∧ PyData.depthAll ds ≤ 8
  | [], _ => ⟨by simp only [PyData.canLayAll0], by simp only [PyData.depthAll]; omega⟩
  | d :: r, h => by
    obtain ⟨a, b⟩ := flat_all (ds := r) fun e he => h e (List.mem_cons_of_mem _ he)
    obtain ⟨c, e⟩ := h d List.mem_cons_self
    simp only [PyData.canLayAll0, PyData.depthAll]
    exact ⟨by rw [a, c]; rfl, by omega⟩
theorem flat_shaped {ds : List PyData} (h : ∀ d ∈ ds, Flat d) : SeqAt.shaped (.list ds) = true := by
  obtain ⟨a, b⟩ := flat_all h
  have c : (PyData.list ds).canLay0 = true := by
    simp only [PyData.canLay0]
    exact a
  have e : (PyData.list ds).depth ≤ 64 := by
    simp only [PyData.depth]
    omega
  unfold SeqAt.shaped
  rw [c, decide_eq_true e]; rfl
theorem sqL_ext {K : PySem.W.Frag} {H H' : Hp} {a : Addr} {xs : List V} (e : ExtN H H') (h : SqL K H a xs) : SqL K H' a xs := by
  rcases h with (h | ⟨o, h⟩) | h
  · exact .inl (.inl (e _ _ h (fun _ z => by cases z)))
  · exact .inl (.inr ⟨o, e _ _ h (fun _ z => by cases z)⟩)
  · exact .inr h
theorem eqv_nil (ds : List PyData) : (!PyData.eqv (.list ds) (.list [])) = !ds.isEmpty := by
  cases ds with
  | nil => simp [PyData.eqv, PyData.eqvAll]
  | cons d r => simp [PyData.eqv, PyData.eqvAll]
theorem dp_ints (K : PySem.W.Frag) (H : Hp) : ∀ zs : List Int, DpAll K H (zs.map V.int) (zs.map PyData.int)
  | [] => .nil
  | z :: r => .cons (.int z) (dp_ints K H r)
theorem flat_ints (zs : List Int) : ∀ d ∈ zs.map PyData.int, Flat d := fun d hd => by
  obtain ⟨z, _, rfl⟩ := List.mem_map.mp hd
  exact ⟨by simp only [PyData.canLay0], by simp only [PyData.depth]; omega⟩
theorem m31 (x : Int) {m : Int} (h : 0 < m) (h2 : m ≤ 2147483648) : 0 ≤ x % m ∧ x % m < 2147483648 := ⟨Int.emod_nonneg x (by omega), by have := Int.emod_lt_of_pos x h; omega⟩
section
variable {P : Program} {w : World} {K : PySem.W.Frag} {mg : Str → Option Value} {base : Heap}
def spPen (K : PySem.W.Frag) : Sp := fun vs H Q _ => ∃ (a : Addr) (zs : List Int), vs = [.ref a] ∧ SqL K H a (zs.map V.int) ∧ ∀ H' p, Same H H' → PenAt H' p 0 → Q (.ref p) H'
theorem ok_lpen (T : Tx K mg) : Cal P w K mg base 1 "_law_pen" p_lpen (spPen K) := by
  obtain ⟨fd, F⟩ := f_lpen T
  refine ⟨_, fd, g_lpen T, F.kp, okD F sc_lpen (fun vs H Q E h => ?_) (fun cdv A outer s H vs Q E hr h => ?_), F.bindsN fun _ _ _ _ _ _ us hl => match us, hl with | [_], _ => rfl⟩
  · obtain ⟨a, zs, rfl, _⟩ := h
    rfl
  · obtain ⟨a, zs, rfl, ha, q⟩ := h
    refine ⟨_, (pss_one (ps_ret (pe_disp (pps_cons pe_str (pe_callTy call_list_of (by rfl) (t_list T) b_list (pa_cons (pe_slice sl_list (pv 0) po_none (po_some pe_int)) pa_nil)) (pps_cons pe_str pe_int (pps_cons pe_str pe_int pps_nil))) rfl rfl (by decide) (by decide)))), ?_⟩
    refine fun p np => ?_
    have s1 := same_new (o := .dK []) np
    have e1 : cutV (zs.map V.int) none (some 63) = (zs.take 63).map V.int := by
      unfold cutV
      rw [show HT.sIx (zs.map V.int).length 0 none = 0 from rfl, show HT.sIx (zs.map V.int).length (zs.map V.int).length (some 63) = min 63 (zs.map V.int).length from HT.sIx_nat _ _ 63, List.drop_zero, Nat.sub_zero, ← List.map_take]
      congr 1
      rw [List.length_map]
      exact (List.take_eq_take_iff.mpr (by omega))
    refine ⟨_, rfl, 63, rfl, a, _, rfl, sqL_ext (ExtN.of s1) ha, fun l nl => ?_⟩
    have s2 := same_new (o := .lst (cutV (zs.map V.int) none (some 63))) nl
    refine ⟨l, _, rfl, .inl (.inl (.inl upd_same)), fun D nD => ?_⟩
    have s3 := same_new (o := .lst (cutV (zs.map V.int) none (some 63))) nD
    refine ⟨s3 _ _ (s2 _ _ upd_same), [(.inr "cells", .ref D), (.inr "turn", .int 0), (.inr "left", .int 0)], rfl, by show 3 ≤ 15; decide, ?_⟩
    refine q _ p (same_mut ((s1.trans s2).trans s3) np) ⟨D, zs.take 63, 0, 0, upd_same, ?_, Nat.le_refl 0⟩
    rw [upd_ne (ne_of_none (s2 _ _ upd_same) nD).symm, ← e1]
    exact upd_same
def spDraw : Sp := fun vs H Q _ => ∃ (p : Addr) (m : Int) (U : Nat), vs = [.ref p, .int m] ∧ PenAt H p U ∧ U < 2 ^ 60 ∧ 0 < m ∧ m < 2 ^ 60 ∧ ∀ (H' : Hp) (d : Int), PB p H H' → PenAt H' p (U + 1) → 0 ≤ d → d < m → Q (.int d) H'
theorem ok_ldraw (T : Tx K mg) : Cal P w K mg base 1 "_law_draw" p_ldraw spDraw := by
  obtain ⟨fd, F⟩ := f_ldraw T
  refine ⟨_, fd, g_ldraw T, F.kp, okD F sc_ldraw (fun vs H Q E h => ?_) (fun cdv A outer s H vs Q E hr h => ?_), F.bindsN fun _ _ _ _ _ _ us hl => match us, hl with | [_, _], _ => rfl⟩
  · obtain ⟨p, m, U, rfl, _⟩ := h
    rfl
  · obtain ⟨p, m, U, rfl, ⟨D, zs, t, l, hp, hD, htU⟩, U60, m0, m60, q⟩ := h
    have hu := hu_of hr
    refine ⟨_, (pss_cons (ps_if (pt_cmpR op_gt (pe_dget hu (pv 0) pe_str (fun _ _ => rfl)) pe_int (nomark _))
          (pss_cons (ps_set (i := 2) sc_ldraw.nd rfl (Or.inl rfl) (pe_op op_mod (pe_dget hu (pv 0) pe_str (fun _ _ => rfl)) (pv 1))) (pss_cons (ps_dput hu (pv 0) pe_str (pe_op op_fdivW (pe_dget hu (pv 0) pe_str (fun _ _ => rfl)) (pv 1)) rfl) (pss_one (ps_ret (pv 2))))) pss_nil) (pss_cons (ps_set (i := 3) sc_ldraw.nd rfl (Or.inl rfl) (pe_dget hu (pv 0) pe_str (fun _ _ => rfl))) (pss_cons (ps_dput hu (pv 0) pe_str (pe_op op_add (pv 3) pe_int) rfl) (pss_cons (ps_set (i := 4) sc_ldraw.nd rfl (Or.inl rfl) (pe_op op_add (pe_op op_mul pe_int (pv 3)) pe_int)) (pss_cons (ps_if (pt_cmpR (op_neD hr.units) (pe_dget hu (pv 0) pe_str (fun _ _ => rfl)) (pe_lst pa_nil) (nomark _))
          (pss_one (ps_set (i := 4) sc_ldraw.nd rfl (Or.inl rfl) (pe_ix ix_list (pe_dget hu (pv 0) pe_str (fun _ _ => rfl)) (pe_op op_mod (pv 3) (pe_callB call_len_seq (by rfl) (t_len T) b_len (pa_cons (pe_dget hu (pv 0) pe_str (fun _ _ => rfl)) pa_nil))) (fun _ _ => rfl)))) pss_nil) (pss_cons (ps_if (PW.pt (pw_and (pt_cmpR op_lt (pv 3) (pe_callB call_len_seq (by rfl) (t_len T) b_len (pa_cons (pe_dget hu (pv 0) pe_str (fun _ _ => rfl)) pa_nil)) (nomark _)) (pw_and1 (pt_cmpR op_ge (pe_callB call_abs (by rfl) (t_abs T) b_abs (pa_cons (pv 4) pa_nil)) (pe_op op_pow pe_int pe_int) (nomark _)))))
          (pss_cons (ps_dput hu (pv 0) pe_str (pe_op op_fdivW (pe_op op_sub (pe_callB call_abs (by rfl) (t_abs T) b_abs (pa_cons (pv 4) pa_nil)) (pe_op op_pow pe_int pe_int)) (pv 1)) rfl) (pss_one (ps_ret (pe_op op_mod (pe_op op_sub (pe_callB call_abs (by rfl) (t_abs T) b_abs (pa_cons (pv 4) pa_nil)) (pe_op op_pow pe_int pe_int)) (pv 1))))) pss_nil) (pss_cons (ps_set (i := 5) sc_ldraw.nd rfl (Or.inl rfl) (pe_op op_mod (pe_op op_add (pe_op op_add (pe_op op_add (pe_op op_mul (pe_op op_mod (pv 4) pe_int) pe_int) (pe_op op_mul (pe_op op_mul pe_int (pv 3)) (pv 3))) (pe_op op_mul pe_int (pv 3))) pe_int) pe_int)) (pss_cons (ps_set (i := 5) sc_ldraw.nd rfl (Or.inl rfl) (pe_op op_mod (pe_op op_add (pe_op op_add (pe_op op_add (pe_op op_mul (pv 5) (pv 5)) (pe_op op_mul pe_int (pv 5))) (pe_op op_mul pe_int (pv 3))) pe_int) pe_int)) (pss_one (ps_ret (pe_op op_mod (pe_op op_fdiv (pe_op op_mod (pe_op op_mul (pv 5) (pe_op op_add (pv 5) pe_int)) pe_int) pe_int) (pv 1)))))))))))), ?_⟩
    have gl : ∀ {H : Hp} {t : Nat} {l : Int}, H p = some (.dK (pk D t l)) → DGet H p (.str "left") (some (.int l)) := fun h => DGet.k (k := .inr "left") h
    have gt : ∀ {H : Hp} {t : Nat} {l : Int}, H p = some (.dK (pk D t l)) → DGet H p (.str "turn") (some (.int (t : Int))) := fun h => DGet.k (k := .inr "turn") h
    have gc : ∀ {H : Hp} {t : Nat} {l : Int}, H p = some (.dK (pk D t l)) → DGet H p (.str "cells") (some (.ref D)) := fun h => DGet.k (k := .inr "cells") h
    have sz : ∀ {t : Nat} {l : Int}, (pk D t l).length < sizeLine := fun {t l} => by show 3 < sizeLine; decide
    have ml : ∀ x : Int, 0 ≤ x % m ∧ x % m < m := fun x => ⟨Int.emod_nonneg x (by omega), Int.emod_lt_of_pos x m0⟩
    have md : ∀ x : Int, CDivW x m := fun x => dw m0 (by have : (2 : Nat) ^ 60 ≤ 2 ^ 2000 := Nat.pow_le_pow_right (by decide) (by decide); omega)
    refine ⟨_, rfl, p, _, rfl, gl hp, _, _, rfl, rfl, _, rfl, ite2 (fun _ => ?_) (fun _ => ?_)⟩
    · refine ⟨_, rfl, p, _, rfl, gl hp, _, rfl, _, _, rfl, rfl, m0, ?_⟩
      refine ⟨_, rfl, p, _, rfl, gl hp, _, rfl, _, _, rfl, rfl, md _, _, rfl, p, _, rfl, DPut.k (k := .inr "left") hp sz, ?_⟩
      refine ⟨_, rfl, q _ _ (PB.mk1 hp (u := t) (m := l / m) upd_same (SameB.refl p H).upd) ⟨D, zs, t, l / m, upd_same, ?_, by omega⟩ (ml _).1 (ml _).2⟩
      rw [upd_ne (ne_of hD hp (by intro z; cases z))]
      exact hD
    · refine ⟨_, rfl, p, _, rfl, gt hp, ?_⟩
      refine ⟨_, rfl, _, _, rfl, rfl, _, rfl, p, _, rfl, DPut.k (k := .inr "turn") hp sz, ?_⟩
      have hp1 : (upd H p (.dK (putK (pk D t l) (.inr "turn") (.int ((t : Int) + 1))))) p = some (.dK (pk D (t + 1) l)) := upd_same
      have hD1 : (upd H p (.dK (putK (pk D t l) (.inr "turn") (.int ((t : Int) + 1))))) D = some (.lst (zs.map V.int)) := by
        rw [upd_ne (ne_of hD hp (by intro z; cases z))]
        exact hD
      have sb1 : SameB p H (upd H p (.dK (putK (pk D t l) (.inr "turn") (.int ((t : Int) + 1))))) := (SameB.refl p H).upd
      generalize upd H p (.dK (putK (pk D t l) (.inr "turn") (.int ((t : Int) + 1)))) = H1 at hp1 hD1 sb1 ⊢
      refine ⟨_, rfl, _, _, rfl, rfl, .inl ⟨by decide, by decide⟩, _, _, rfl, rfl, ?_⟩
      refine ⟨_, rfl, p, _, rfl, gc hp1, by show 0 ≤ sizeLine; decide, fun E nE => ?_⟩
      have s2 := same_new (o := .lst []) nE
      have hp2 := s2 _ _ hp1
      have hD2 := s2 _ _ hD1
      have sb2 := sb1.trans (SameB.of s2)
      have hE2 : (upd H1 E (.lst [])) E = some (.lst []) := upd_same
      generalize upd H1 E (.lst []) = H2 at hp2 hD2 sb2 hE2 ⊢
      refine ⟨.list (zs.map .int), .list [], .lst (.inl (.inl hD2)) (dp_ints K H2 zs), .lst (.inl (.inl hE2)) .nil, flat_shaped (flat_ints zs), flat_shaped (fun _ z => nomatch z), _, rfl, ?_⟩
      rw [eqv_nil]
      apply twoZ
      · intro rest
        by_cases hz : zs ≠ []
        · have zl : 0 < zs.length := List.length_pos_iff.mpr hz
          have he : (!(zs.map PyData.int).isEmpty) = true := by
            cases zs with
            | nil => exact absurd rfl hz
            | cons a b => rfl
          rw [he]
          refine iteT ?_
          have hlt : t % zs.length < zs.length := Nat.mod_lt _ zl
          have e1 : (zs.map V.int)[t % zs.length]? = some (.int zs[t % zs.length]) := by
            rw [List.getElem?_map, List.getElem?_eq_getElem hlt]; rfl
          have e2 : (t : Int) % ((zs.map V.int).length : Int) = ((t % zs.length : Nat) : Int) := by rw [List.length_map]; rfl
          refine ⟨_, rfl, p, _, rfl, gc hp2, _, rfl, _, rfl, p, _, rfl, gc hp2, D, _, rfl, .inl (.inl (.inl hD2)), _, _, rfl, rfl, by rw [List.length_map]; omega, ?_⟩
          refine ⟨D, _, _, .int zs[t % zs.length], rfl, rfl, .inl (.inl hD2), by rw [e2]; exact atI_nat e1, ?_⟩
          generalize zs[t % zs.length] = z
          exact rest z
        · have he : (!(zs.map PyData.int).isEmpty) = false := by
            cases zs with
            | nil => rfl
            | cons a b => exact absurd (fun z => nomatch z) hz
          rw [he]
          refine iteF ?_
          exact rest (53 * (t : Int) + 19)
      · intro z
        have tU : t + 1 ≤ U + 1 := Nat.succ_le_succ htU
        apply twoP
        · intro rest
          refine ⟨_, rfl, _, rfl, p, _, rfl, gc hp2, D, _, rfl, .inl (.inl (.inl hD2)), _, _, rfl, rfl, _, rfl, ite2 (fun _ => ?_) (fun _ => ?_)⟩
          · refine ⟨_, rfl, _, rfl, _, _, rfl, rfl, ⟨by decide, by decide, by decide⟩, _, _, rfl, rfl, _, rfl, ite2 (fun _ => ?_) (fun _ => ?_)⟩
            · refine ⟨_, rfl, _, rfl, _, _, rfl, rfl, ⟨by decide, by decide, by decide⟩, _, _, rfl, rfl, _, rfl, _, _, rfl, rfl, md _, _, rfl, p, _, rfl, DPut.k (k := .inr "left") hp2 sz, ?_⟩
              refine ⟨_, rfl, _, rfl, _, _, rfl, rfl, ⟨by decide, by decide, by decide⟩, _, _, rfl, rfl, _, rfl, _, _, rfl, rfl, m0, ?_⟩
              refine q _ _ (PB.mk1 hp (u := t + 1) upd_same sb2.upd) ⟨D, zs, t + 1, _, upd_same, ?_, tU⟩ (ml _).1 (ml _).2
              rw [upd_ne (ne_of hD2 hp2 (by intro z; cases z))]
              exact hD2
            · exact rest
          · exact iteF rest
        · have a0 := m31 z (m := 2147483647) (by decide) (by decide)
          refine ⟨_, rfl, _, _, rfl, rfl, (by show (0 : Int) < 2147483647; decide), _, _, rfl, rfl, .inr ⟨by decide, by decide⟩, _, rfl, _, _, rfl, rfl, .inl ⟨by decide, by decide⟩, _, rfl, _, _, rfl, rfl, .inr ⟨by omega, by omega⟩, _, _, rfl, rfl, _, rfl, _, _, rfl, rfl, .inl ⟨by decide, by decide⟩, _, _, rfl, rfl, _, _, rfl, rfl, _, _, rfl, rfl, (by show (0 : Int) < 2147483629; decide), ?_⟩
          have a1 := m31 (z % 2147483647 * 69621 + 48271 * (t : Int) * (t : Int) + 30011 * (t : Int) + 23) (m := 2147483629) (by decide) (by decide)
          dsimp only
          generalize (z % 2147483647 * 69621 + 48271 * (t : Int) * (t : Int) + 30011 * (t : Int) + 23) % 2147483629 = x at a1 ⊢
          refine ⟨_, rfl, _, rfl, _, _, rfl, rfl, .inl ⟨by omega, by omega⟩, _, rfl, _, _, rfl, rfl, .inl ⟨by decide, by decide⟩, _, _, rfl, rfl, _, rfl, _, _, rfl, rfl, .inl ⟨by decide, by decide⟩, _, _, rfl, rfl, _, _, rfl, rfl, _, _, rfl, rfl, (by show (0 : Int) < 2147483587; decide), ?_⟩
          have a2 := m31 (x * x + 40692 * x + 11 * (t : Int) + 5) (m := 2147483587) (by decide) (by decide)
          dsimp only
          generalize (x * x + 40692 * x + 11 * (t : Int) + 5) % 2147483587 = y at a2 ⊢
          refine ⟨_, rfl, _, rfl, _, _, rfl, rfl, _, _, rfl, rfl, .inl ⟨by omega, by omega⟩, _, _, rfl, rfl, (by show (0 : Int) < 2147483579; decide), _, _, rfl, rfl, ⟨by decide, by decide⟩, _, rfl, _, _, rfl, rfl, m0, ?_⟩
          exact q _ _ (PB.mk1 hp hp2 sb2) ⟨D, zs, t + 1, l, hp2, hD2, by omega⟩ (ml _).1 (ml _).2
end
end KN

/-! ## KU -/
set_option Elab.async false
set_option linter.all false
set_option maxRecDepth 100000
set_option maxHeartbeats 4000000
/-! pick, natural, integer, gcd, count_at, hidden. -/
namespace KN
open PySem PySem.Spec PyProof.Rows L2 LamX NdefX
theorem pen_ne {H : Hp} {p a : Addr} {U : Nat} {o : HO} (h : PenAt H p U) (ha : H a = some o) (n : ∀ kvs, o ≠ .dK kvs) : a ≠ p := by
  obtain ⟨D, zs, t, l, h1, _⟩ := h
  exact ne_of ha h1 (n _)
section
variable {P : Program} {w : World} {K : PySem.W.Frag} {mg : Str → Option Value} {base : Heap}
def spPick : Sp := fun vs H Q _ => ∃ (p a : Addr) (xs : List V) (U : Nat), vs = [.ref p, .ref a] ∧ H a = some (.lst xs) ∧ xs ≠ [] ∧ xs.length ≤ 1000 ∧ PenAt H p U ∧ U < 2 ^ 60 ∧ ∀ (H' : Hp) (x : V), PB p H H' → PenAt H' p (U + 1) → x ∈ xs → Q x H'
theorem ok_lpick (T : Tx K mg) : Cal P w K mg base 2 "_law_pick" p_lpick spPick := by
  obtain ⟨fd, F⟩ := f_lpick T
  have GD : Cal P w K mg base 1 "_law_draw" p_ldraw spDraw := ok_ldraw T
  refine ⟨_, fd, g_lpick T, F.kp, okD F sc_lpick (fun vs H Q E h => ?_) (fun cdv A outer s H vs Q E hr h => ?_), F.bindsN fun _ _ _ _ _ _ us hl => match us, hl with | [_, _], _ => rfl⟩
  · obtain ⟨p, a, xs, U, rfl, _⟩ := h
    rfl
  · obtain ⟨p, a, xs, U, rfl, ha, hne, hlen, pn, U60, q⟩ := h
    refine ⟨_, (pss_one (ps_ret (pe_ix ix_list (pv 1) (pe_cal GD hr (by rfl) (pa_cons (pv 0) (pa_cons (pe_callB call_len_seq (by rfl) (t_len T) b_len (pa_cons (pv 1) pa_nil)) pa_nil))) (fun _ _ => rfl)))), ?_⟩
    have l0 := List.length_pos_iff.mpr hne
    refine ⟨_, rfl, _, rfl, _, rfl, a, _, rfl, .inl (.inl (.inl ha)), p, xs.length, U, rfl, pn, U60, by omega, by omega, fun H' d sb pn2 d0 dm => ?_⟩
    obtain ⟨k, rfl⟩ := Int.eq_ofNat_of_zero_le d0
    have hk : k < xs.length := by omega
    exact ⟨a, xs, _, xs[k], rfl, rfl, .inl (.inl (sb.sb _ _ ha (pen_ne pn ha (fun _ z => by cases z)))), atI_nat (List.getElem?_eq_getElem hk), q H' _ sb pn2 (List.getElem_mem hk)⟩
def spNat : Sp := fun vs H Q _ => ∃ (p : Addr) (f : Int) (U : Nat), vs = [.ref p, .int f] ∧ 0 ≤ f ∧ f ≤ 12 ∧ PenAt H p U ∧ U < 2 ^ 59 ∧ ∀ (H' : Hp) (n : Int), PB p H H' → PenAt H' p (U + 5) → 0 ≤ n → n < 2 ^ 40 → Q (.int n) H'
theorem ok_lnatural (T : Tx K mg) : Cal P w K mg base 2 "_law_natural" p_lnatural spNat := by
  obtain ⟨fd, F⟩ := f_lnatural T
  have GD : Cal P w K mg base 1 "_law_draw" p_ldraw spDraw := ok_ldraw T
  refine ⟨_, fd, g_lnatural T, F.kp, okD F sc_lnatural (fun vs H Q E h => ?_) (fun cdv A outer s H vs Q E hr h => ?_), F.bindsN fun _ _ _ _ _ _ us hl => match us, hl with | [_, _], _ => rfl⟩
  · obtain ⟨p, f, U, rfl, _⟩ := h
    rfl
  · obtain ⟨p, f, U, rfl, f0, f12, pn, U60, q⟩ := h
    refine ⟨_, (pss_cons (ps_set (i := 2) sc_lnatural.nd rfl (Or.inl rfl) pe_int) (pss_cons (ps_for PassesOwn.never rfl (pi_range1 (by rfl) (t_range T) (pa_cons (pe_op op_fdiv (pv 1) pe_int) pa_nil)) (pg_name (i := 3) sc_lnatural.nd rfl (Or.inl rfl))
        (pss_one (ps_set (i := 2) sc_lnatural.nd rfl (Or.inl rfl) (pe_op op_add (pe_op op_mul pe_int (pv 2)) (pe_cal GD hr (by rfl) (pa_cons (pv 0) (pa_cons (pe_int) pa_nil))))))) (pss_one (ps_ret (pe_ifExp (pt_cmpR op_eq (pe_op op_mod (pv 1) pe_int) pe_int (nomark _)) (pv 2) (pe_op op_add (pe_op op_mul pe_int (pv 2)) (pe_cal GD hr (by rfl) (pa_cons (pv 0) (pa_cons (pe_int) pa_nil))))))))), ?_⟩
    have f3 : (f / 3).toNat ≤ 4 := by omega
    refine ⟨_, rfl, _, _, rfl, rfl, ⟨by decide, by decide⟩, f / 3, rfl, by omega, by omega, for_range (lo := 0) (n := (f / 3).toNat) (fun i σ H' => ∃ (r : Int) (u3 : Option V), σ = [some (.ref p), some (.int f), some (.int r), u3] ∧ PB p H H' ∧ PenAt H' p (U + i) ∧ 0 ≤ r ∧ r < 1000 ^ i)
      ⟨0, none, rfl, PB.refl p H, pn, by decide, by decide⟩ ?_ ?_⟩
    · rintro i σ H1 hi ⟨r, u3, rfl, sb, pn1, r0, r1⟩
      refine ⟨_, rfl, _, _, rfl, rfl, .inl ⟨by decide, by decide⟩, _, rfl, p, 1000, U + i, rfl, pn1, by omega, by decide, by decide, fun H2 d sb2 pn2 d0 dm => ?_⟩
      refine ⟨_, _, rfl, rfl, _, _, rfl, sb.trans sb2, pn2, by omega, ?_⟩
      rw [Int.pow_succ]
      omega
    · rintro σ H1 ⟨r, u3, rfl, sb, pn1, r0, r1⟩
      refine ⟨_, rfl, _, _, rfl, rfl, (by show (0 : Int) < 3; decide), rfl, _, rfl, ite2 (fun e => ?_) (fun e => ?_)⟩
      · refine ⟨_, rfl, q H1 r sb (pn1.mono (by omega)) r0 ?_⟩
        have : (1000 : Int) ^ (f / 3).toNat ≤ 1000 ^ 4 := by
          have h : (1000 : Nat) ^ (f / 3).toNat ≤ 1000 ^ 4 := Nat.pow_le_pow_right (by decide) f3
          exact_mod_cast h
        have e4 : (1000 : Int) ^ 4 = 1000000000000 := by decide
        omega
      · have f4 : (f / 3).toNat ≤ 3 := by
          have := int_ne e
          omega
        have : (1000 : Int) ^ (f / 3).toNat ≤ 1000 ^ 3 := by
          have h : (1000 : Nat) ^ (f / 3).toNat ≤ 1000 ^ 3 := Nat.pow_le_pow_right (by decide) f4
          exact_mod_cast h
        have e4 : (1000 : Int) ^ 3 = 1000000000 := by decide
        refine ⟨_, rfl, _, _, rfl, rfl, .inl ⟨by decide, by decide⟩, _, rfl, p, 10, U + (f / 3).toNat, rfl, pn1, by omega, by decide, by decide, fun H2 d sb2 pn2 d0 dm => ?_⟩
        exact ⟨_, _, rfl, rfl, q H2 _ (sb.trans sb2) (pn2.mono (by omega)) (by omega) (by omega)⟩
def spInt : Sp := fun vs H Q _ => ∃ (p : Addr) (f : Int) (U : Nat), vs = [.ref p, .int f] ∧ 0 ≤ f ∧ f ≤ 12 ∧ PenAt H p U ∧ U < 2 ^ 58 ∧ ∀ (H' : Hp) (n : Int), PB p H H' → PenAt H' p (U + 6) → n.natAbs < 2 ^ 40 → Q (.int n) H'
theorem ok_linteger (T : Tx K mg) : Cal P w K mg base 3 "_law_integer" p_linteger spInt := by
  obtain ⟨fd, F⟩ := f_linteger T
  have GN : Cal P w K mg base 2 "_law_natural" p_lnatural spNat := ok_lnatural T
  have GP : Cal P w K mg base 2 "_law_pick" p_lpick spPick := ok_lpick T
  refine ⟨_, fd, g_linteger T, F.kp, okD F sc_linteger (fun vs H Q E h => ?_) (fun cdv A outer s H vs Q E hr h => ?_), F.bindsN fun _ _ _ _ _ _ us hl => match us, hl with | [_, _], _ => rfl⟩
  · obtain ⟨p, f, U, rfl, _⟩ := h
    rfl
  · obtain ⟨p, f, U, rfl, f0, f12, pn, U60, q⟩ := h
    refine ⟨_, (pss_one (ps_ret (pe_op op_mul (pe_cal GN hr (by rfl) (pa_cons (pv 0) (pa_cons (pv 1) pa_nil))) (pe_cal GP hr (by rfl) (pa_cons (pv 0) (pa_cons (pe_lst (pa_cons (pe_int) (pa_cons (pe_un un_neg pe_int) pa_nil))) pa_nil)))))), ?_⟩
    refine ⟨_, rfl, _, rfl, p, f, U, rfl, f0, f12, pn, by omega, fun H1 n sb1 pn1 n0 n1 => ?_⟩
    refine ⟨_, rfl, _, rfl, by show 2 ≤ sizeLine; decide, fun D nD => ?_⟩
    have s2 := same_new (o := .lst [.int 1, .int (-1)]) nD
    refine ⟨p, D, _, U + 5, rfl, upd_same, (fun z => nomatch z), by show 2 ≤ 1000; decide, pn1.same s2, by omega, fun H3 x sb3 pn3 hx => ?_⟩
    have sb := (sb1.trans (PB.of s2)).trans sb3
    rcases List.mem_cons.mp hx with rfl | hx
    · exact ⟨_, _, rfl, rfl, .inl ⟨by omega, by omega⟩, q H3 _ sb pn3 (by omega)⟩
    · rw [List.mem_singleton.mp hx]
      exact ⟨_, _, rfl, rfl, .inl ⟨by omega, by omega⟩, q H3 _ sb pn3 (by omega)⟩
def spGcdL : Sp := fun vs H Q _ => ∃ a b : Int, vs = [.int a, .int b] ∧ Q (.int ((Int.gcd a b : Nat) : Int)) H
theorem ok_lgcd (T : Tx K mg) : Cal P w K mg base 1 "_law_gcd" p_lgcd spGcdL := by
  obtain ⟨fd, F⟩ := f_lgcd T
  refine ⟨_, fd, g_lgcd T, F.kp, okD F sc_lgcd (fun vs H Q E h => ?_) (fun cdv A outer s H vs Q E hr h => ?_), F.bindsN fun _ _ _ _ _ _ us hl => match us, hl with | [_, _], _ => rfl⟩
  · obtain ⟨a, b, rfl, _⟩ := h
    rfl
  · obtain ⟨a, b, rfl, q⟩ := h
    refine ⟨_, (pss_cons (ps_par (i := 0) (j := 1) rfl sc_lgcd.nd rfl rfl (by decide) rfl rfl (pa_cons (pe_callB call_abs (by rfl) (t_abs T) b_abs (pa_cons (pv 0) pa_nil)) (pa_cons (pe_callB call_abs (by rfl) (t_abs T) b_abs (pa_cons (pv 1) pa_nil)) pa_nil)) (by rfl)) (pss_cons (ps_while PassesOwn.never (pt_cmpR op_gt (pv 1) pe_int (nomark _)) (pss_one (ps_par (i := 0) (j := 1) rfl sc_lgcd.nd rfl rfl (by decide) rfl rfl (pa_cons (pv 1) (pa_cons (pe_op op_mod (pv 0) (pv 1)) pa_nil)) (by rfl)))) (pss_one (ps_ret (pv 0))))), ?_⟩
    have eab : ∀ x : Int, (if x < 0 then -x else x) = (x.natAbs : Int) := fun x => by split <;> omega
    refine ⟨_, rfl, _, rfl, _, rfl, _, rfl, _, _, rfl, ?_⟩
    refine ⟨fun m σ H' => ∃ c d : Nat, σ = [some (.int (c : Int)), some (.int (d : Int))] ∧ H' = H ∧ Nat.gcd c d = Int.gcd a b ∧ m = d, ⟨_, a.natAbs, b.natAbs, by rw [eab a, eab b]; rfl, rfl, rfl, rfl⟩, ?_⟩
    rintro m σ H' ⟨c, d, rfl, rfl, hg, rfl⟩
    refine ⟨_, rfl, _, _, rfl, rfl, _, rfl, ite2 (fun e => ?_) (fun e => ?_)⟩
    · have hd : (0 : Int) < (m : Int) := of_decide_eq_true e
      refine ⟨fun σ' H'' => σ' = [some (.int (m : Int)), some (.int ((c % m : Nat) : Int))] ∧ H'' = H', fun σ' H'' n => ?_, ?_⟩
      · obtain ⟨rfl, rfl⟩ := n
        refine ⟨c % m, Nat.mod_lt _ (by omega), m, c % m, rfl, rfl, ?_, rfl⟩
        rw [← hg, Nat.gcd_comm c m, Nat.gcd_rec m c, Nat.gcd_comm (c % m) m]
      · refine ⟨_, rfl, _, rfl, _, rfl, _, _, rfl, rfl, hd, _, _, rfl, ?_⟩
        exact ⟨by rw [Int.natCast_emod]; rfl, rfl⟩
    · have hd : ¬ (0 : Int) < (m : Int) := fun z => e (decide_eq_true z)
      have e0 : m = 0 := by omega
      subst e0
      rw [Nat.gcd_zero_right] at hg
      refine ⟨_, rfl, ?_⟩
      rw [hg]
      exact q
/-- the rule at r -/
def RuleAt (H : Hp) (r : Addr) (p q c : Int) : Prop := H r = some (.tup [.int p, .int q, .int c])
def spCnt : Sp := fun vs H Q _ => ∃ (r : Addr) (p q c t : Int), vs = [.ref r, .int t] ∧ RuleAt H r p q c ∧ 0 < q ∧ q.natAbs < 2 ^ 60 ∧ t.natAbs < 2 ^ 60 ∧ Q (.int ((p * t + c) / q)) H
theorem ok_lcount_at (T : Tx K mg) : Cal P w K mg base 1 "_law_count_at" p_lcount_at spCnt := by
  obtain ⟨fd, F⟩ := f_lcount_at T
  refine ⟨_, fd, g_lcount_at T, F.kp, okD F sc_lcount_at (fun vs H Q E h => ?_) (fun cdv A outer s H vs Q E hr h => ?_), F.bindsN fun _ _ _ _ _ _ us hl => match us, hl with | [_, _], _ => rfl⟩
  · obtain ⟨r, p, q, c, t, rfl, _⟩ := h
    rfl
  · obtain ⟨r, p, q, c, t, rfl, hr1, q0, q60, t60, k⟩ := h
    refine ⟨_, (pss_one (ps_ret (pe_op op_fdivW (pe_op op_add (pe_op op_mul (pe_ix ix_tup (pv 0) pe_int (fun _ _ => rfl)) (pv 1)) (pe_ix ix_tup (pv 0) pe_int (fun _ _ => rfl))) (pe_ix ix_tup (pv 0) pe_int (fun _ _ => rfl))))), ?_⟩
    refine ⟨_, rfl, r, _, 0, _, rfl, rfl, .inl (.inl hr1), atI_nat (j := 0) rfl, _, rfl, _, _, rfl, rfl, .inr ⟨by omega, by omega⟩, _, rfl, r, _, 2, _, rfl, rfl, .inl (.inl hr1), atI_nat (j := 2) rfl, _, _, rfl, rfl, _, rfl, r, _, 1, _, rfl, rfl, .inl (.inl hr1), atI_nat (j := 1) rfl, _, _, rfl, rfl, dw q0 (bup q60 (by decide)), ?_⟩
    exact k
end
end KN

/-! ## KV -/
set_option Elab.async false
set_option linter.all false
set_option maxRecDepth 100000
set_option maxHeartbeats 4000000
/-! hidden, shuffled. -/
namespace KN
open PySem PySem.Spec PyProof.Rows L2 LamX NdefX
structure RuleB (p q c : Int) : Prop where
  p0 : 0 ≤ p
  q0 : 0 < q
  pb : p.natAbs < 2 ^ 42
  qb : q.natAbs < 2 ^ 42
  cb : c.natAbs < 2 ^ 42
theorem RuleB.red {p q c : Int} (h : RuleB p q c) : RuleB (p / (Int.gcd p q : Nat)) (q / (Int.gcd p q : Nat)) c ∧ (0 : Int) < (Int.gcd p q : Nat) ∧ ((Int.gcd p q : Nat) : Int) ≤ q := by
  obtain ⟨p0, q0, pb, qb, cb⟩ := h
  have gp : (0 : Int) < (Int.gcd p q : Nat) := by
    have : 0 < Int.gcd p q := Nat.pos_of_ne_zero fun z => by
      rw [Int.gcd_eq_zero_iff] at z
      omega
    omega
  have gd : ((Int.gcd p q : Nat) : Int) ∣ q := Int.gcd_dvd_right p q
  have gq := Int.le_of_dvd q0 gd
  have h1 := Int.ediv_le_self (Int.gcd p q : Nat) p0
  have h2 := Int.ediv_nonneg p0 (Int.le_of_lt gp)
  have h3 := Int.ediv_le_self (Int.gcd p q : Nat) (Int.le_of_lt q0)
  have h4 : 0 < q / (Int.gcd p q : Nat) := Int.ediv_pos_of_pos_of_dvd q0 (Int.le_of_lt gp) gd
  exact ⟨⟨h2, h4, by omega, by omega, cb⟩, gp, gq⟩
theorem threeZ {R C : Int → Int → Int → Hp → Prop} {G : Prop} (b : (∀ p q c H, C p q c H → R p q c H) → G) (a : ∀ p q c H, C p q c H → R p q c H) : G := b a
theorem sameB_mut {p S : Addr} {H H' : Hp} {o : HO} (s : SameB p H H') (n : H S = none) : SameB p H (upd H' S o) := fun b x e m => by
  rw [upd_ne (ne_of_none e n)]
  exact s b x e m
theorem PB.mut {p S : Addr} {H H' : Hp} {o : HO} {U : Nat} (pn : PenAt H p U) (s : PB p H H') (n : H S = none) : PB p H (upd H' S o) := by
  obtain ⟨D, zs, t, l, h1, h2, h3⟩ := pn
  obtain ⟨t', l', h4⟩ := s.dd D t l h1
  refine PB.mk1 h1 (u := t') (m := l') ?_ (sameB_mut s.sb n)
  rw [upd_ne (ne_of_none h1 n)]
  exact h4
theorem PenAt.mut {p S : Addr} {H H' : Hp} {o : HO} {U V : Nat} (pn : PenAt H p V) (s : PB p H H') (pn' : PenAt H' p U) (n : H S = none) : PenAt (upd H' S o) p U := by
  obtain ⟨D, zs, t, l, h1, h2, h3⟩ := pn
  obtain ⟨t', l', h4⟩ := s.dd D t l h1
  obtain ⟨E, zs', u, m, g1, g2, g3⟩ := pn'
  rw [h4] at g1
  cases pk_inj g1
  refine ⟨D, zs', u, m, ?_, ?_, g3⟩
  · rw [upd_ne (ne_of_none h1 n), h4, g1]
  · rw [upd_ne (ne_of_none h2 n)]
    exact g2
theorem perm_erase {α : Type} {x : α} : ∀ {l : List α} {k : Nat}, l[k]? = some x → (x :: l.eraseIdx k).Perm l
  | [], k, h => by simp at h
  | a :: r, 0, h => by
    cases (show some a = some x from h)
    exact List.Perm.refl _
  | a :: r, k + 1, h => by
    have ih := perm_erase (l := r) (k := k) h
    exact (List.Perm.swap a x _).trans (ih.cons a)
theorem Al.erase {α : Type} {R : V → α → Prop} {xs : List V} {ys : List α} (h : Al R xs ys) (k : Nat) : Al R (xs.eraseIdx k) (ys.eraseIdx k) := by
  refine ⟨by rw [List.length_eraseIdx, List.length_eraseIdx, h.len], fun i y hy => ?_⟩
  rw [List.getElem?_eraseIdx] at hy ⊢
  by_cases hi : i < k
  · rw [if_pos hi] at hy ⊢
    exact h.get i y hy
  · rw [if_neg hi] at hy ⊢
    exact h.get (i + 1) y hy
theorem seq_ix {k n : Nat} (h : k < n) : seqIndex? (k : Int) n = some k := by
  unfold seqIndex?
  have e : (if (k : Int) < 0 then (k : Int) + (n : Int) else (k : Int)) = (k : Int) := if_neg (by omega)
  simp only [e]
  rw [if_pos (by simp; omega), Int.toNat_natCast]
def RecR (H : Hp) (x : V) (r : Rec) : Prop := ∃ b, x = .ref b ∧ H b = some (.tup r.v)
theorem RecR.stab : Stab RecR := fun _ _ _ _ s ⟨b, e, h⟩ => ⟨b, e, s _ _ h (fun _ z => by cases z)⟩
theorem RecR.but {H H' : Hp} {p : Addr} {U : Nat} {x : V} {r : Rec} (pn : PenAt H p U) (s : SameB p H H') (h : RecR H x r) : RecR H' x r := by
  obtain ⟨b, e, g⟩ := h
  exact ⟨b, e, s _ _ g (pen_ne pn g (fun _ z => by cases z))⟩
theorem recs_al {H : Hp} {a : Addr} {xs : List V} {rs : List Rec} (h : RecsAt H a xs rs) : Al (RecR H) xs rs := ⟨h.len, fun i r e => let ⟨b, e1, e2⟩ := h.get i r e; ⟨_, e1, b, rfl, e2⟩⟩
theorem al_recs {H : Hp} {a : Addr} {xs : List V} {rs : List Rec} (h : Al (RecR H) xs rs) (ha : H a = some (.lst xs)) : RecsAt H a xs rs := ⟨ha, h.len, fun i r e => by
  obtain ⟨x, e1, b, rfl, e2⟩ := h.get i r e
  exact ⟨b, e1, e2⟩⟩
def recD (r : Rec) : PyData := .tuple [.str r.kind, .int r.t, .int r.n]
theorem kind_lay (r : Rec) : (PyData.str r.kind).canLay0 = true := by
  unfold Rec.kind
  cases r.lo <;> decide +kernel
theorem flat_rec (r : Rec) : Flat (recD r) := by
  have h := kind_lay r
  refine ⟨?_, ?_⟩
  · unfold recD
    simp only [PyData.canLay0, PyData.canLayAll0] at h ⊢
    rw [h]; rfl
  · unfold recD
    simp only [PyData.depth, PyData.depthAll]
    omega
theorem dp_recs (K : PySem.W.Frag) {H : Hp} : ∀ {xs : List V} {rs : List Rec}, Al (RecR H) xs rs → DpAll K H xs (rs.map recD)
  | [], [], _ => .nil
  | [], r :: rs, h => by have := h.len; simp at this
  | x :: xs, [], h => by have := h.len; simp at this
  | x :: xs, r :: rs, h => by
    obtain ⟨y, ey, b, e, hb⟩ := h.get 0 r rfl
    have e0 : x = y := Option.some.inj ey
    subst e0 e
    exact .cons (.tup (.inl (.inl hb)) (.cons (.str _) (.cons (.int _) (.cons (.int _) .nil)))) (dp_recs K (xs := xs) (rs := rs) ⟨by have := h.len; simp at this; exact this, fun i y hy => h.get (i + 1) y hy⟩)
section
variable {P : Program} {w : World} {K : PySem.W.Frag} {mg : Str → Option Value} {base : Heap}
def spHid : Sp := fun vs H Q _ => ∃ (p : Addr) (f : Int) (U : Nat), vs = [.ref p, .int f] ∧ 0 ≤ f ∧ f ≤ 12 ∧ PenAt H p U ∧ U < 2 ^ 57 ∧ ∀ (H' : Hp) (r : Addr) (a b c : Int), PB p H H' → PenAt H' p (U + 20) → RuleAt H' r a b c → RuleB a b c → Q (.ref r) H'
theorem ok_lhidden (T : Tx K mg) : Cal P w K mg base 4 "_law_hidden" p_lhidden spHid := by
  obtain ⟨fd, F⟩ := f_lhidden T
  have GD : Cal P w K mg base 1 "_law_draw" p_ldraw spDraw := ok_ldraw T
  have GN : Cal P w K mg base 2 "_law_natural" p_lnatural spNat := ok_lnatural T
  have GI : Cal P w K mg base 3 "_law_integer" p_linteger spInt := ok_linteger T
  have GG : Cal P w K mg base 1 "_law_gcd" p_lgcd spGcdL := ok_lgcd T
  refine ⟨_, fd, g_lhidden T, F.kp, okD F sc_lhidden (fun vs H Q E h => ?_) (fun cdv A outer s H vs Q E hr h => ?_), F.bindsN fun _ _ _ _ _ _ us hl => match us, hl with | [_, _], _ => rfl⟩
  · obtain ⟨p, f, U, rfl, _⟩ := h
    rfl
  · obtain ⟨p, f, U, rfl, f0, f12, pn, U60, q⟩ := h
    have h1 := hr.mono (show 1 ≤ 3 by decide)
    have h2 := hr.mono (show 2 ≤ 3 by decide)
    refine ⟨_, (pss_cons (ps_set (i := 2) sc_lhidden.nd rfl (Or.inl rfl) (pe_cal GD h1 (by rfl) (pa_cons (pv 0) (pa_cons (pe_int) pa_nil)))) (pss_cons (ps_par3 (i := 3) (j := 4) (l := 5) rfl sc_lhidden.nd rfl rfl rfl (by decide) (by decide) (by decide) rfl rfl rfl (pa_cons (pe_cal GD h1 (by rfl) (pa_cons (pv 0) (pa_cons (pe_int) pa_nil))) (pa_cons (pe_op op_add pe_int (pe_cal GD h1 (by rfl) (pa_cons (pv 0) (pa_cons (pe_int) pa_nil)))) (pa_cons (pe_op op_sub (pe_cal GD h1 (by rfl) (pa_cons (pv 0) (pa_cons (pe_int) pa_nil))) pe_int) pa_nil))) (by rfl)) (pss_cons (ps_if (pt_cmpR op_eq (pv 2) pe_int (nomark _)) (pss_one (ps_ret (pe_tup (pa_cons (pe_int) (pa_cons (pe_int) (pa_cons (pv 5) pa_nil)))))) pss_nil) (pss_cons (ps_if (PW.pt (pw_and (pt_cmpR op_gt (pv 2) pe_int (nomark _)) (pw_and1 (pt_cmpR op_gt (pv 1) pe_int (nomark _)))))
          (pss_one (ps_par3 (i := 3) (j := 4) (l := 5) rfl sc_lhidden.nd rfl rfl rfl (by decide) (by decide) (by decide) rfl rfl rfl (pa_cons (pe_cal GN h2 (by rfl) (pa_cons (pv 0) (pa_cons (pv 1) pa_nil))) (pa_cons (pe_op op_add pe_int (pe_cal GN h2 (by rfl) (pa_cons (pv 0) (pa_cons (pv 1) pa_nil)))) (pa_cons (pe_cal GI hr (by rfl) (pa_cons (pv 0) (pa_cons (pv 1) pa_nil))) pa_nil))) (by rfl))) pss_nil) (pss_cons (ps_set (i := 6) sc_lhidden.nd rfl (Or.inl rfl) (pe_cal GG h1 (by rfl) (pa_cons (pv 3) (pa_cons (pv 4) pa_nil)))) (pss_one (ps_ret (pe_tup (pa_cons (pe_op op_fdivW (pv 3) (pv 6)) (pa_cons (pe_op op_fdivW (pv 4) (pv 6)) (pa_cons (pv 5) pa_nil))))))))))), ?_⟩
    refine ⟨_, rfl, p, 6, U, rfl, pn, by omega, by decide, by decide, fun H1 road sb1 pn1 r0 r1 => ?_⟩
    refine ⟨_, rfl, p, 14, U + 1, rfl, pn1, by omega, by decide, by decide, fun H2 P0 sb2 pn2 P00 P01 => ?_⟩
    refine ⟨_, rfl, p, 14, U + 2, rfl, pn2, by omega, by decide, by decide, fun H3 q0 sb3 pn3 q00 q01 => ?_⟩
    refine ⟨_, _, rfl, rfl, _, rfl, p, 41, U + 3, rfl, pn3, by omega, by decide, by decide, fun H4 c0 sb4 pn4 c00 c01 => ?_⟩
    refine ⟨_, _, rfl, rfl, _, _, _, rfl, ?_⟩
    have sb := ((sb1.trans sb2).trans sb3).trans sb4
    refine ⟨_, rfl, rfl, _, rfl, ite2 (fun e => ?_) (fun e => ?_)⟩
    · refine ⟨_, rfl, by show 3 ≤ sizeLine; decide, fun t nt => ?_⟩
      have s5 := same_new (o := .tup [.int 0, .int 1, .int (c0 - 20)]) nt
      exact q _ t 0 1 (c0 - 20) (sb.trans (PB.of s5)) ((pn4.same s5).mono (by omega)) upd_same ⟨by decide, by decide, by decide, by decide, by omega⟩
    · have ok0 : RuleB P0 (1 + q0) (c0 - 20) := ⟨by omega, by omega, by omega, by omega, by omega⟩
      have pn4' := pn4.mono (show U + 3 + 1 ≤ U + 20 by omega)
      apply threeZ (C := fun a b c H5 => PB p H H5 ∧ PenAt H5 p (U + 20) ∧ RuleB a b c)
      · intro rest
        refine ⟨_, rfl, _, _, rfl, rfl, _, rfl, ite2 (fun _ => ?_) (fun _ => ?_)⟩
        · refine ⟨_, rfl, _, _, rfl, rfl, _, rfl, ite2 (fun _ => ?_) (fun _ => ?_)⟩
          · refine ⟨_, rfl, _, rfl, p, f, U + 4, rfl, f0, f12, pn4, by have := U60; clear rest; omega, fun H5 a sb5 pn5 a0 a1 => ?_⟩
            refine ⟨_, rfl, _, rfl, p, f, U + 4 + 5, rfl, f0, f12, pn5, by have := U60; clear rest; omega, fun H6 b sb6 pn6 b0 b1 => ?_⟩
            refine ⟨_, _, rfl, rfl, _, rfl, _, rfl, p, f, U + 4 + 5 + 5, rfl, f0, f12, pn6, by have := U60; clear rest; omega, fun H7 c sb7 pn7 c1 => ?_⟩
            have okn : RuleB a (1 + b) c := by
              clear rest
              exact ⟨by omega, by omega, by omega, by omega, by omega⟩
            have sbn := ((sb.trans sb5).trans sb6).trans sb7
            have pnn : PenAt H7 p (U + 20) := pn7.mono (by clear rest; omega)
            refine ⟨_, _, _, rfl, ?_⟩
            dsimp only
            generalize 1 + b = b' at okn ⊢
            exact rest a b' c H7 ⟨sbn, pnn, okn⟩
          · exact rest _ _ _ _ ⟨sb, pn4', ok0⟩
        · exact iteF (rest _ _ _ _ ⟨sb, pn4', ok0⟩)
      · rintro a b c H5 ⟨sb5, pn5, ok5⟩
        obtain ⟨k1, k2, k3⟩ := ok5.red
        have b42 := ok5.qb
        refine ⟨_, rfl, _, rfl, a, b, rfl, ?_⟩
        have dg : ∀ x : Int, CDivW x ((Int.gcd a b : Nat) : Int) := fun x => dw k2 (by have : (2 : Nat) ^ 60 ≤ 2 ^ 2000 := Nat.pow_le_pow_right (by decide) (by decide); omega)
        refine ⟨_, rfl, _, rfl, _, _, rfl, rfl, dg _, _, rfl, _, rfl, _, _, rfl, rfl, dg _, _, rfl, by show 3 ≤ sizeLine; decide, fun t nt => ?_⟩
        have s6 := same_new (o := .tup [.int (a / (Int.gcd a b : Nat)), .int (b / (Int.gcd a b : Nat)), .int c]) nt
        exact q _ t _ _ c (sb5.trans (PB.of s6)) (pn5.same s6) upd_same k1
end
end KN

/-! ## KW -/
set_option Elab.async false
set_option linter.all false
set_option maxRecDepth 100000
set_option maxHeartbeats 4000000
/-! shuffled, records, loose. -/
namespace KN
open PySem PySem.Spec PyProof.Rows L2 LamX NdefX
/-- a record that a rule fits -/
structure FitR (p q c : Int) (r : Rec) : Prop where
  lo : r.lo = true → r.n * q ≤ p * r.t + c
  hi : r.lo = false → p * r.t + c < (r.n + 1) * q
  tb : r.t.natAbs < 2 ^ 50
  nb : r.n.natAbs < 2 ^ 150
theorem RuleB.cnt {p q c t : Int} (b : RuleB p q c) (ht : t.natAbs < 2 ^ 44) : ((p * t + c) / q).natAbs < 2 ^ 90 ∧ (p * t + c) / q * q ≤ p * t + c ∧ p * t + c < ((p * t + c) / q + 1) * q := by
  have h1 := bmul b.pb ht
  have h2 : (p * t + c).natAbs < 2 ^ 87 := by have := b.cb; omega
  have h3 := bdiv h2 b.q0
  have h4 := Int.ediv_mul_le (p * t + c) (Int.ne_of_gt b.q0)
  have h5 := Int.lt_ediv_add_one_mul_self (p * t + c) b.q0
  exact ⟨by omega, h4, h5⟩
theorem RuleB.lo {p q c t s : Int} (b : RuleB p q c) (ht : t.natAbs < 2 ^ 44) (s0 : 0 ≤ s) (s1 : s.natAbs < 2 ^ 60) : FitR p q c ⟨true, t, (p * t + c) / q - s⟩ := by
  obtain ⟨h1, h2, h3⟩ := b.cnt ht
  have q0 := b.q0
  refine ⟨fun _ => ?_, (fun z => nomatch z), by show t.natAbs < 2 ^ 50; omega, by show ((p * t + c) / q - s).natAbs < 2 ^ 150; omega⟩
  show ((p * t + c) / q - s) * q ≤ p * t + c
  rw [Int.sub_mul]
  have := Int.mul_nonneg s0 (Int.le_of_lt q0)
  omega
theorem RuleB.hi {p q c t s : Int} (b : RuleB p q c) (ht : t.natAbs < 2 ^ 44) (s0 : 0 ≤ s) (s1 : s.natAbs < 2 ^ 60) : FitR p q c ⟨false, t, (p * t + c) / q + s⟩ := by
  obtain ⟨h1, h2, h3⟩ := b.cnt ht
  have q0 := b.q0
  refine ⟨(fun z => nomatch z), fun _ => ?_, by show t.natAbs < 2 ^ 50; omega, by show ((p * t + c) / q + s).natAbs < 2 ^ 150; omega⟩
  show p * t + c < ((p * t + c) / q + s + 1) * q
  rw [show (p * t + c) / q + s + 1 = (p * t + c) / q + 1 + s by omega, Int.add_mul]
  have := Int.mul_nonneg s0 (Int.le_of_lt q0)
  omega
theorem Al.pen {H H' : Hp} {p : Addr} {U : Nat} {xs : List V} {rs : List Rec} (pn : PenAt H p U) (s : SameB p H H') (h : Al (RecR H) xs rs) : Al (RecR H') xs rs := h.mono fun x r g => g.but pn s
section
variable {P : Program} {w : World} {K : PySem.W.Frag} {mg : Str → Option Value} {base : Heap}
def spShuf : Sp := fun vs H Q _ => ∃ (p a : Addr) (xs : List V) (rs : List Rec) (U : Nat), vs = [.ref p, .ref a] ∧ RecsAt H a xs rs ∧ rs.length ≤ 200 ∧ PenAt H p U ∧ U < 2 ^ 57 ∧ ∀ (H' : Hp) (b : Addr) (ys : List V) (ss : List Rec), PB p H H' → PenAt H' p (U + 200) → RecsAt H' b ys ss → ss.Perm rs → Q (.ref b) H'
theorem ok_lshuffled (T : Tx K mg) : Cal P w K mg base 2 "_law_shuffled" p_lshuffled spShuf := by
  obtain ⟨fd, F⟩ := f_lshuffled T
  have GD : Cal P w K mg base 1 "_law_draw" p_ldraw spDraw := ok_ldraw T
  refine ⟨_, fd, g_lshuffled T, F.kp, okD F sc_lshuffled (fun vs H Q E h => ?_) (fun cdv A outer s H vs Q E hr h => ?_), F.bindsN fun _ _ _ _ _ _ us hl => match us, hl with | [_, _], _ => rfl⟩
  · obtain ⟨p, a, xs, rs, U, rfl, _⟩ := h
    rfl
  · obtain ⟨p, a, xs, rs, U, rfl, hR, rl, pn, U60, q⟩ := h
    refine ⟨_, (pss_cons (ps_par (i := 2) (j := 3) rfl sc_lshuffled.nd rfl rfl (by decide) rfl rfl (pa_cons (pe_callTy call_list_of (by rfl) (t_list T) b_list (pa_cons (pv 1) pa_nil)) (pa_cons (pe_lst pa_nil) pa_nil)) (by rfl)) (pss_cons (ps_while PassesOwn.never (pt_cmpR (op_neD hr.units) (pv 2) (pe_lst pa_nil) (nomark _))
          (pss_one (ps_expr (pe_bm PySem.F.plainAttrs_list PySem.F.slot_list_append PySem.F.type_list_append mt_append (pv 3) (pa_cons (pe_bm PySem.F.plainAttrs_list PySem.F.slot_list_pop PySem.F.type_list_pop mt_popAt (pv 2) (pa_cons (pe_cal GD hr (by rfl) (pa_cons (pv 0) (pa_cons (pe_callB call_len_seq (by rfl) (t_len T) b_len (pa_cons (pv 2) pa_nil)) pa_nil))) pa_nil)) pa_nil))))) (pss_one (ps_ret (pv 3))))), ?_⟩
    refine ⟨_, rfl, a, xs, rfl, .inl (.inl (.inl hR.at_)), fun R nR => ?_⟩
    have s1 := same_new (o := .lst xs) nR
    refine ⟨by show 0 ≤ sizeLine; decide, fun S nS => ⟨_, _, rfl, ?_⟩⟩
    have s2 := same_new (o := .lst []) nS
    have nSH := same_none s1 nS
    have nRS : S ≠ R := fun z => by
      rw [z, upd_same] at nS
      cases nS
    have hR1 : (upd (upd H R (.lst xs)) S (.lst [])) R = some (.lst xs) := s2 _ _ upd_same
    have hS1 : (upd (upd H R (.lst xs)) S (.lst [])) S = some (.lst []) := upd_same
    have s12 := s1.trans s2
    generalize upd (upd H R (.lst xs)) S (.lst []) = H1 at hR1 hS1 s12 ⊢
    refine ⟨fun m σ H' => ∃ xs1 rs1 ys2 rs2, σ = [some (.ref p), some (.ref a), some (.ref R), some (.ref S)] ∧ PB p H H' ∧ PenAt H' p (U + rs2.length) ∧ H' R = some (.lst xs1) ∧ Al (RecR H') xs1 rs1 ∧ H' S = some (.lst ys2) ∧ Al (RecR H') ys2 rs2 ∧ (rs1 ++ rs2).Perm rs ∧ m = rs1.length,
      ⟨_, xs, rs, [], [], rfl, PB.of s12, pn.same s12, hR1, al_same RecR.stab s12 (recs_al hR), hS1, Al.nil, by rw [List.append_nil], rfl⟩, ?_⟩
    rintro m σ H2 ⟨xs1, rs1, ys2, rs2, rfl, pb2, pn2, hR2, al1, hS2, al2, pm, rfl⟩
    refine ⟨_, rfl, by show 0 ≤ sizeLine; decide, fun E nE => ?_⟩
    have s3 := same_new (o := .lst []) nE
    have hR3 := s3 _ _ hR2
    have al13 := al_same RecR.stab s3 al1
    have hE3 : (upd H2 E (.lst [])) E = some (.lst []) := upd_same
    have pb3 := pb2.trans (PB.of s3)
    have pn3 := pn2.same s3
    have hS3 := s3 _ _ hS2
    have al23 := al_same RecR.stab s3 al2
    generalize upd H2 E (.lst []) = H3 at s3 hR3 al13 hE3 pb3 pn3 hS3 al23 ⊢
    refine ⟨.list (rs1.map recD), .list [], .lst (.inl (.inl hR3)) (dp_recs K al13), .lst (.inl (.inl hE3)) .nil, flat_shaped (fun d hd => by obtain ⟨r, _, rfl⟩ := List.mem_map.mp hd; exact flat_rec r), flat_shaped (fun _ z => nomatch z), _, rfl, ?_⟩
    rw [eqv_nil]
    have plen := pm.length_eq
    rw [List.length_append] at plen
    by_cases hz : rs1 = []
    · subst hz
      refine iteF ?_
      rw [List.nil_append] at pm
      exact ⟨_, rfl, q H3 S ys2 rs2 pb3 (pn3.mono (by simp at plen; omega)) (al_recs al23 hS3) pm⟩
    · have he : (!(rs1.map recD).isEmpty) = true := by
        cases rs1 with
        | nil => exact absurd rfl hz
        | cons a b => rfl
      rw [he]
      refine iteT ?_
      have l1 := List.length_pos_iff.mpr hz
      have el1 := al13.len
      refine ⟨fun σ' H' => ∃ xs1 rs1' ys2 rs2, σ' = [some (.ref p), some (.ref a), some (.ref R), some (.ref S)] ∧ PB p H H' ∧ PenAt H' p (U + rs2.length) ∧ H' R = some (.lst xs1) ∧ Al (RecR H') xs1 rs1' ∧ H' S = some (.lst ys2) ∧ Al (RecR H') ys2 rs2 ∧ (rs1' ++ rs2).Perm rs ∧ rs1'.length < rs1.length,
        fun σ' H' ⟨xs1, rs1', ys2, rs2, e1, e2, e3, e4, e5, e6, e7, e8, e9⟩ => ⟨_, e9, xs1, rs1', ys2, rs2, e1, e2, e3, e4, e5, e6, e7, e8, rfl⟩, ?_⟩
      refine ⟨_, rfl, .inl ⟨rfl, _, .inl (.inl hS3)⟩, _, rfl, .inl ⟨rfl, _, .inl (.inl hR3)⟩, _, rfl, _, rfl, R, _, rfl, .inl (.inl (.inl hR3)), p, xs1.length, U + rs2.length, rfl, pn3, by omega, by omega, by omega, fun H4 d pb4 pn4 d0 d1 => ?_⟩
      obtain ⟨k, rfl⟩ := Int.eq_ofNat_of_zero_le d0
      have hk : k < xs1.length := by omega
      have hR4 := pb4.sb _ _ hR3 (pen_ne pn3 hR3 (fun _ z => by cases z))
      have hS4 := pb4.sb _ _ hS3 (pen_ne pn3 hS3 (fun _ z => by cases z))
      have al14 := al13.pen pn3 pb4.sb
      have al24 := al23.pen pn3 pb4.sb
      have pb34 := pb3.trans pb4
      have hy : xs1[k]? = some xs1[k] := List.getElem?_eq_getElem hk
      obtain ⟨r, er, hr⟩ := al14.back hy
      refine ⟨R, xs1, (k : Int), k, xs1[k], rfl, rfl, hR4, by omega, by omega, seq_ix hk, hy, ?_⟩
      have sn5 : SameN H4 (upd H4 R (.lst (xs1.eraseIdx k))) := SameN.lst hR4
      have hS5 : (upd H4 R (.lst (xs1.eraseIdx k))) S = some (.lst ys2) := by
        rw [upd_ne nRS]
        exact hS4
      have pb5 := PB.mut (o := .lst (xs1.eraseIdx k)) pn pb34 nR
      have pn5 := PenAt.mut (o := .lst (xs1.eraseIdx k)) pn pb34 pn4 nR
      refine ⟨S, ys2, xs1[k], rfl, rfl, hS5, small_lt (by have := al24.len; omega), ?_⟩
      generalize xs1[k] = y at hy hr ⊢
      have sn6 : SameN (upd H4 R (.lst (xs1.eraseIdx k))) (upd (upd H4 R (.lst (xs1.eraseIdx k))) S (.lst (ys2 ++ [y]))) := SameN.lst hS5
      have sn := sn5.trans sn6
      refine ⟨xs1.eraseIdx k, rs1.eraseIdx k, ys2 ++ [y], rs2 ++ [r], rfl, PB.mut pn pb5 nSH, ?_, ?_, (al14.erase k).mono fun x r h => RecR.stab _ _ _ _ sn h, upd_same, (al24.mono fun x r h => RecR.stab _ _ _ _ sn h).snoc (RecR.stab _ _ _ _ sn hr), ?_, ?_⟩
      · have := PenAt.mut (o := .lst (ys2 ++ [y])) pn pb5 pn5 nSH
        exact this.mono (by rw [List.length_append, List.length_singleton]; omega)
      · rw [upd_ne nRS.symm]
        exact upd_same
      · have h1 := perm_erase er
        have h2 : (rs1.eraseIdx k ++ (rs2 ++ [r])).Perm ((r :: rs1.eraseIdx k) ++ rs2) := by
          rw [← List.append_assoc]
          exact (List.perm_append_comm (l₁ := rs1.eraseIdx k ++ rs2) (l₂ := [r]))
        exact (h2.trans (h1.append_right rs2)).trans pm
      · have := (perm_erase er).length_eq
        rw [List.length_cons] at this
        omega
end
end KN

/-! ## KX -/
set_option Elab.async false
set_option linter.all false
set_option maxRecDepth 100000
set_option maxHeartbeats 4000000
/-! records, loose. -/
namespace KN
open PySem PySem.Spec PyProof.Rows L2 LamX NdefX
theorem intZ {R : Int → Hp → Prop} {C : Int → Hp → Prop} {G : Prop} (b : (∀ p H, C p H → R p H) → G) (a : ∀ p H, C p H → R p H) : G := b a
theorem strZ {R : Str → Hp → Prop} {C : Str → Hp → Prop} {G : Prop} (b : (∀ p H, C p H → R p H) → G) (a : ∀ p H, C p H → R p H) : G := b a
theorem RuleAt.pen {H H' : Hp} {p r : Addr} {U : Nat} {a b c : Int} (h : RuleAt H r a b c) (pn : PenAt H p U) (s : PB p H H') : RuleAt H' r a b c := s.sb _ _ h (pen_ne pn h (fun _ z => by cases z))
section
variable {P : Program} {w : World} {K : PySem.W.Frag} {mg : Str → Option Value} {base : Heap}
def spRecs : Sp := fun vs H Q _ => ∃ (p r : Addr) (a b c m f : Int) (U : Nat), vs = [.ref p, .ref r, .int m, .int f] ∧ RuleAt H r a b c ∧ RuleB a b c ∧ 0 ≤ m ∧ m ≤ 8 ∧ 0 ≤ f ∧ f ≤ 12 ∧ PenAt H p U ∧ U < 2 ^ 56 ∧
  ∀ (H' : Hp) (S : Addr) (ys : List V) (ss : List Rec), PB p H H' → PenAt H' p (U + 1000) → H S = none → RecsAt H' S ys ss → ss.length ≤ 8 → (∀ x ∈ ss, FitR a b c x) → Q (.ref S) H'
theorem ok_lrecords (T : Tx K mg) : Cal P w K mg base 4 "_law_records" p_lrecords spRecs := by
  obtain ⟨fd, F⟩ := f_lrecords T
  have GD : Cal P w K mg base 1 "_law_draw" p_ldraw spDraw := ok_ldraw T
  have GN : Cal P w K mg base 2 "_law_natural" p_lnatural spNat := ok_lnatural T
  have GI : Cal P w K mg base 3 "_law_integer" p_linteger spInt := ok_linteger T
  have GP : Cal P w K mg base 2 "_law_pick" p_lpick spPick := ok_lpick T
  have GC : Cal P w K mg base 1 "_law_count_at" p_lcount_at spCnt := ok_lcount_at T
  refine ⟨_, fd, g_lrecords T, F.kp, okD F sc_lrecords (fun vs H Q E h => ?_) (fun cdv A outer s H vs Q E hr h => ?_), F.bindsN fun _ _ _ _ _ _ us hl => match us, hl with | [_, _, _, _], _ => rfl⟩
  · obtain ⟨p, r, a, b, c, m, f, U, rfl, _⟩ := h
    rfl
  · obtain ⟨p, r, a, b, c, m, f, U, rfl, hr0, rb, m0, m8, f0, f12, pn, U60, q⟩ := h
    have h1 := hr.mono (show 1 ≤ 3 by decide)
    have h2 := hr.mono (show 2 ≤ 3 by decide)
    refine ⟨_, (pss_cons (ps_par (i := 4) (j := 5) rfl sc_lrecords.nd rfl rfl (by decide) rfl rfl (pa_cons (pe_lst pa_nil) (pa_cons (pe_cal GD h1 (by rfl) (pa_cons (pv 0) (pa_cons (pe_int) pa_nil))) pa_nil)) (by rfl)) (pss_cons (ps_for PassesOwn.never rfl (pi_range1 (by rfl) (t_range T) (pa_cons (pe_cal GD h1 (by rfl) (pa_cons (pv 0) (pa_cons (pe_op op_add (pv 2) pe_int) pa_nil))) pa_nil)) (pg_name (i := 6) sc_lrecords.nd rfl (Or.inl rfl))
        (pss_cons (ps_set (i := 7) sc_lrecords.nd rfl (Or.inl rfl) (pe_ifExp (PW.pt (pw_or (pt_cmpR op_lt (pv 3) pe_int (nomark _)) (pw_or1 (pt_cmpR op_eq (pe_cal GD h1 (by rfl) (pa_cons (pv 0) (pa_cons (pe_int) pa_nil))) pe_int (nomark _))))) (pe_op op_sub (pe_cal GD h1 (by rfl) (pa_cons (pv 0) (pa_cons (pe_int) pa_nil))) pe_int) (pe_cal GI hr (by rfl) (pa_cons (pv 0) (pa_cons (pv 3) pa_nil))))) (pss_cons (ps_set (i := 8) sc_lrecords.nd rfl (Or.inl rfl) (pe_cal GP h2 (by rfl) (pa_cons (pv 0) (pa_cons (pe_lst (pa_cons (pe_int) (pa_cons (pe_int) (pa_cons (pe_int) (pa_cons (pe_int) (pa_cons (pe_int) (pa_cons (pe_cal GD h1 (by rfl) (pa_cons (pv 0) (pa_cons (pe_int) pa_nil))) (pa_cons (pe_cal GN h2 (by rfl) (pa_cons (pv 0) (pa_cons (pe_callB (call_min2 rfl) (by rfl) (t_min T) b_min (pa_cons (pv 3) (pa_cons (pe_op op_add pe_int (pe_op op_fdiv (pv 3) pe_int)) pa_nil))) pa_nil))) pa_nil)))))))) pa_nil)))) (pss_cons (ps_set (i := 9) sc_lrecords.nd rfl (Or.inl rfl) (pe_ifExp (pt_cmpR op_lt (pv 5) pe_int (nomark _)) (pe_ix ix_list (pe_lst (pa_cons (pe_str) (pa_cons (pe_str) pa_nil))) (pv 5) (fun _ _ => rfl)) (pe_cal GP h2 (by rfl) (pa_cons (pv 0) (pa_cons (pe_lst (pa_cons (pe_str) (pa_cons (pe_str) pa_nil))) pa_nil))))) (pss_cons (ps_set (i := 10) sc_lrecords.nd rfl (Or.inl rfl) (pe_cal GC h1 (by rfl) (pa_cons (pv 1) (pa_cons (pv 7) pa_nil)))) (pss_one (ps_expr (pe_bm PySem.F.plainAttrs_list PySem.F.slot_list_append PySem.F.type_list_append mt_append (pv 4) (pa_cons (pe_tup (pa_cons (pv 9) (pa_cons (pv 7) (pa_cons (pe_ifExp (pt_cmpR op_eq (pv 9) pe_str (nomark _)) (pe_op op_sub (pv 10) (pv 8)) (pe_op op_add (pv 10) (pv 8))) pa_nil)))) pa_nil))))))))) (pss_one (ps_ret (pv 4))))), ?_⟩
    refine ⟨by show 0 ≤ sizeLine; decide, fun S nS => ?_⟩
    have s1 := same_new (o := .lst []) nS
    refine ⟨_, rfl, p, 8, U, rfl, pn.same s1, by omega, by decide, by decide, fun H1 srt pb1 pn1 so0 so1 => ⟨_, _, rfl, ?_⟩⟩
    have pbs := (PB.of s1).trans pb1
    have hS1 : H1 S = some (.lst []) := pb1.sb _ _ upd_same (pen_ne (pn.same s1) upd_same (fun _ z => by cases z))
    have hr1 := hr0.pen pn pbs
    refine ⟨_, rfl, _, rfl, _, _, rfl, rfl, p, m + 1, U + 1, rfl, pn1, by omega, by omega, by omega, fun H2 many pb2 pn2 mm0 mm1 => ?_⟩
    have hS2 := pb2.sb _ _ hS1 (pen_ne pn1 hS1 (fun _ z => by cases z))
    have hr2 := hr1.pen pn1 pb2
    have pbs2 := pbs.trans pb2
    refine ⟨many, rfl, by omega, by omega, for_range (lo := 0) (n := many.toNat) (fun i σ H' => ∃ (ys : List V) (ss : List Rec) (u6 u7 u8 u9 u10 : Option V), σ = [some (.ref p), some (.ref r), some (.int m), some (.int f), some (.ref S), some (.int srt), u6, u7, u8, u9, u10] ∧ PB p H H' ∧ PenAt H' p (U + 2 + 40 * i) ∧ H' S = some (.lst ys) ∧ Al (RecR H') ys ss ∧ (∀ x ∈ ss, FitR a b c x) ∧ ss.length = i ∧ RuleAt H' r a b c)
      ⟨[], [], none, none, none, none, none, rfl, pbs2, pn2, hS2, Al.nil, (fun _ z => nomatch z), rfl, hr2⟩ ?_ ?_⟩
    · rintro i σ H3 hi ⟨ys, ss, u6, u7, u8, u9, u10, rfl, pb3, pn3, hS3, al3, ft, sl, hr3⟩
      have i8 : i < 9 := by omega
      have U3 : U + 2 + 40 * i < 2 ^ 57 := by omega
      -- the time
      apply intZ (C := fun t H4 => t.natAbs < 2 ^ 44 ∧ PB p H3 H4 ∧ PenAt H4 p (U + 2 + 40 * i + 7))
      · intro rest
        refine ⟨_, rfl, _, _, rfl, rfl, _, rfl, ite2 (fun _ => ?_) (fun _ => ?_)⟩
        · refine iteT ?_
          refine ⟨_, rfl, p, 41, U + 2 + 40 * i, rfl, pn3, by clear rest; omega, by decide, by decide, fun H4 d pb4 pn4 d0 d1 => ?_⟩
          refine ⟨_, _, rfl, rfl, ?_⟩
          have h : (d - 20).natAbs < 2 ^ 44 ∧ PB p H3 H4 ∧ PenAt H4 p (U + 2 + 40 * i + 7) := ⟨by clear rest; omega, pb4, pn4.mono (by clear rest; omega)⟩
          dsimp only
          generalize d - 20 = t at h ⊢
          exact rest t H4 h
        · refine ⟨_, rfl, p, 2, U + 2 + 40 * i, rfl, pn3, by clear rest; omega, by decide, by decide, fun H4 d pb4 pn4 d0 d1 => ?_⟩
          refine ⟨rfl, _, rfl, ite2 (fun _ => ?_) (fun _ => ?_)⟩
          · refine ⟨_, rfl, p, 41, U + 2 + 40 * i + 1, rfl, pn4, by clear rest; omega, by decide, by decide, fun H5 d pb5 pn5 d0 d1 => ?_⟩
            refine ⟨_, _, rfl, rfl, ?_⟩
            have h : (d - 20).natAbs < 2 ^ 44 ∧ PB p H3 H5 ∧ PenAt H5 p (U + 2 + 40 * i + 7) := ⟨by clear rest; omega, pb4.trans pb5, pn5.mono (by clear rest; omega)⟩
            exact rest (d - 20) H5 h
          · refine ⟨_, rfl, _, rfl, p, f, U + 2 + 40 * i + 1, rfl, f0, f12, pn4, by clear rest; omega, fun H5 d pb5 pn5 d1 => ?_⟩
            have h : d.natAbs < 2 ^ 44 ∧ PB p H3 H5 ∧ PenAt H5 p (U + 2 + 40 * i + 7) := ⟨by clear rest; omega, pb4.trans pb5, pn5⟩
            exact rest d H5 h
      · rintro t H4 ⟨tb, pb4, pn4⟩
        have hS4 := pb4.sb _ _ hS3 (pen_ne pn3 hS3 (fun _ z => by cases z))
        have al4 := al3.pen pn3 pb4.sb
        have hr4 := hr3.pen pn3 pb4
        -- the slack
        refine ⟨_, rfl, _, rfl, p, 9, _, rfl, pn4, by omega, by decide, by decide, fun H5 s9 pb5 pn5 s90 s91 => ?_⟩
        refine ⟨_, rfl, _, rfl, _, rfl, _, _, rfl, rfl, ⟨by decide, by decide⟩, _, _, rfl, rfl, _, _, rfl, p, _, _, rfl, by split <;> omega, by split <;> omega, pn5, by omega, fun H6 sn pb6 pn6 sn0 sn1 => ?_⟩
        refine ⟨by show 7 ≤ sizeLine; decide, fun L nL => ?_⟩
        have s7 := same_new (o := .lst [.int 0, .int 0, .int 0, .int 1, .int 2, .int s9, .int sn]) nL
        refine ⟨p, L, _, _, rfl, upd_same, (fun z => nomatch z), by show 7 ≤ 1000; decide, pn6.same s7, by omega, fun H7 x pb7 pn7 hx => ?_⟩
        have pb47 := ((pb5.trans pb6).trans (PB.of s7)).trans pb7
        obtain ⟨sk, rfl, sk0, sk1⟩ : ∃ sk : Int, x = .int sk ∧ 0 ≤ sk ∧ sk < 2 ^ 40 := by
          simp only [List.mem_cons, List.not_mem_nil, or_false] at hx
          rcases hx with rfl | rfl | rfl | rfl | rfl | rfl | rfl
          · exact ⟨0, rfl, by decide, by decide⟩
          · exact ⟨0, rfl, by decide, by decide⟩
          · exact ⟨0, rfl, by decide, by decide⟩
          · exact ⟨1, rfl, by decide, by decide⟩
          · exact ⟨2, rfl, by decide, by decide⟩
          · exact ⟨s9, rfl, s90, by omega⟩
          · exact ⟨sn, rfl, sn0, sn1⟩
        have hS7 := pb47.sb _ _ hS4 (pen_ne pn4 hS4 (fun _ z => by cases z))
        have al7 := al4.pen pn4 pb47.sb
        have hr7 := hr4.pen pn4 pb47
        have pb07 := (pb3.trans pb4).trans pb47
        -- the kind
        apply strZ (C := fun kd H8 => (kd = "at least" ∨ kd = "at most") ∧ PB p H7 H8 ∧ PenAt H8 p (U + 2 + 40 * i + 20))
        · intro rest
          refine ⟨_, rfl, _, _, rfl, rfl, _, rfl, ite2 (fun e => ?ka) (fun _ => ?kb)⟩
          case kb =>
            refine ⟨_, rfl, by show 2 ≤ sizeLine; decide, fun L2 nL2 => ?_⟩
            have s8 := same_new (o := .lst [.str "at least", .str "at most"]) nL2
            refine ⟨p, L2, _, _, rfl, upd_same, (fun z => nomatch z), by show 2 ≤ 1000; decide, pn7.same s8, by clear rest; omega, fun H8 x pb8 pn8 hx => ?_⟩
            obtain ⟨kd, rfl, hkd⟩ : ∃ kd : Str, x = .str kd ∧ (kd = "at least" ∨ kd = "at most") := by
              clear rest
              simp only [List.mem_cons, List.not_mem_nil, or_false] at hx
              rcases hx with rfl | rfl
              · exact ⟨_, rfl, .inl rfl⟩
              · exact ⟨_, rfl, .inr rfl⟩
            exact rest kd H8 ⟨hkd, (PB.of s8).trans pb8, pn8.mono (by clear rest; omega)⟩
          case ka =>
            have e2 : srt < 2 := of_decide_eq_true e
            refine ⟨by show 2 ≤ sizeLine; decide, fun L2 nL2 => ?_⟩
            have s8 := same_new (o := .lst [.str "at least", .str "at most"]) nL2
            have pn8 := (pn7.same s8).mono (show U + 2 + 40 * i + 7 + 1 + 5 + 1 ≤ U + 2 + 40 * i + 20 by clear rest; omega)
            have e3 : srt = 0 ∨ srt = 1 := by clear rest; omega
            rcases e3 with e3 | e3
            · refine ⟨_, rfl, L2, _, _, .str "at least", rfl, rfl, .inl (.inl upd_same), by rw [e3]; exact atI_nat (j := 0) rfl, ?_⟩
              exact rest "at least" _ ⟨.inl rfl, PB.of s8, pn8⟩
            · refine ⟨_, rfl, L2, _, _, .str "at most", rfl, rfl, .inl (.inl upd_same), by rw [e3]; exact atI_nat (j := 1) rfl, ?_⟩
              exact rest "at most" _ ⟨.inr rfl, PB.of s8, pn8⟩
        · rintro kd H8 ⟨hkd, pb8, pn8⟩
          have hS8 := pb8.sb _ _ hS7 (pen_ne pn7 hS7 (fun _ z => by cases z))
          have al8 := al7.pen pn7 pb8.sb
          have hr8 := hr7.pen pn7 pb8
          have pb08 := pb07.trans pb8
          have bq := rb.qb
          refine ⟨_, rfl, _, rfl, r, a, b, c, t, rfl, hr8, rb.q0, by omega, by omega, ?_⟩
          refine ⟨_, rfl, .inl ⟨rfl, _, .inl (.inl hS8)⟩, ?_⟩
          rcases hkd with rfl | rfl
          · refine ⟨_, rfl, _, rfl, _, rfl, rfl, true, congrArg V.bl (decide_eq_true rfl), iteT ?_⟩
            refine ⟨_, rfl, _, rfl, _, _, rfl, rfl, by show 3 ≤ sizeLine; decide, fun t2 nt2 => ?_⟩
            have s9 := same_new (o := .tup [.str "at least", .int t, .int ((a * t + c) / b - sk)]) nt2
            have hS9 := s9 _ _ hS8
            refine ⟨S, ys, _, rfl, rfl, hS9, small_lt (by rw [al8.len]; omega), ?_⟩
            have sn : SameN (upd H8 t2 (.tup [.str "at least", .int t, .int ((a * t + c) / b - sk)])) (upd (upd H8 t2 (.tup [.str "at least", .int t, .int ((a * t + c) / b - sk)])) S (.lst (ys ++ [.ref t2]))) := SameN.lst hS9
            have pb9 := pb08.trans (PB.of s9)
            refine ⟨ys ++ [.ref t2], ss ++ [⟨true, t, (a * t + c) / b - sk⟩], _, _, _, _, _, rfl, PB.mut pn pb9 nS, (PenAt.mut pn pb9 (pn8.same s9) nS).mono (by omega), upd_same, ?_, ?_, by rw [List.length_append, List.length_singleton, sl], ?_⟩
            · exact ((al_same RecR.stab s9 al8).mono fun x y h => RecR.stab _ _ _ _ sn h).snoc ⟨t2, rfl, sn _ _ upd_same (fun _ z => by cases z)⟩
            · intro x hx
              rcases List.mem_append.mp hx with hx | hx
              · exact ft x hx
              · rw [List.mem_singleton.mp hx]
                exact rb.lo tb sk0 (by omega)
            · exact sn _ _ (s9 _ _ hr8) (fun _ z => by cases z)
          · refine ⟨_, rfl, _, rfl, _, rfl, rfl, false, congrArg V.bl (by decide +kernel), iteF ?_⟩
            refine ⟨_, rfl, _, rfl, _, _, rfl, rfl, by show 3 ≤ sizeLine; decide, fun t2 nt2 => ?_⟩
            have s9 := same_new (o := .tup [.str "at most", .int t, .int ((a * t + c) / b + sk)]) nt2
            have hS9 := s9 _ _ hS8
            refine ⟨S, ys, _, rfl, rfl, hS9, small_lt (by rw [al8.len]; omega), ?_⟩
            have sn : SameN (upd H8 t2 (.tup [.str "at most", .int t, .int ((a * t + c) / b + sk)])) (upd (upd H8 t2 (.tup [.str "at most", .int t, .int ((a * t + c) / b + sk)])) S (.lst (ys ++ [.ref t2]))) := SameN.lst hS9
            have pb9 := pb08.trans (PB.of s9)
            refine ⟨ys ++ [.ref t2], ss ++ [⟨false, t, (a * t + c) / b + sk⟩], _, _, _, _, _, rfl, PB.mut pn pb9 nS, (PenAt.mut pn pb9 (pn8.same s9) nS).mono (by omega), upd_same, ?_, ?_, by rw [List.length_append, List.length_singleton, sl], ?_⟩
            · exact ((al_same RecR.stab s9 al8).mono fun x y h => RecR.stab _ _ _ _ sn h).snoc ⟨t2, rfl, sn _ _ upd_same (fun _ z => by cases z)⟩
            · intro x hx
              rcases List.mem_append.mp hx with hx | hx
              · exact ft x hx
              · rw [List.mem_singleton.mp hx]
                exact rb.hi tb sk0 (by omega)
            · exact sn _ _ (s9 _ _ hr8) (fun _ z => by cases z)
    · rintro σ H3 ⟨ys, ss, u6, u7, u8, u9, u10, rfl, pb3, pn3, hS3, al3, ft, sl, hr3⟩
      exact ⟨_, rfl, q H3 S ys ss pb3 (pn3.mono (by omega)) nS (al_recs al3 hS3) (by omega) ft⟩
end
end KN

/-! ## KY -/
set_option Elab.async false
set_option linter.all false
set_option maxRecDepth 100000
set_option maxHeartbeats 4000000
/-! loose, near, far, cycle. -/
namespace KN
open PySem PySem.Spec PyProof.Rows L2 LamX NdefX
section
variable {P : Program} {w : World} {K : PySem.W.Frag} {mg : Str → Option Value} {base : Heap}
def spLoose : Sp := fun vs H Q _ => ∃ (p r : Addr) (a b c m f : Int) (U : Nat), vs = [.ref p, .ref r, .int m, .int f] ∧ RuleAt H r a b c ∧ RuleB a b c ∧ 0 ≤ m ∧ m ≤ 27 ∧ 0 ≤ f ∧ f ≤ 12 ∧ PenAt H p U ∧ U < 2 ^ 56 ∧
  ∀ (H' : Hp) (S : Addr) (ys : List V) (ss : List Rec), PB p H H' → PenAt H' p (U + 1000) → H S = none → RecsAt H' S ys ss → ss.length ≤ 27 → (∀ x ∈ ss, FitR a b c x) → Q (.ref S) H'
theorem ok_lloose (T : Tx K mg) : Cal P w K mg base 4 "_law_loose" p_lloose spLoose := by
  obtain ⟨fd, F⟩ := f_lloose T
  have GD : Cal P w K mg base 1 "_law_draw" p_ldraw spDraw := ok_ldraw T
  have GI : Cal P w K mg base 3 "_law_integer" p_linteger spInt := ok_linteger T
  have GC : Cal P w K mg base 1 "_law_count_at" p_lcount_at spCnt := ok_lcount_at T
  refine ⟨_, fd, g_lloose T, F.kp, okD F sc_lloose (fun vs H Q E h => ?_) (fun cdv A outer s H vs Q E hr h => ?_), F.bindsN fun _ _ _ _ _ _ us hl => match us, hl with | [_, _, _, _], _ => rfl⟩
  · obtain ⟨p, r, a, b, c, m, f, U, rfl, _⟩ := h
    rfl
  · obtain ⟨p, r, a, b, c, m, f, U, rfl, hr0, rb, m0, m8, f0, f12, pn, U60, q⟩ := h
    have h1 := hr.mono (show 1 ≤ 3 by decide)
    have bq := rb.qb
    refine ⟨_, (pss_cons (ps_set (i := 4) sc_lloose.nd rfl (Or.inl rfl) (pe_lst pa_nil)) (pss_cons (ps_for PassesOwn.never rfl (pi_range1 (by rfl) (t_range T) (pa_cons (pv 2) pa_nil)) (pg_name (i := 5) sc_lloose.nd rfl (Or.inl rfl))
        (pss_cons (ps_set (i := 6) sc_lloose.nd rfl (Or.inl rfl) (pe_cal GI hr (by rfl) (pa_cons (pv 0) (pa_cons (pv 3) pa_nil)))) (pss_cons (ps_par (i := 7) (j := 8) rfl sc_lloose.nd rfl rfl (by decide) rfl rfl (pa_cons (pe_cal GC h1 (by rfl) (pa_cons (pv 1) (pa_cons (pv 6) pa_nil))) (pa_cons (pe_op op_add pe_int (pe_cal GD h1 (by rfl) (pa_cons (pv 0) (pa_cons (pe_int) pa_nil)))) pa_nil)) (by rfl)) (pss_one (ps_expr (pe_bm PySem.F.plainAttrs_list PySem.F.slot_list_append PySem.F.type_list_append mt_append (pv 4) (pa_cons (pe_ifExp (pt_cmpR op_eq (pe_cal GD h1 (by rfl) (pa_cons (pv 0) (pa_cons (pe_int) pa_nil))) pe_int (nomark _)) (pe_tup (pa_cons (pe_str) (pa_cons (pv 6) (pa_cons (pe_op op_sub (pv 7) (pv 8)) pa_nil)))) (pe_tup (pa_cons (pe_str) (pa_cons (pv 6) (pa_cons (pe_op op_add (pv 7) (pv 8)) pa_nil))))) pa_nil))))))) (pss_one (ps_ret (pv 4))))), ?_⟩
    refine ⟨by show 0 ≤ sizeLine; decide, fun S nS => ?_⟩
    have s1 := same_new (o := .lst []) nS
    refine ⟨_, rfl, m, rfl, by omega, by omega, for_range (lo := 0) (n := m.toNat) (fun i σ H' => ∃ (ys : List V) (ss : List Rec) (u5 u6 u7 u8 : Option V), σ = [some (.ref p), some (.ref r), some (.int m), some (.int f), some (.ref S), u5, u6, u7, u8] ∧ PB p H H' ∧ PenAt H' p (U + 20 * i) ∧ H' S = some (.lst ys) ∧ Al (RecR H') ys ss ∧ (∀ x ∈ ss, FitR a b c x) ∧ ss.length = i ∧ RuleAt H' r a b c)
      ⟨[], [], none, none, none, none, rfl, PB.of s1, pn.same s1, upd_same, Al.nil, (fun _ z => nomatch z), rfl, s1 _ _ hr0⟩ ?_ ?_⟩
    · rintro i σ H3 hi ⟨ys, ss, u5, u6, u7, u8, rfl, pb3, pn3, hS3, al3, ft, sl, hr3⟩
      refine ⟨_, rfl, _, rfl, p, f, _, rfl, f0, f12, pn3, by omega, fun H4 t pb4 pn4 tb => ?_⟩
      have hr4 := hr3.pen pn3 pb4
      refine ⟨_, rfl, _, rfl, r, a, b, c, t, rfl, hr4, rb.q0, by omega, by omega, ?_⟩
      refine ⟨_, rfl, p, 90, _, rfl, pn4, by omega, by decide, by decide, fun H5 sp pb5 pn5 sp0 sp1 => ⟨_, _, rfl, rfl, _, _, rfl, ?_⟩⟩
      have pb35 := pb4.trans pb5
      have hS5 := pb35.sb _ _ hS3 (pen_ne pn3 hS3 (fun _ z => by cases z))
      refine ⟨_, rfl, .inl ⟨rfl, _, .inl (.inl hS5)⟩, ?_⟩
      refine ⟨_, rfl, p, 2, _, rfl, pn5, by omega, by decide, by decide, fun H8 d pb8 pn8 d0 d1 => ?_⟩
      have hS8 := pb8.sb _ _ hS5 (pen_ne pn5 hS5 (fun _ z => by cases z))
      have al8 := al3.pen pn3 (pb35.trans pb8).sb
      have hr8 := hr3.pen pn3 (pb35.trans pb8)
      have pb08 := pb3.trans (pb35.trans pb8)
      refine ⟨rfl, _, rfl, ite2 (fun _ => ?_) (fun _ => ?_)⟩
      · refine ⟨_, rfl, _, rfl, _, rfl, _, _, rfl, rfl, by show 3 ≤ sizeLine; decide, fun t2 nt2 => ?_⟩
        have s9 := same_new (o := .tup [.str "at least", .int t, .int ((a * t + c) / b - (3 + sp))]) nt2
        have hS9 := s9 _ _ hS8
        refine ⟨S, ys, _, rfl, rfl, hS9, small_lt (by rw [al8.len]; omega), ?_⟩
        have sn : SameN (upd H8 t2 (.tup [.str "at least", .int t, .int ((a * t + c) / b - (3 + sp))])) (upd (upd H8 t2 (.tup [.str "at least", .int t, .int ((a * t + c) / b - (3 + sp))])) S (.lst (ys ++ [.ref t2]))) := SameN.lst hS9
        have pb9 := pb08.trans (PB.of s9)
        refine ⟨ys ++ [.ref t2], ss ++ [⟨true, t, (a * t + c) / b - (3 + sp)⟩], _, _, _, _, rfl, PB.mut pn pb9 nS, (PenAt.mut pn pb9 (pn8.same s9) nS).mono (by omega), upd_same, ?_, ?_, by rw [List.length_append, List.length_singleton, sl], ?_⟩
        · exact ((al_same RecR.stab s9 al8).mono fun x y h => RecR.stab _ _ _ _ sn h).snoc ⟨t2, rfl, sn _ _ upd_same (fun _ z => by cases z)⟩
        · intro x hx
          rcases List.mem_append.mp hx with hx | hx
          · exact ft x hx
          · rw [List.mem_singleton.mp hx]
            exact rb.lo (by omega) (by omega) (by omega)
        · exact sn _ _ (s9 _ _ hr8) (fun _ z => by cases z)
      · refine ⟨_, rfl, _, rfl, _, rfl, _, _, rfl, rfl, by show 3 ≤ sizeLine; decide, fun t2 nt2 => ?_⟩
        have s9 := same_new (o := .tup [.str "at most", .int t, .int ((a * t + c) / b + (3 + sp))]) nt2
        have hS9 := s9 _ _ hS8
        refine ⟨S, ys, _, rfl, rfl, hS9, small_lt (by rw [al8.len]; omega), ?_⟩
        have sn : SameN (upd H8 t2 (.tup [.str "at most", .int t, .int ((a * t + c) / b + (3 + sp))])) (upd (upd H8 t2 (.tup [.str "at most", .int t, .int ((a * t + c) / b + (3 + sp))])) S (.lst (ys ++ [.ref t2]))) := SameN.lst hS9
        have pb9 := pb08.trans (PB.of s9)
        refine ⟨ys ++ [.ref t2], ss ++ [⟨false, t, (a * t + c) / b + (3 + sp)⟩], _, _, _, _, rfl, PB.mut pn pb9 nS, (PenAt.mut pn pb9 (pn8.same s9) nS).mono (by omega), upd_same, ?_, ?_, by rw [List.length_append, List.length_singleton, sl], ?_⟩
        · exact ((al_same RecR.stab s9 al8).mono fun x y h => RecR.stab _ _ _ _ sn h).snoc ⟨t2, rfl, sn _ _ upd_same (fun _ z => by cases z)⟩
        · intro x hx
          rcases List.mem_append.mp hx with hx | hx
          · exact ft x hx
          · rw [List.mem_singleton.mp hx]
            exact rb.hi (by omega) (by omega) (by omega)
        · exact sn _ _ (s9 _ _ hr8) (fun _ z => by cases z)
    · rintro σ H3 ⟨ys, ss, u5, u6, u7, u8, rfl, pb3, pn3, hS3, al3, ft, sl, hr3⟩
      exact ⟨_, rfl, q H3 S ys ss pb3 (pn3.mono (by omega)) nS (al_recs al3 hS3) (by omega) ft⟩
def spCyc : Sp := fun vs H Q _ => ∃ (p : Addr) (U : Nat), vs = [.ref p] ∧ PenAt H p U ∧ U < 2 ^ 56 ∧ ∀ (H' : Hp) (n : Int), PB p H H' → PenAt H' p (U + 20) → 0 < n → n ≤ 117649 → Q (.int n) H'
theorem ok_lcycle (T : Tx K mg) : Cal P w K mg base 3 "_law_cycle" p_lcycle spCyc := by
  obtain ⟨fd, F⟩ := f_lcycle T
  have GD : Cal P w K mg base 1 "_law_draw" p_ldraw spDraw := ok_ldraw T
  have GP : Cal P w K mg base 2 "_law_pick" p_lpick spPick := ok_lpick T
  refine ⟨_, fd, g_lcycle T, F.kp, okD F sc_lcycle (fun vs H Q E h => ?_) (fun cdv A outer s H vs Q E hr h => ?_), F.bindsN fun _ _ _ _ _ _ us hl => match us, hl with | [_], _ => rfl⟩
  · obtain ⟨p, U, rfl, _⟩ := h
    rfl
  · obtain ⟨p, U, rfl, pn, U60, q⟩ := h
    have h1 := hr.mono (show 1 ≤ 2 by decide)
    refine ⟨_, (pss_cons (ps_set (i := 1) sc_lcycle.nd rfl (Or.inl rfl) pe_int) (pss_cons (ps_for PassesOwn.never rfl (pi_range1 (by rfl) (t_range T) (pa_cons (pe_cal GD h1 (by rfl) (pa_cons (pv 0) (pa_cons (pe_int) pa_nil))) pa_nil)) (pg_name (i := 2) sc_lcycle.nd rfl (Or.inl rfl))
        (pss_one (ps_set (i := 1) sc_lcycle.nd rfl (Or.inl rfl) (pe_op op_mul (pv 1) (pe_cal GP hr (by rfl) (pa_cons (pv 0) (pa_cons (pe_lst (pa_cons (pe_int) (pa_cons (pe_int) (pa_cons (pe_int) (pa_cons (pe_int) (pa_cons (pe_int) pa_nil)))))) pa_nil))))))) (pss_one (ps_ret (pe_ifExp (pt_cmpR op_gt (pe_cal GD h1 (by rfl) (pa_cons (pv 0) (pa_cons (pe_int) pa_nil))) pe_int (nomark _)) (pv 1) (pe_op op_add pe_int (pe_cal GD h1 (by rfl) (pa_cons (pv 0) (pa_cons (pe_int) pa_nil))))))))), ?_⟩
    refine ⟨_, rfl, p, 7, U, rfl, pn, by omega, by decide, by decide, fun H1 m pb1 pn1 m0 m1 => ?_⟩
    refine ⟨m, rfl, by omega, by omega, for_range (lo := 0) (n := m.toNat) (fun i σ H' => ∃ (r : Int) (u2 : Option V), σ = [some (.ref p), some (.int r), u2] ∧ PB p H H' ∧ PenAt H' p (U + 1 + i) ∧ 0 < r ∧ r ≤ 7 ^ i)
      ⟨1, none, rfl, pb1, pn1, by decide, by decide⟩ ?_ ?_⟩
    · rintro i σ H2 hi ⟨r, u2, rfl, pb2, pn2, r0, r1⟩
      refine ⟨_, rfl, _, rfl, by show 5 ≤ sizeLine; decide, fun L nL => ?_⟩
      have s3 := same_new (o := .lst [.int 2, .int 2, .int 3, .int 5, .int 7]) nL
      refine ⟨p, L, _, _, rfl, upd_same, (fun z => nomatch z), by show 5 ≤ 1000; decide, pn2.same s3, by omega, fun H4 x pb4 pn4 hx => ?_⟩
      obtain ⟨k, rfl, k0, k1⟩ : ∃ k : Int, x = .int k ∧ 0 < k ∧ k ≤ 7 := by
        simp only [List.mem_cons, List.not_mem_nil, or_false] at hx
        rcases hx with rfl | rfl | rfl | rfl | rfl
        · exact ⟨2, rfl, by decide, by decide⟩
        · exact ⟨2, rfl, by decide, by decide⟩
        · exact ⟨3, rfl, by decide, by decide⟩
        · exact ⟨5, rfl, by decide, by decide⟩
        · exact ⟨7, rfl, by decide, by decide⟩
      refine ⟨_, _, rfl, rfl, .inr ⟨by omega, by omega⟩, r * k, _, rfl, (pb2.trans (PB.of s3)).trans pb4, pn4, Int.mul_pos r0 k0, ?_⟩
      rw [Int.pow_succ]
      have h1 : r * k ≤ r * 7 := Int.mul_le_mul_of_nonneg_left k1 (Int.le_of_lt r0)
      omega
    · rintro σ H2 ⟨r, u2, rfl, pb2, pn2, r0, r1⟩
      have r7 : r ≤ 117649 := by
        have h : (7 : Nat) ^ m.toNat ≤ 7 ^ 6 := Nat.pow_le_pow_right (by decide) (by omega)
        have h2 : (7 : Int) ^ m.toNat ≤ 7 ^ 6 := by exact_mod_cast h
        have e : (7 : Int) ^ 6 = 117649 := by decide
        omega
      refine ⟨_, rfl, p, 3, _, rfl, pn2, by omega, by decide, by decide, fun H3 d pb3 pn3 d0 d1 => ?_⟩
      refine ⟨_, _, rfl, rfl, _, rfl, ite2 (fun _ => ?_) (fun _ => ?_)⟩
      · exact ⟨_, rfl, q H3 r (pb2.trans pb3) (pn3.mono (by omega)) r0 r7⟩
      · refine ⟨_, rfl, p, 700, _, rfl, pn3, by omega, by decide, by decide, fun H4 d2 pb4 pn4 d20 d21 => ?_⟩
        exact ⟨_, _, rfl, rfl, q H4 _ ((pb2.trans pb3).trans pb4) (pn4.mono (by omega)) (by omega) (by omega)⟩
end
end KN

/-! ## KZ -/
set_option Elab.async false
set_option linter.all false
set_option maxRecDepth 100000
set_option maxHeartbeats 4000000
/-! near, far. -/
namespace KN
open PySem PySem.Spec PyProof.Rows L2 LamX NdefX
theorem pb_none {p S : Addr} {U : Nat} {H H' : Hp} (pn : PenAt H p U) (s : PB p H H') (n : H' S = none) : H S = none := by
  obtain ⟨D, zs, t, l, h1, h2, h3⟩ := pn
  cases e : H S with
  | none => rfl
  | some o =>
    exfalso
    by_cases z : S = p
    · obtain ⟨t', l', h4⟩ := s.dd D t l h1
      rw [z, h4] at n
      cases n
    · rw [s.sb _ _ e z] at n
      cases n
theorem good_of {p q c : Int} {rs : List Rec} (b : RuleB p q c) (f : ∀ r ∈ rs, FitR p q c r) (len : rs.length ≤ 200) (two : ∃ a ∈ rs, ∃ u ∈ rs, a.lo = true ∧ u.lo = false ∧ a.t < u.t) : Good rs :=
  ⟨len, ⟨p, q, c, b.p0, b.q0, fun r h => (f r h).lo, fun r h => (f r h).hi, fun r h => (f r h).tb, fun r h => (f r h).nb⟩, two⟩
theorem push_rec {H H8 : Hp} {p S t1 : Addr} {ys : List V} {ss : List Rec} {U V : Nat} (x : Rec) (pn : PenAt H p V) (pb : PB p H H8) (pn8 : PenAt H8 p U) (nS : H S = none) (hS8 : H8 S = some (.lst ys)) (al : Al (RecR H8) ys ss) (nt : H8 t1 = none) :
    PB p H (upd (upd H8 t1 (.tup x.v)) S (.lst (ys ++ [.ref t1]))) ∧ PenAt (upd (upd H8 t1 (.tup x.v)) S (.lst (ys ++ [.ref t1]))) p U ∧ Al (RecR (upd (upd H8 t1 (.tup x.v)) S (.lst (ys ++ [.ref t1])))) (ys ++ [.ref t1]) (ss ++ [x]) ∧ SameN H8 (upd (upd H8 t1 (.tup x.v)) S (.lst (ys ++ [.ref t1]))) := by
  have s9 := same_new (o := .tup x.v) nt
  have hS9 := s9 _ _ hS8
  have sn : SameN (upd H8 t1 (.tup x.v)) (upd (upd H8 t1 (.tup x.v)) S (.lst (ys ++ [.ref t1]))) := SameN.lst hS9
  have pb9 := pb.trans (PB.of s9)
  exact ⟨PB.mut pn pb9 nS, PenAt.mut pn pb9 (pn8.same s9) nS, ((al_same RecR.stab s9 al).mono fun x y h => RecR.stab _ _ _ _ sn h).snoc ⟨t1, rfl, sn _ _ upd_same (fun _ z => by cases z)⟩, (SameN.of s9).trans sn⟩
section
variable {P : Program} {w : World} {K : PySem.W.Frag} {mg : Str → Option Value} {base : Heap}
def spNear : Sp := fun vs H Q _ => ∃ (p : Addr) (m : Int) (U : Nat), vs = [.ref p, .int m] ∧ 2 ≤ m ∧ m ≤ 8 ∧ PenAt H p U ∧ U < 2 ^ 55 ∧
  ∀ (H' : Hp) (b : Addr) (ys : List V) (rs : List Rec), PB p H H' → PenAt H' p (U + 3000) → RecsAt H' b ys rs → Good rs → Q (.ref b) H'
theorem ok_lnear (T : Tx K mg) : Cal P w K mg base 5 "_law_near" p_lnear spNear := by
  obtain ⟨fd, F⟩ := f_lnear T
  have GD : Cal P w K mg base 1 "_law_draw" p_ldraw spDraw := ok_ldraw T
  have GH : Cal P w K mg base 4 "_law_hidden" p_lhidden spHid := ok_lhidden T
  have GG : Cal P w K mg base 1 "_law_gcd" p_lgcd spGcdL := ok_lgcd T
  have GL : Cal P w K mg base 4 "_law_loose" p_lloose spLoose := ok_lloose T
  have GC : Cal P w K mg base 1 "_law_count_at" p_lcount_at spCnt := ok_lcount_at T
  have GS : Cal P w K mg base 2 "_law_shuffled" p_lshuffled spShuf := ok_lshuffled T
  have GR : Cal P w K mg base 4 "_law_records" p_lrecords spRecs := ok_lrecords T
  refine ⟨_, fd, g_lnear T, F.kp, okD F sc_lnear (fun vs H Q E h => ?_) (fun cdv A outer s H vs Q E hr h => ?_), F.bindsN fun _ _ _ _ _ _ us hl => match us, hl with | [_, _], _ => rfl⟩
  · obtain ⟨p, m, U, rfl, _⟩ := h
    rfl
  · obtain ⟨p, m, U, rfl, m2, m8, pn, U60, q⟩ := h
    have h1 := hr.mono (show 1 ≤ 4 by decide)
    have h2 := hr.mono (show 2 ≤ 4 by decide)
    refine ⟨_, (pss_cons (ps_asg (pe_cal GH hr (by rfl) (pa_cons (pv 0) (pa_cons (pe_int) pa_nil))) (pg_tup rfl (pgs_cons (pg_name (i := 2) sc_lnear.nd rfl (Or.inl rfl)) (pgs_cons (pg_name (i := 3) sc_lnear.nd rfl (Or.inl rfl)) (pgs_cons (pg_name (i := 4) sc_lnear.nd rfl (Or.inl rfl)) pgs_nil))))) (pss_cons (ps_set (i := 5) sc_lnear.nd rfl (Or.inl rfl) (pe_cal GG h1 (by rfl) (pa_cons (pe_op op_mod (pv 2) pe_int) (pa_cons (pv 3) pa_nil)))) (pss_cons (ps_set (i := 6) sc_lnear.nd rfl (Or.inl rfl) (pe_tup (pa_cons (pe_op op_fdivW (pe_op op_mod (pv 2) pe_int) (pv 5)) (pa_cons (pe_op op_fdivW (pv 3) (pv 5)) (pa_cons (pv 4) pa_nil))))) (pss_cons (ps_set (i := 7) sc_lnear.nd rfl (Or.inl rfl) (pe_cal GL hr (by rfl) (pa_cons (pv 0) (pa_cons (pv 6) (pa_cons (pe_ifExp (pt_cmpR op_eq (pe_cal GD h1 (by rfl) (pa_cons (pv 0) (pa_cons (pe_int) pa_nil))) pe_int (nomark _)) (pe_op op_add pe_int (pe_cal GD h1 (by rfl) (pa_cons (pv 0) (pa_cons (pe_int) pa_nil)))) pe_int) (pa_cons (pe_int) pa_nil)))))) (pss_cons (ps_par (i := 8) (j := 9) rfl sc_lnear.nd rfl rfl (by decide) rfl rfl (pa_cons (pe_op op_sub (pe_cal GD h1 (by rfl) (pa_cons (pv 0) (pa_cons (pe_int) pa_nil))) pe_int) (pa_cons (pe_op op_add pe_int (pe_cal GD h1 (by rfl) (pa_cons (pv 0) (pa_cons (pe_int) pa_nil)))) pa_nil)) (by rfl)) (pss_cons (ps_expr (pe_bm PySem.F.plainAttrs_list PySem.F.slot_list_append PySem.F.type_list_append mt_append (pv 7) (pa_cons (pe_tup (pa_cons (pe_str) (pa_cons (pv 8) (pa_cons (pe_op op_sub (pe_cal GC h1 (by rfl) (pa_cons (pv 6) (pa_cons (pv 8) pa_nil))) (pe_cal GD h1 (by rfl) (pa_cons (pv 0) (pa_cons (pe_int) pa_nil)))) pa_nil)))) pa_nil))) (pss_cons (ps_expr (pe_bm PySem.F.plainAttrs_list PySem.F.slot_list_append PySem.F.type_list_append mt_append (pv 7) (pa_cons (pe_tup (pa_cons (pe_str) (pa_cons (pe_op op_add (pv 8) (pv 9)) (pa_cons (pe_op op_add (pe_cal GC h1 (by rfl) (pa_cons (pv 6) (pa_cons (pe_op op_add (pv 8) (pv 9)) pa_nil))) (pe_cal GD h1 (by rfl) (pa_cons (pv 0) (pa_cons (pe_int) pa_nil)))) pa_nil)))) pa_nil))) (pss_one (ps_ret (pe_op op_cat (pe_cal GS h2 (by rfl) (pa_cons (pv 0) (pa_cons (pv 7) pa_nil))) (pe_cal GR hr (by rfl) (pa_cons (pv 0) (pa_cons (pv 6) (pa_cons (pe_op op_sub (pv 1) pe_int) (pa_cons (pe_int) pa_nil))))))))))))))), ?_⟩
    refine ⟨_, rfl, p, 1, U, rfl, by decide, by decide, pn, by omega, fun H1 r0 a0 b0 c pb1 pn1 hr1 rb0 => ?_⟩
    refine ⟨r0, _, rfl, .inl (.inl hr1), rfl, .int a0, _, rfl, .int b0, _, rfl, .int c, [], rfl, rfl, ?_⟩
    have rb1 : RuleB (a0 % 5) b0 c := ⟨Int.emod_nonneg _ (by decide), rb0.q0, by have := Int.emod_lt_of_pos a0 (show (0 : Int) < 5 by decide); have := Int.emod_nonneg a0 (show (5 : Int) ≠ 0 by decide); omega, rb0.qb, rb0.cb⟩
    obtain ⟨rb, k2, k3⟩ := rb1.red
    have b42 := rb0.qb
    refine ⟨_, rfl, _, _, rfl, rfl, (by show (0 : Int) < 5; decide), _, rfl, a0 % 5, b0, rfl, ?_⟩
    have dg : ∀ x : Int, CDivW x ((Int.gcd (a0 % 5) b0 : Nat) : Int) := fun x => dw k2 (by have : (2 : Nat) ^ 60 ≤ 2 ^ 2000 := Nat.pow_le_pow_right (by decide) (by decide); omega)
    refine ⟨_, rfl, _, _, rfl, rfl, (by show (0 : Int) < 5; decide), _, rfl, _, _, rfl, rfl, dg _, _, rfl, _, rfl, _, _, rfl, rfl, dg _, _, rfl, by show 3 ≤ sizeLine; decide, fun r nr => ?_⟩
    dsimp only
    generalize a0 % 5 / ((Int.gcd (a0 % 5) b0 : Nat) : Int) = a at rb ⊢
    generalize b0 / ((Int.gcd (a0 % 5) b0 : Nat) : Int) = b at rb ⊢
    have s2 := same_new (o := .tup [.int a, .int b, .int c]) nr
    have hr2 : RuleAt (upd H1 r (.tup [.int a, .int b, .int c])) r a b c := upd_same
    have pb2 := pb1.trans (PB.of s2)
    have pn2 := pn1.same s2
    show tSeq _ _ _ _ (upd H1 r (.tup [.int a, .int b, .int c]))
    generalize upd H1 r (.tup [.int a, .int b, .int c]) = H2 at s2 hr2 pb2 pn2 ⊢
    have bq := rb.qb
    -- loose records
    apply intZ (C := fun k H4 => 0 ≤ k ∧ k ≤ 27 ∧ PB p H2 H4 ∧ PenAt H4 p (U + 22))
    · intro rest
      refine ⟨_, rfl, _, rfl, _, rfl, p, 6, _, rfl, pn2, by clear rest; omega, by decide, by decide, fun H3 d pb3 pn3 d0 d1 => ?_⟩
      refine ⟨rfl, _, rfl, ite2 (fun _ => ?_) (fun _ => ?_)⟩
      · refine ⟨_, rfl, p, 15, _, rfl, pn3, by clear rest; omega, by decide, by decide, fun H4 d2 pb4 pn4 d20 d21 => ?_⟩
        refine ⟨_, _, rfl, rfl, ?_⟩
        have h : 0 ≤ 13 + d2 ∧ 13 + d2 ≤ 27 ∧ PB p H2 H4 ∧ PenAt H4 p (U + 22) := ⟨by clear rest; omega, by clear rest; omega, pb3.trans pb4, pn4⟩
        dsimp only
        generalize 13 + d2 = k at h ⊢
        exact rest k H4 h
      · exact rest 0 H3 ⟨by decide, by decide, pb3, pn3.mono (show U + 20 + 1 ≤ U + 22 by clear rest; omega)⟩
    · rintro k H4 ⟨k0, k27, pb4, pn4⟩
      have hr4 := hr2.pen pn2 pb4
      have pb04 := pb2.trans pb4
      refine ⟨p, r, a, b, c, k, 1, _, rfl, hr4, rb, k0, k27, by decide, by decide, pn4, by omega, fun H5 S ys ss pb5 pn5 nS hS ssl sft => ?_⟩
      have nS0 : H S = none := pb_none pn pb04 nS
      have hr5 := hr4.pen pn4 pb5
      refine ⟨_, rfl, p, 21, _, rfl, pn5, by omega, by decide, by decide, fun H6 t0 pb6 pn6 t00 t01 => ?_⟩
      refine ⟨_, _, rfl, rfl, _, rfl, p, 12, _, rfl, pn6, by omega, by decide, by decide, fun H7 w0 pb7 pn7 w00 w01 => ⟨_, _, rfl, rfl, _, _, rfl, ?_⟩⟩
      have pb57 := pb6.trans pb7
      have hr7 := hr5.pen pn5 pb57
      have hS7 := pb57.sb _ _ hS.at_ (pen_ne pn5 hS.at_ (fun _ z => by cases z))
      have al7 := (recs_al hS).pen pn5 pb57.sb
      have pb07 := (pb04.trans pb5).trans pb57
      refine ⟨_, rfl, .inl ⟨rfl, _, .inl (.inl hS7)⟩, ?_⟩
      refine ⟨_, rfl, _, rfl, _, rfl, r, a, b, c, t0 - 10, rfl, hr7, rb.q0, by omega, by omega, _, rfl, p, 3, _, rfl, pn7, by omega, by decide, by decide, fun H8 d8 pb8 pn8 d80 d81 => ?_⟩
      refine ⟨_, _, rfl, rfl, by show 3 ≤ sizeLine; decide, fun t1 nt1 => ?_⟩
      have hS8 := pb8.sb _ _ hS7 (pen_ne pn7 hS7 (fun _ z => by cases z))
      have al8 := al7.pen pn7 pb8.sb
      have hr8 := hr7.pen pn7 pb8
      refine ⟨S, ys, _, rfl, rfl, same_new nt1 _ _ hS8, small_lt (by rw [al8.len]; omega), ?_⟩
      obtain ⟨pb9, pn9, al9, sn9⟩ := push_rec ⟨true, t0 - 10, (a * (t0 - 10) + c) / b - d8⟩ pn (pb07.trans pb8) pn8 nS0 hS8 al8 nt1
      have hS9 : (upd (upd H8 t1 (.tup (Rec.v ⟨true, t0 - 10, (a * (t0 - 10) + c) / b - d8⟩))) S (.lst (ys ++ [.ref t1]))) S = some (.lst (ys ++ [.ref t1])) := upd_same
      have hr9 : RuleAt (upd (upd H8 t1 (.tup (Rec.v ⟨true, t0 - 10, (a * (t0 - 10) + c) / b - d8⟩))) S (.lst (ys ++ [.ref t1]))) r a b c := sn9 _ _ hr8 (fun _ z => by cases z)
      show tSeq _ _ _ _ (upd (upd H8 t1 (.tup (Rec.v ⟨true, t0 - 10, (a * (t0 - 10) + c) / b - d8⟩))) S (.lst (ys ++ [.ref t1])))
      generalize upd (upd H8 t1 (.tup (Rec.v ⟨true, t0 - 10, (a * (t0 - 10) + c) / b - d8⟩))) S (.lst (ys ++ [.ref t1])) = H9 at pb9 pn9 al9 sn9 hS9 hr9 ⊢
      -- the second record
      refine ⟨_, rfl, .inl ⟨rfl, _, .inl (.inl hS9)⟩, ?_⟩
      refine ⟨_, rfl, _, rfl, _, _, rfl, rfl, _, rfl, _, rfl, _, rfl, _, _, rfl, rfl, r, a, b, c, t0 - 10 + (1 + w0), rfl, hr9, rb.q0, by omega, by omega, _, rfl, p, 3, _, rfl, pn9, by omega, by decide, by decide, fun H10 d10 pb10 pn10 d100 d101 => ?_⟩
      refine ⟨_, _, rfl, rfl, by show 3 ≤ sizeLine; decide, fun t2 nt2 => ?_⟩
      have hS10 := pb10.sb _ _ hS9 (pen_ne pn9 hS9 (fun _ z => by cases z))
      have al10 := al9.pen pn9 pb10.sb
      have hr10 := hr9.pen pn9 pb10
      refine ⟨S, _, _, rfl, rfl, same_new nt2 _ _ hS10, small_lt (by rw [al10.len, List.length_append, List.length_singleton]; omega), ?_⟩
      obtain ⟨pb11, pn11, al11, sn11⟩ := push_rec ⟨false, t0 - 10 + (1 + w0), (a * (t0 - 10 + (1 + w0)) + c) / b + d10⟩ pn (pb9.trans pb10) pn10 nS0 hS10 al10 nt2
      have hS11 : (upd (upd H10 t2 (.tup (Rec.v ⟨false, t0 - 10 + (1 + w0), (a * (t0 - 10 + (1 + w0)) + c) / b + d10⟩))) S (.lst (ys ++ [.ref t1] ++ [.ref t2]))) S = some (.lst (ys ++ [.ref t1] ++ [.ref t2])) := upd_same
      have hr11 : RuleAt (upd (upd H10 t2 (.tup (Rec.v ⟨false, t0 - 10 + (1 + w0), (a * (t0 - 10 + (1 + w0)) + c) / b + d10⟩))) S (.lst (ys ++ [.ref t1] ++ [.ref t2]))) r a b c := sn11 _ _ hr10 (fun _ z => by cases z)
      have f1 : FitR a b c ⟨true, t0 - 10, (a * (t0 - 10) + c) / b - d8⟩ := rb.lo (by omega) d80 (by omega)
      have f2 : FitR a b c ⟨false, t0 - 10 + (1 + w0), (a * (t0 - 10 + (1 + w0)) + c) / b + d10⟩ := rb.hi (by omega) d100 (by omega)
      have ft : ∀ x ∈ ss ++ [⟨true, t0 - 10, (a * (t0 - 10) + c) / b - d8⟩] ++ [⟨false, t0 - 10 + (1 + w0), (a * (t0 - 10 + (1 + w0)) + c) / b + d10⟩], FitR a b c x := fun x hx => by
        rcases List.mem_append.mp hx with hx | hx
        · rcases List.mem_append.mp hx with hx | hx
          · exact sft x hx
          · rw [List.mem_singleton.mp hx]
            exact f1
        · rw [List.mem_singleton.mp hx]
          exact f2
      have m1 : (⟨true, t0 - 10, (a * (t0 - 10) + c) / b - d8⟩ : Rec) ∈ ss ++ [⟨true, t0 - 10, (a * (t0 - 10) + c) / b - d8⟩] ++ [⟨false, t0 - 10 + (1 + w0), (a * (t0 - 10 + (1 + w0)) + c) / b + d10⟩] := by simp
      have m3 : (⟨false, t0 - 10 + (1 + w0), (a * (t0 - 10 + (1 + w0)) + c) / b + d10⟩ : Rec) ∈ ss ++ [⟨true, t0 - 10, (a * (t0 - 10) + c) / b - d8⟩] ++ [⟨false, t0 - 10 + (1 + w0), (a * (t0 - 10 + (1 + w0)) + c) / b + d10⟩] := by simp
      have ml : (ss ++ [⟨true, t0 - 10, (a * (t0 - 10) + c) / b - d8⟩] ++ [⟨false, t0 - 10 + (1 + w0), (a * (t0 - 10 + (1 + w0)) + c) / b + d10⟩] : List Rec).length ≤ 29 := by
        rw [List.length_append, List.length_append, List.length_singleton, List.length_singleton]; omega
      have tw : ∃ x ∈ ss ++ [⟨true, t0 - 10, (a * (t0 - 10) + c) / b - d8⟩] ++ [⟨false, t0 - 10 + (1 + w0), (a * (t0 - 10 + (1 + w0)) + c) / b + d10⟩], ∃ u ∈ ss ++ [⟨true, t0 - 10, (a * (t0 - 10) + c) / b - d8⟩] ++ [⟨false, t0 - 10 + (1 + w0), (a * (t0 - 10 + (1 + w0)) + c) / b + d10⟩], x.lo = true ∧ u.lo = false ∧ x.t < u.t :=
        ⟨_, m1, _, m3, rfl, rfl, by show t0 - 10 < t0 - 10 + (1 + w0); omega⟩
      generalize ss ++ [⟨true, t0 - 10, (a * (t0 - 10) + c) / b - d8⟩] ++ [⟨false, t0 - 10 + (1 + w0), (a * (t0 - 10 + (1 + w0)) + c) / b + d10⟩] = rs at al11 ft ml tw
      -- shuffled, and more records
      refine ⟨_, rfl, _, rfl, p, S, _, rs, _, rfl, al_recs al11 hS11, by omega, pn11, by omega, fun H12 e zs es pb12 pn12 hE pm => ?_⟩
      have hr12 := hr11.pen pn11 pb12
      refine ⟨_, rfl, _, rfl, _, rfl, _, _, rfl, rfl, p, r, a, b, c, m - 2, 1, _, rfl, hr12, rb, by omega, by omega, by decide, by decide, pn12, by omega, fun H13 S2 ys2 ss2 pb13 pn13 nS2 hS2 l2 ft2 => ?_⟩
      have hE13 := pb13.sb _ _ hE.at_ (pen_ne pn12 hE.at_ (fun _ z => by cases z))
      have alE := (recs_al hE).pen pn12 pb13.sb
      have al2 := recs_al hS2
      have plen := pm.length_eq
      refine ⟨e, S2, zs, ys2, rfl, rfl, hE13, hS2.at_, Nat.le_of_lt (small_lt (by rw [alE.len, al2.len]; omega)), fun Z nZ => ?_⟩
      have s14 := same_new (o := .lst (zs ++ ys2)) nZ
      have al14 := al_same RecR.stab s14 (alE.append al2)
      refine q _ Z (zs ++ ys2) (es ++ ss2) (((pb11.trans pb12).trans pb13).trans (PB.of s14)) ((pn13.same s14).mono (by omega)) (al_recs al14 upd_same) (good_of rb (fun x hx => ?_) (by rw [List.length_append]; omega) ?_)
      · rcases List.mem_append.mp hx with hx | hx
        · exact ft x (pm.mem_iff.mp hx)
        · exact ft2 x hx
      · obtain ⟨x, hx, u, hu, e1, e2, e3⟩ := tw
        exact ⟨x, List.mem_append_left _ (pm.mem_iff.mpr hx), u, List.mem_append_left _ (pm.mem_iff.mpr hu), e1, e2, e3⟩
end
end KN

/-! ## KM -/
set_option Elab.async false
set_option linter.all false
set_option maxRecDepth 100000
set_option maxHeartbeats 4000000
/-! far; the plain part of law. -/
namespace M
def divs (q : Int) (n : Nat) : List Int := ((List.range n).map fun k : Nat => (1 : Int) + (k : Int)).filter fun d => decide (q / d * d = q)
theorem divs_succ (q : Int) (n : Nat) : divs q (n + 1) = divs q n ++ if q / (1 + (n : Int)) * (1 + (n : Int)) = q then [1 + (n : Int)] else [] := by
  unfold divs
  rw [List.range_succ, List.map_append, List.filter_append]
  congr 1
  by_cases h : q / (1 + (n : Int)) * (1 + (n : Int)) = q
  · simp [h]
  · simp [h]
theorem divs_mem {q : Int} {n : Nat} {d : Int} (h : d ∈ divs q n) : 1 ≤ d ∧ d ≤ n ∧ q / d * d = q := by
  obtain ⟨h1, h2⟩ := List.mem_filter.mp h
  obtain ⟨k, hk, rfl⟩ := List.mem_map.mp h1
  have := List.mem_range.mp hk
  exact ⟨by omega, by omega, of_decide_eq_true h2⟩
theorem divs_sum (q : Int) (f : Int → Int) : ∀ n : Nat, ((divs q n).map fun d => q / d * f d).sum = sumZ (fun d => if q / d * d = q then q / d * f d else 0) 1 (1 + (n : Int))
  | 0 => by
    rw [show (1 : Int) + ((0 : Nat) : Int) = 1 from rfl, sumZ_empty _ (Int.le_refl 1)]
    rfl
  | n + 1 => by
    rw [divs_succ, List.map_append, List.sum_append, divs_sum q f n, show (1 : Int) + ((n + 1 : Nat) : Int) = 1 + (n : Int) + 1 by omega, sumZ_succ _ (show (1 : Int) ≤ 1 + (n : Int) by omega)]
    congr 1
    by_cases h : q / (1 + (n : Int)) * (1 + (n : Int)) = q
    · rw [if_pos h, if_pos h]
      simp
    · rw [if_neg h, if_neg h]
      rfl
theorem divs_few {q : Int} (q0 : 0 < q) (q3 : q < 3000) (n : Nat) : (divs q n).length ≤ 200 := by
  have nd : (divs q n).Nodup := by
    unfold divs
    refine List.Nodup.sublist List.filter_sublist ?_
    refine List.Pairwise.map _ (fun a b h => ?_) List.nodup_range
    omega
  have sub : divs q n ⊆ (List.range 55).map (fun k : Nat => (k : Int)) ++ (List.range 55).map (fun k : Nat => q / (k : Int)) := by
    intro d hd
    obtain ⟨d1, d2, d3⟩ := divs_mem hd
    by_cases h : d < 55
    · refine List.mem_append_left _ (List.mem_map.mpr ⟨d.toNat, List.mem_range.mpr (by omega), by omega⟩)
    · have k0 : 0 < q / d := by
        refine lt_of_mul (s := d) (by omega) ?_
        rw [Int.mul_zero, Int.mul_comm]
        omega
      have k55 : q / d < 55 := by
        by_cases z : q / d < 55
        · exact z
        · have h1 : 55 * d ≤ q / d * d := Int.mul_le_mul_of_nonneg_right (by omega) (by omega)
          omega
      refine List.mem_append_right _ (List.mem_map.mpr ⟨(q / d).toNat, List.mem_range.mpr (by omega), ?_⟩)
      have e : ((q / d).toNat : Int) = q / d := Int.toNat_of_nonneg (by omega)
      show q / ((q / d).toNat : Int) = d
      rw [e]
      have e2 : q = q / d * d := d3.symm
      exact Int.ediv_eq_of_eq_mul_right (by omega) e2
  have := nd.length_le_of_subset sub
  rw [List.length_append, List.length_map, List.length_map, List.length_range] at this
  omega
def chk (p : Nat) : Nat → Bool
  | 0 => true
  | d + 1 => (decide (d + 1 < 2) || decide (p ≤ d + 1) || decide (p % (d + 1) ≠ 0)) && chk p d
theorem chk_ok {p : Nat} : ∀ {n : Nat}, chk p n = true → ∀ d : Nat, 1 < d → d ≤ n → d < p → ¬ d ∣ p
  | 0, _, d, h1, h2, _ => by omega
  | n + 1, h, d, h1, h2, h3 => by
    unfold chk at h
    obtain ⟨a, b⟩ := Bool.and_eq_true_iff.mp h
    by_cases e : d = n + 1
    · subst e
      intro hd
      have := Nat.mod_eq_zero_of_dvd hd
      simp only [Bool.or_eq_true, decide_eq_true_eq] at a
      omega
    · exact chk_ok b d h1 (by omega) h3
/-- a prime that is asked about -/
structure Pr (p : Int) : Prop where
  two : 2 ≤ p
  most : p ≤ 99999989
  pr : ∀ d : Int, 1 < d → d < p → ¬ d ∣ p
theorem pr_of {p : Nat} (h2 : 2 ≤ p) (h8 : p ≤ 99999989) (h : chk p 10000 = true) : Pr (p : Int) := by
  refine ⟨by omega, by omega, fun d d1 d2 hd => ?_⟩
  obtain ⟨n, rfl⟩ := Int.eq_ofNat_of_zero_le (show 0 ≤ d by omega)
  have hd' : n ∣ p := Int.natCast_dvd_natCast.mp hd
  by_cases z : n ≤ 10000
  · exact chk_ok h n (by omega) z (by omega) hd'
  · obtain ⟨k, rfl⟩ := hd'
    have k1 : 1 < k := by
      by_cases z2 : 1 < k
      · exact z2
      · have : k = 0 ∨ k = 1 := by omega
        rcases this with rfl | rfl
        · omega
        · omega
    have k2 : k ≤ 10000 := by
      by_cases z2 : k ≤ 10000
      · exact z2
      · have : 10001 * 10001 ≤ n * k := Nat.mul_le_mul (by omega) (by omega)
        omega
    refine chk_ok h k k1 k2 ?_ ⟨n, Nat.mul_comm n k⟩
    have : 2 * k ≤ n * k := Nat.mul_le_mul_right k (by omega)
    omega
theorem pr_2 : Pr 2 := pr_of (p := 2) (by decide) (by decide) (by decide +kernel)
theorem pr_3 : Pr 3 := pr_of (p := 3) (by decide) (by decide) (by decide +kernel)
theorem pr_5 : Pr 5 := pr_of (p := 5) (by decide) (by decide) (by decide +kernel)
theorem pr_7 : Pr 7 := pr_of (p := 7) (by decide) (by decide) (by decide +kernel)
theorem pr_11 : Pr 11 := pr_of (p := 11) (by decide) (by decide) (by decide +kernel)
theorem pr_13 : Pr 13 := pr_of (p := 13) (by decide) (by decide) (by decide +kernel)
theorem pr_101 : Pr 101 := pr_of (p := 101) (by decide) (by decide) (by decide +kernel)
theorem pr_99991 : Pr 99991 := pr_of (p := 99991) (by decide) (by decide) (by decide +kernel)
theorem pr_99999989 : Pr 99999989 := pr_of (p := 99999989) (by decide) (by decide) (by decide +kernel)
end M
namespace KN
open PySem PySem.Spec PyProof.Rows L2 LamX NdefX
section
variable {P : Program} {w : World} {K : PySem.W.Frag} {mg : Str → Option Value} {base : Heap}
def spFar : Sp := fun vs H Q _ => ∃ (p : Addr) (U : Nat), vs = [.ref p] ∧ PenAt H p U ∧ U < 2 ^ 55 ∧
  ∀ (H' : Hp) (b : Addr) (ys : List V) (rs : List Rec), PB p H H' → PenAt H' p (U + 3000) → RecsAt H' b ys rs → Good rs → Q (.ref b) H'
theorem ok_lfar (T : Tx K mg) : Cal P w K mg base 5 "_law_far" p_lfar spFar := by
  obtain ⟨fd, F⟩ := f_lfar T
  have GH : Cal P w K mg base 4 "_law_hidden" p_lhidden spHid := ok_lhidden T
  have GI : Cal P w K mg base 3 "_law_integer" p_linteger spInt := ok_linteger T
  have GN : Cal P w K mg base 2 "_law_natural" p_lnatural spNat := ok_lnatural T
  have GP : Cal P w K mg base 2 "_law_pick" p_lpick spPick := ok_lpick T
  have GC : Cal P w K mg base 1 "_law_count_at" p_lcount_at spCnt := ok_lcount_at T
  have GS : Cal P w K mg base 2 "_law_shuffled" p_lshuffled spShuf := ok_lshuffled T
  have GR : Cal P w K mg base 4 "_law_records" p_lrecords spRecs := ok_lrecords T
  refine ⟨_, fd, g_lfar T, F.kp, okD F sc_lfar (fun vs H Q E h => ?_) (fun cdv A outer s H vs Q E hr h => ?_), F.bindsN fun _ _ _ _ _ _ us hl => match us, hl with | [_], _ => rfl⟩
  · obtain ⟨p, U, rfl, _⟩ := h
    rfl
  · obtain ⟨p, U, rfl, pn, U60, q⟩ := h
    have h1 := hr.mono (show 1 ≤ 4 by decide)
    have h2 := hr.mono (show 2 ≤ 4 by decide)
    have h3 := hr.mono (show 3 ≤ 4 by decide)
    refine ⟨_, (pss_cons (ps_set (i := 1) sc_lfar.nd rfl (Or.inl rfl) (pe_cal GH hr (by rfl) (pa_cons (pv 0) (pa_cons (pe_int) pa_nil)))) (pss_cons (ps_set (i := 2) sc_lfar.nd rfl (Or.inl rfl) (pe_cal GI h3 (by rfl) (pa_cons (pv 0) (pa_cons (pe_int) pa_nil)))) (pss_cons (ps_set (i := 3) sc_lfar.nd rfl (Or.inl rfl) (pe_op op_add pe_int (pe_cal GN h2 (by rfl) (pa_cons (pv 0) (pa_cons (pe_cal GP h2 (by rfl) (pa_cons (pv 0) (pa_cons (pe_lst (pa_cons (pe_int) (pa_cons (pe_int) (pa_cons (pe_int) pa_nil)))) pa_nil))) pa_nil))))) (pss_cons (ps_set (i := 4) sc_lfar.nd rfl (Or.inl rfl) (pe_lst (pa_cons (pe_tup (pa_cons (pe_str) (pa_cons (pv 2) (pa_cons (pe_cal GC h1 (by rfl) (pa_cons (pv 1) (pa_cons (pv 2) pa_nil))) pa_nil)))) (pa_cons (pe_tup (pa_cons (pe_str) (pa_cons (pe_op op_add (pv 2) (pv 3)) (pa_cons (pe_cal GC h1 (by rfl) (pa_cons (pv 1) (pa_cons (pe_op op_add (pv 2) (pv 3)) pa_nil))) pa_nil)))) pa_nil)))) (pss_one (ps_ret (pe_cal GS h2 (by rfl) (pa_cons (pv 0) (pa_cons (pe_op op_cat (pv 4) (pe_cal GR hr (by rfl) (pa_cons (pv 0) (pa_cons (pv 1) (pa_cons (pe_int) (pa_cons (pe_int) pa_nil)))))) pa_nil))))))))), ?_⟩
    refine ⟨_, rfl, p, 9, U, rfl, by decide, by decide, pn, by omega, fun H1 r a b c pb1 pn1 hr1 rb => ?_⟩
    have bq := rb.qb
    refine ⟨_, rfl, p, 12, _, rfl, by decide, by decide, pn1, by omega, fun H2 t pb2 pn2 tb => ?_⟩
    have hr2 := hr1.pen pn1 pb2
    refine ⟨_, rfl, _, rfl, by show 3 ≤ sizeLine; decide, fun L nL => ?_⟩
    have s3 := same_new (o := .lst [.int 1, .int 6, .int 12]) nL
    refine ⟨p, L, _, _, rfl, upd_same, (fun z => nomatch z), by show 3 ≤ 1000; decide, pn2.same s3, by omega, fun H4 x pb4 pn4 hx => ?_⟩
    obtain ⟨f, rfl, f0, f12⟩ : ∃ k : Int, x = .int k ∧ 0 ≤ k ∧ k ≤ 12 := by
      simp only [List.mem_cons, List.not_mem_nil, or_false] at hx
      rcases hx with rfl | rfl | rfl
      · exact ⟨1, rfl, by decide, by decide⟩
      · exact ⟨6, rfl, by decide, by decide⟩
      · exact ⟨12, rfl, by decide, by decide⟩
    have pb24 := (PB.of s3).trans pb4
    refine ⟨p, f, _, rfl, f0, f12, pn4, by omega, fun H5 w0 pb5 pn5 w00 w01 => ⟨_, _, rfl, rfl, ?_⟩⟩
    have pb25 := pb24.trans pb5
    have hr5 := hr2.pen pn2 pb25
    have pb05 := (pb1.trans pb2).trans pb25
    refine ⟨_, rfl, _, rfl, _, rfl, r, a, b, c, t, rfl, hr5, rb.q0, by omega, by omega, by show 3 ≤ sizeLine; decide, fun t1 nt1 => ?_⟩
    have s6 := same_new (o := .tup [.str "at least", .int t, .int ((a * t + c) / b)]) nt1
    have hr6 : RuleAt (upd H5 t1 (.tup [.str "at least", .int t, .int ((a * t + c) / b)])) r a b c := s6 _ _ hr5
    have hw : (1 : Int) + w0 > 0 := by omega
    refine ⟨_, rfl, _, rfl, _, _, rfl, rfl, _, rfl, _, rfl, _, rfl, _, _, rfl, rfl, r, a, b, c, t + (1 + w0), rfl, hr6, rb.q0, by omega, by omega, by show 3 ≤ sizeLine; decide, fun t2 nt2 => ?_⟩
    have s7 := same_new (o := .tup [.str "at most", .int (t + (1 + w0)), .int ((a * (t + (1 + w0)) + c) / b)]) nt2
    refine ⟨by show 2 ≤ sizeLine; decide, fun S nS => ?_⟩
    have s8 := same_new (o := .lst [.ref t1, .ref t2]) nS
    have f1 : FitR a b c ⟨true, t, (a * t + c) / b⟩ := by
      have := rb.lo (t := t) (s := 0) (by omega) (by decide) (by decide)
      rw [Int.sub_zero] at this
      exact this
    have f2 : FitR a b c ⟨false, t + (1 + w0), (a * (t + (1 + w0)) + c) / b⟩ := by
      have := rb.hi (t := t + (1 + w0)) (s := 0) (by omega) (by decide) (by decide)
      rw [Int.add_zero] at this
      exact this
    have s68 := (s6.trans s7).trans s8
    have hS8 : (upd (upd (upd H5 t1 (.tup [.str "at least", .int t, .int ((a * t + c) / b)])) t2 (.tup [.str "at most", .int (t + (1 + w0)), .int ((a * (t + (1 + w0)) + c) / b)])) S (.lst [.ref t1, .ref t2])) S = some (.lst [.ref t1, .ref t2]) := upd_same
    have al8 : Al (RecR (upd (upd (upd H5 t1 (.tup [.str "at least", .int t, .int ((a * t + c) / b)])) t2 (.tup [.str "at most", .int (t + (1 + w0)), .int ((a * (t + (1 + w0)) + c) / b)])) S (.lst [.ref t1, .ref t2]))) [.ref t1, .ref t2] [⟨true, t, (a * t + c) / b⟩, ⟨false, t + (1 + w0), (a * (t + (1 + w0)) + c) / b⟩] :=
      (Al.nil.snoc ⟨t1, rfl, s8 _ _ (s7 _ _ upd_same)⟩).snoc ⟨t2, rfl, s8 _ _ upd_same⟩
    have pn8 := pn5.same s68
    have hr8 : RuleAt (upd (upd (upd H5 t1 (.tup [.str "at least", .int t, .int ((a * t + c) / b)])) t2 (.tup [.str "at most", .int (t + (1 + w0)), .int ((a * (t + (1 + w0)) + c) / b)])) S (.lst [.ref t1, .ref t2])) r a b c := s68 _ _ hr5
    have pb08 := pb05.trans (PB.of s68)
    refine ⟨_, rfl, _, rfl, _, rfl, _, rfl, p, r, a, b, c, 6, 12, _, rfl, hr8, rb, by decide, by decide, by decide, by decide, pn8, by omega, fun H9 S2 ys2 ss2 pb9 pn9 nS2 hS2 l2 ft2 => ?_⟩
    have hS9 := pb9.sb _ _ hS8 (pen_ne pn8 hS8 (fun _ z => by cases z))
    have al9 := al8.pen pn8 pb9.sb
    have al2 := recs_al hS2
    refine ⟨S, S2, _, ys2, rfl, rfl, hS9, hS2.at_, Nat.le_of_lt (small_lt (by rw [al9.len, al2.len]; show 2 + ss2.length ≤ 100000; omega)), fun Z nZ => ?_⟩
    have s10 := same_new (o := .lst ([.ref t1, .ref t2] ++ ys2)) nZ
    have al10 := al_same RecR.stab s10 (al9.append al2)
    have ft : ∀ x ∈ [⟨true, t, (a * t + c) / b⟩, ⟨false, t + (1 + w0), (a * (t + (1 + w0)) + c) / b⟩] ++ ss2, FitR a b c x := fun x hx => by
      rcases List.mem_append.mp hx with hx | hx
      · simp only [List.mem_cons, List.not_mem_nil, or_false] at hx
        rcases hx with rfl | rfl
        · exact f1
        · exact f2
      · exact ft2 x hx
    have ml : ([⟨true, t, (a * t + c) / b⟩, ⟨false, t + (1 + w0), (a * (t + (1 + w0)) + c) / b⟩] ++ ss2 : List Rec).length ≤ 200 := by
      rw [List.length_append]; show 2 + ss2.length ≤ 200; omega
    have tw : ∃ x ∈ [⟨true, t, (a * t + c) / b⟩, ⟨false, t + (1 + w0), (a * (t + (1 + w0)) + c) / b⟩] ++ ss2, ∃ u ∈ [⟨true, t, (a * t + c) / b⟩, ⟨false, t + (1 + w0), (a * (t + (1 + w0)) + c) / b⟩] ++ ss2, x.lo = true ∧ u.lo = false ∧ x.t < u.t :=
      ⟨⟨true, t, (a * t + c) / b⟩, by simp, ⟨false, t + (1 + w0), (a * (t + (1 + w0)) + c) / b⟩, by simp, rfl, rfl, by show t < t + (1 + w0); omega⟩
    refine ⟨p, Z, _, _, _, rfl, al_recs al10 upd_same, ml, pn9.same s10, by omega, fun H12 e zs es pb12 pn12 hE pm => ?_⟩
    refine q _ e zs es (((pb08.trans pb9).trans (PB.of s10)).trans pb12) (pn12.mono (by omega)) hE (good_of rb (fun x hx => ft x (pm.mem_iff.mp hx)) (by rw [pm.length_eq]; exact ml) ?_)
    obtain ⟨x, hx, u, hu, e1, e2, e3⟩ := tw
    exact ⟨x, pm.mem_iff.mpr hx, u, pm.mem_iff.mpr hu, e1, e2, e3⟩
end
end KN

/-! ## KW2 -/
set_option Elab.async false
set_option linter.all false
set_option maxRecDepth 100000
set_option maxHeartbeats 4000000
/-! law. -/
namespace KN
open PySem PySem.Spec PyProof.Rows L2 LamX NdefX
theorem tabs_pen {T : List (Addr × Str)} {H H' : Hp} {p : Addr} {U : Nat} (t : Tabs T H) (pn : PenAt H p U) (s : PB p H H') : Tabs T H' := by
  obtain ⟨D, zs, u, l, h1, h2, h3⟩ := pn
  exact tabs_but t s.sb h1 (fun _ z => by cases z) (fun _ _ z => by cases z)
theorem RecsAt.pen {H H' : Hp} {p a : Addr} {U : Nat} {xs : List V} {rs : List Rec} (h : RecsAt H a xs rs) (pn : PenAt H p U) (s : PB p H H') : RecsAt H' a xs rs :=
  al_recs ((recs_al h).pen pn s.sb) (s.sb _ _ h.at_ (pen_ne pn h.at_ (fun _ z => by cases z)))
theorem RecsAt.ext {H H' : Hp} {a : Addr} {xs : List V} {rs : List Rec} (h : RecsAt H a xs rs) (s : ExtN H H') : RecsAt H' a xs rs :=
  ⟨s _ _ h.at_ (fun _ z => by cases z), h.len, fun i r e => let ⟨b, e1, e2⟩ := h.get i r e; ⟨b, e1, s _ _ e2 (fun _ z => by cases z)⟩⟩
theorem heapZ {R C : Hp → Prop} {G : Prop} (b : (∀ H, C H → R H) → G) (a : ∀ H, C H → R H) : G := b a
theorem refZ {R C : Addr → Hp → Prop} {G : Prop} (b : (∀ p H, C p H → R p H) → G) (a : ∀ p H, C p H → R p H) : G := b a
section
variable {P : Program} {w : World} {K : PySem.W.Frag} {mg : Str → Option Value} {base : Heap}
def spLaw (K : PySem.W.Frag) : Sp := fun vs H Q _ => ∃ (a : Addr) (ns : List Int), vs = [.ref a] ∧ SqL K H a (ns.map V.int) ∧ ns.length ≤ 63 ∧ Tabs (Tl K) H ∧ ∀ H', Q (.bl true) H'
theorem ok_law (T : Tx K mg) (TB : TabB base mg (cLow K) (pLow K)) {fd : FuncData} (F : FunD K "law" "law" (defArgs s_law) (defBody s_law) (defScope s_law) [] [] (He.ga K "law") fd) : FnOk P w K mg base CX0 11 (He.ga K "law") fd p_law (spLaw K) := by
  have GPen : Cal P w K mg base 1 "_law_pen" p_lpen (spPen K) := ok_lpen T
  have GD : Cal P w K mg base 1 "_law_draw" p_ldraw spDraw := ok_ldraw T
  have GNear : Cal P w K mg base 5 "_law_near" p_lnear spNear := ok_lnear T
  have GFar : Cal P w K mg base 5 "_law_far" p_lfar spFar := ok_lfar T
  have GCy : Cal P w K mg base 3 "_law_cycle" p_lcycle spCyc := ok_lcycle T
  have GP : Cal P w K mg base 2 "_law_pick" p_lpick spPick := ok_lpick T
  have GCP : Cal P w K mg base 8 "count_pairs" p_count_pairs (spCount K M.Shape.pairs) := ok_count_pairs T TB
  have GCR : Cal P w K mg base 10 "count_rules" p_count_rules (spCount K M.Shape.rules) := ok_count_rules T TB
  refine okD F sc_law (fun vs H Q E h => ?_) (fun cdv A outer s H vs Q E hr h => ?_)
  · obtain ⟨a, ns, rfl, _⟩ := h
    rfl
  · obtain ⟨a, ns, rfl, ha, nl, hT, q⟩ := h
    have h1 := hr.mono (show 1 ≤ 10 by decide)
    have h2 := hr.mono (show 2 ≤ 10 by decide)
    have h3 := hr.mono (show 3 ≤ 10 by decide)
    have h5 := hr.mono (show 5 ≤ 10 by decide)
    have h8 := hr.mono (show 8 ≤ 10 by decide)
    refine ⟨_, (pss_cons (ps_set (i := 1) sc_law.nd rfl (Or.inl rfl) (pe_cal GPen h1 (by rfl) (pa_cons (pv 0) pa_nil))) (pss_cons (ps_for PassesOwn.never rfl (pi_range1 (by rfl) (t_range T) (pa_cons (pe_op op_add pe_int (pe_callB (call_min2 rfl) (by rfl) (t_min T) b_min (pa_cons (pe_int) (pa_cons (pe_callB call_len_seq (by rfl) (t_len T) b_len (pa_cons (pv 0) pa_nil)) pa_nil)))) pa_nil)) (pg_name (i := 2) sc_law.nd rfl (Or.inl rfl))
        (pss_cons (ps_asg (pe_tup (pa_cons (pe_ifExp (pt_cmpR op_eq (pe_cal GD h1 (by rfl) (pa_cons (pv 1) (pa_cons (pe_int) pa_nil))) pe_int (nomark _)) (pe_cal GNear h5 (by rfl) (pa_cons (pv 1) (pa_cons (pe_int) pa_nil))) (pe_cal GFar h5 (by rfl) (pa_cons (pv 1) pa_nil))) (pa_cons (pe_cal GCy h3 (by rfl) (pa_cons (pv 1) pa_nil)) pa_nil))) (pg_tup rfl (pgs_cons (pg_name (i := 3) sc_law.nd rfl (Or.inr rfl)) (pgs_cons (pg_name (i := 4) sc_law.nd rfl (Or.inr rfl)) pgs_nil)))) (pss_cons (ps_set (i := 5) sc_law.nd rfl (Or.inl rfl) (pe_ifExp (pt_cmpR op_lt (pv 4) pe_int (nomark _))
              (pe_slice sl_list (pe_lc (own := [("_law_d", 9)]) (g := gName 9) (tt := tTest (tOp rEq (tOp (rI CMul fun i j => .int (i * j)) (tOp (rI CDivW fun i j => .int (i / j)) (tVar 4) (tVar 9)) (tVar 9)) (tVar 4))) (te := tVar 9) rfl sc_law.nd (pi_range2 (by rfl) (t_range T) (pa_cons (pe_int) (pa_cons (pe_op op_add (pv 4) pe_int) pa_nil))) (blkOk_by (N := n_law) (sc := defScope s_law) (by decide +kernel))
                (fun _ _ _ _ _ => pg_name (i := 9) sc_law.nd rfl (Or.inl rfl)) (fun _ _ _ _ _ => pts_one (pt_cmpR op_eq (pe_op op_mul (pe_op op_fdivW (pv 4) (pv 9)) (pv 9)) (pv 4) (nomark _))) (fun _ _ _ _ _ => pv 9)) po_none (po_some pe_int))
              (pe_lst (pa_cons (pe_int) pa_nil)))) (pss_cons (ps_set (i := 6) sc_law.nd rfl (Or.inl rfl) (pe_callB (cr_sum rfl) (by rfl) (t_sum T) b_sum (pa_cons (pe_lc (own := [("_law_d", 9)]) (g := gName 9) (tt := tYes) (te := tOp (rI CMul fun i j => .int (i * j)) (tOp (rI CDivW fun i j => .int (i / j)) (tVar 4) (tVar 9)) (tCall (spCount K M.Shape.rules) [] E0 (tCons (tVar 3) (tCons (tVar 9) tNil)))) rfl sc_law.nd (pi_list (pv 5)) (blkOk_by (N := n_law) (sc := defScope s_law) (by decide +kernel))
                (fun _ _ _ _ _ => pg_name (i := 9) sc_law.nd rfl (Or.inl rfl)) (fun _ _ _ _ _ => pts_nil) (fun _ _ _ _ _ => pe_op op_mul (pe_op op_fdivW (pv 4) (pv 9)) (pe_cal GCR hr (by rfl) (pa_cons (pv 3) (pa_cons (pv 9) pa_nil))))) pa_nil))) (pss_cons (ps_if (PW.pt (pw_and (pt_cmpR op_lt (pv 4) pe_int (nomark _)) (pw_and1 (pt_cmpR op_ne (pe_cal GCP h8 (by rfl) (pa_cons (pv 3) (pa_cons (pv 4) pa_nil))) (pv 6) (nomark _))))) (pss_one (ps_ret pe_bl)) pss_nil) (pss_cons (ps_if (pt_cmpR op_ne (pe_cal GCP h8 (by rfl) (pa_cons (pv 3) (pa_cons (pe_int) pa_nil))) (pe_cal GCR hr (by rfl) (pa_cons (pv 3) (pa_cons (pe_int) pa_nil))) (nomark _)) (pss_one (ps_ret pe_bl)) pss_nil) (pss_cons (ps_set (i := 7) sc_law.nd rfl (Or.inl rfl) (pe_cal GP h2 (by rfl) (pa_cons (pv 1) (pa_cons (pe_lst (pa_cons (pe_int) (pa_cons (pe_int) (pa_cons (pe_int) (pa_cons (pe_int) (pa_cons (pe_int) (pa_cons (pe_int) (pa_cons (pe_int) (pa_cons (pe_int) (pa_cons (pe_int) pa_nil)))))))))) pa_nil)))) (pss_cons (ps_set (i := 8) sc_law.nd rfl (Or.inl rfl) (pe_op op_add (pe_cal GCR hr (by rfl) (pa_cons (pv 3) (pa_cons (pv 7) pa_nil))) (pe_op op_mul (pv 7) (pe_cal GCR hr (by rfl) (pa_cons (pv 3) (pa_cons (pe_int) pa_nil)))))) (pss_one (ps_if (pt_cmpR op_ne (pe_cal GCP h8 (by rfl) (pa_cons (pv 3) (pa_cons (pv 7) pa_nil))) (pv 8) (nomark _)) (pss_one (ps_ret pe_bl)) pss_nil)))))))))) (pss_one (ps_ret pe_bl)))), ?_⟩
    refine ⟨_, rfl, a, ns, rfl, ha, fun H1 p s1 pn1 => ?_⟩
    refine ⟨_, rfl, a, _, rfl, .inl (sqL_ext (ExtN.of s1) ha), _, _, rfl, _, _, rfl, rfl, _, rfl, by split <;> omega, by split <;> omega, for_range (lo := 0) (fun i σ H' => ∃ u2 u3 u4 u5 u6 u7 u8 : Option V, σ = [some (.ref a), some (.ref p), u2, u3, u4, u5, u6, u7, u8, none] ∧ Tabs (Tl K) H' ∧ PenAt H' p (6000 * i))
      ⟨none, none, none, none, none, none, none, rfl, hT.ext s1, pn1⟩ ?_ ?_⟩
    · rintro i σ H2 hi ⟨u2, u3, u4, u5, u6, u7, u8, rfl, tb2, pn2⟩
      have i5 : i < 5 := by split at hi <;> omega
      -- the records
      apply refZ (C := fun b H4 => Tabs (Tl K) H4 ∧ PenAt H4 p (6000 * i + 1 + 3000) ∧ ∃ ys rs, RecsAt H4 b ys rs ∧ Good rs)
      · intro rest
        refine ⟨_, rfl, p, 2, _, rfl, pn2, by clear rest; omega, by decide, by decide, fun H3 d pb3 pn3 d0 d1 => ?_⟩
        have tb3 := tabs_pen tb2 pn2 pb3
        refine ⟨rfl, _, rfl, ite2 (fun _ => ?_) (fun _ => ?_)⟩
        · exact ⟨_, rfl, p, 8, _, rfl, by decide, by decide, pn3, by clear rest; omega, fun H4 b ys rs pb4 pn4 hR gd => rest b H4 ⟨tabs_pen tb3 pn3 pb4, pn4, ys, rs, hR, gd⟩⟩
        · exact ⟨_, rfl, p, _, rfl, pn3, by clear rest; omega, fun H4 b ys rs pb4 pn4 hR gd => rest b H4 ⟨tabs_pen tb3 pn3 pb4, pn4, ys, rs, hR, gd⟩⟩
      · rintro b H4 ⟨tb4, pn4, ys, rs, hR4, gd⟩
        have ok := gd.ok
        -- the cycle
        refine ⟨_, rfl, p, _, rfl, pn4, by omega, fun H5 c pb5 pn5 c0 c1 => ⟨by show 2 ≤ sizeLine; decide, fun t nt => ?_⟩⟩
        refine ⟨t, _, rfl, .inl (.inl upd_same), rfl, .ref b, _, rfl, .int c, [], rfl, rfl, ?_⟩
        have s6 := same_new (o := .tup [.ref b, .int c]) nt
        have tb6 := (tabs_pen tb4 pn4 pb5).ext s6
        have hR6 := (hR4.pen pn4 pb5).same s6
        have pn6 := pn5.same s6
        generalize upd H5 t (.tup [.ref b, .int c]) = H6 at tb6 hR6 pn6 ⊢
        -- the divisors
        apply refZ (C := fun E H8 => Tabs (Tl K) H8 ∧ PenAt H8 p (6000 * i + 1 + 3000 + 20) ∧ RecsAt H8 b ys rs ∧ ∃ ds : List Int, H8 E = some (.lst (ds.map V.int)) ∧ (∀ d ∈ ds, 0 < d ∧ d ≤ 117649) ∧ ds.length ≤ 200 ∧ (c < 3000 → ds = M.divs c c.toNat))
        · intro rest
          refine ⟨_, rfl, _, _, rfl, rfl, _, rfl, ite2 (fun e => ?ka) (fun e => ?kb)⟩
          case kb =>
            have c3 : ¬ c < 3000 := fun z => e (decide_eq_true z)
            refine ⟨by show 1 ≤ sizeLine; decide, fun E nE => ?_⟩
            have s7 := same_new (o := .lst [.int 1]) nE
            have h : Tabs (Tl K) (upd H6 E (.lst [.int 1])) ∧ PenAt (upd H6 E (.lst [.int 1])) p (6000 * i + 1 + 3000 + 20) ∧ RecsAt (upd H6 E (.lst [.int 1])) b ys rs ∧ ∃ ds : List Int, (upd H6 E (.lst [.int 1])) E = some (.lst (ds.map V.int)) ∧ (∀ d ∈ ds, 0 < d ∧ d ≤ 117649) ∧ ds.length ≤ 200 ∧ (c < 3000 → ds = M.divs c c.toNat) :=
              ⟨tb6.ext s7, pn6.same s7, hR6.same s7, [1], upd_same, fun d hd => by rw [List.mem_singleton.mp hd]; exact ⟨by decide, by decide⟩, by decide, fun z => absurd z c3⟩
            generalize upd H6 E (.lst [.int 1]) = H8 at h ⊢
            exact rest E H8 h
          case ka =>
            have c3 : c < 3000 := of_decide_eq_true e
            refine ⟨_, rfl, _, _, rfl, rfl, 1, c + 1, rfl, ⟨by decide, by decide, by clear rest; omega, by clear rest; omega⟩, fun D nD => ?_⟩
            refine lc_it (walk_range (lo := 1) (n := (c + 1 - 1).toNat)) (fun k H' => CompInv IntI H6 D H' (M.divs c k)) (CompInv.start nD) (fun k H' _ z => trivial) (fun k x H7 H7' hk z y => ?_) (fun H7 z => ?_)
            · obtain ⟨rfl, rfl⟩ := y
              have kb : (k : Int) < c := by clear rest; omega
              refine ⟨rfl, _, rfl, _, rfl, _, _, rfl, rfl, dw (by clear rest; omega) (by have : (2 : Nat) ^ 60 ≤ 2 ^ 2000 := Nat.pow_le_pow_right (by decide) (by decide); clear rest; omega), _, rfl, _, _, rfl, rfl, .inr ⟨by clear rest; omega, by clear rest; omega⟩, _, rfl, rfl, _, rfl, ite2 (fun e => ?_) (fun e => ?_)⟩
              · rw [M.divs_succ, if_pos (int_eq e)]
                refine ⟨_, rfl, ?_⟩
                exact z.push IntI.stab nD (fun _ _ h => h) rfl (by have := M.divs_few c0 c3 k; clear rest; omega)
              · rw [M.divs_succ, if_neg (int_ne e), List.append_nil]
                exact z
            · obtain ⟨s7, acc, hD, al⟩ := z
              rw [al_int al] at hD
              have e1 : (c + 1 - 1).toNat = c.toNat := by clear rest; omega
              rw [e1] at hD
              have few := M.divs_few c0 c3 c.toNat
              refine ⟨200, rfl, D, _, rfl, .inl (.inl hD), fun E nE => ?_⟩
              have ec : cutV ((M.divs c c.toNat).map V.int) none (some 200) = (M.divs c c.toNat).map V.int := by
                unfold cutV
                rw [show HT.sIx ((M.divs c c.toNat).map V.int).length 0 none = 0 from rfl, show HT.sIx ((M.divs c c.toNat).map V.int).length ((M.divs c c.toNat).map V.int).length (some 200) = min 200 ((M.divs c c.toNat).map V.int).length from HT.sIx_nat _ _ 200, List.drop_zero, Nat.sub_zero]
                refine List.take_of_length_le ?_
                rw [List.length_map]
                clear rest
                omega
              rw [ec]
              have s8 := same_new (o := .lst ((M.divs c c.toNat).map V.int)) nE
              exact rest E _ ⟨(tb6.ext s7).ext s8, (pn6.same s7).same s8, (hR6.same s7).same s8, M.divs c c.toNat, upd_same, fun d hd => by obtain ⟨g1, g2, _⟩ := M.divs_mem hd; exact ⟨by clear rest; omega, by clear rest; omega⟩, few, fun _ => rfl⟩
        · rintro E H8 ⟨tb8, pn8, hR8, ds, hE8, dsb, dsl, dsq⟩
          -- the total
          refine ⟨_, rfl, E, rfl, ⟨_, .inl (.inl hE8)⟩, fun D nD => ?_⟩
          have s9 := same_new (o := .lst []) nD
          refine lc_it (walk_list (K := K) (a := E) (xs := ds.map V.int)) (fun k H' => ExtN H8 H' ∧ Tabs (Tl K) H' ∧ H' D = some (.lst (((ds.take k).map fun d => c / d * (shapeOf rs).rules d).map V.int))) ⟨ExtN.of s9, tb8.ext s9, upd_same⟩ (fun k H' _ z => .inl (.inl (z.1 _ _ hE8 (fun _ w => by cases w)))) (fun k x H9 H9' hk z y => ?_) (fun H9 z => ?_)
          · obtain ⟨rfl, ey⟩ := y
            obtain ⟨ex9, tb9, hD9⟩ := z
            rw [List.getElem?_map] at ey
            cases ed : ds[k]? with
            | none => rw [ed] at ey; cases ey
            | some d =>
              rw [ed] at ey
              cases ey
              obtain ⟨d0, d8⟩ := dsb d (List.mem_of_getElem? ed)
              have cd1 := Int.ediv_nonneg (Int.le_of_lt c0) (Int.le_of_lt d0)
              have cd2 := Int.ediv_le_self d (Int.le_of_lt c0)
              refine ⟨rfl, _, rfl, _, rfl, _, _, rfl, rfl, dw d0 (by have : (2 : Nat) ^ 60 ≤ 2 ^ 2000 := Nat.pow_le_pow_right (by decide) (by decide); omega), _, rfl, _, rfl, b, ys, rs, d, rfl, hR8.ext ex9, gd, d0, by omega, tb9, fun H10 ex10 tb10 => ?_⟩
              have hD10 := ex10 _ _ hD9 (fun _ w => by cases w)
              refine ⟨_, _, rfl, rfl, .inl ⟨by omega, by omega⟩, _, hD10, small_lt (by rw [List.length_map, List.length_map, List.length_take]; omega), ?_⟩
              refine ⟨ext_mut (ex9.trans ex10) nD, tabs_lst tb10 hD10, ?_⟩
              rw [upd_same, take_snoc ed, List.map_append, List.map_append]
              rfl
          · rw [List.length_map, take_all] at z
            obtain ⟨ex9, tb9, hD9⟩ := z
            refine ⟨D, _, rfl, .inl (.inl hD9), ?_⟩
            have pn9 := pn8.ext ex9
            have hR9 := hR8.ext ex9
            apply heapZ (C := fun H => Tabs (Tl K) H ∧ PenAt H p (6000 * i + 1 + 3000 + 20) ∧ RecsAt H b ys rs)
            · intro rest
              refine ⟨_, rfl, _, _, rfl, rfl, _, rfl, ite2 (fun e => ?_) (fun e => ?_)⟩
              · have c3 : c < 3000 := of_decide_eq_true e
                refine ⟨_, rfl, _, rfl, b, ys, rs, c, rfl, hR9, gd, c0, by clear rest; omega, tb9, fun H10 ex10 tb10 => ?_⟩
                have e1 : (ds.map fun d => c / d * (shapeOf rs).rules d).sum = (shapeOf rs).pairs c := by
                  rw [dsq c3, M.divs_sum, ← M.Shape.law (shapeOf rs) ok c0]
                  congr 1
                  clear rest
                  omega
                refine ⟨_, rfl, rfl, false, ?_, iteF ?_⟩
                · rw [e1, decide_eq_true rfl]; rfl
                · exact rest H10 ⟨tb10, pn9.ext ex10, hR9.ext ex10⟩
              · exact iteF (rest H9 ⟨tb9, pn9, hR9⟩)
            · rintro H10 ⟨tb10, pn10, hR10⟩
              -- at one
              refine ⟨_, rfl, b, ys, rs, 1, rfl, hR10, gd, by decide, by decide, tb10, fun H11 ex11 tb11 => ?_⟩
              have hR11 := hR10.ext ex11
              refine ⟨_, rfl, b, ys, rs, 1, rfl, hR11, gd, by decide, by decide, tb11, fun H12 ex12 tb12 => ?_⟩
              have hR12 := hR11.ext ex12
              have pn12 := (pn10.ext ex11).ext ex12
              refine ⟨rfl, false, ?_, iteF ?_⟩
              · rw [M.Shape.law_one, decide_eq_true rfl]; rfl
              · -- at a prime
                refine ⟨_, rfl, by show 9 ≤ sizeLine; decide, fun L nL => ?_⟩
                have s13 := same_new (o := .lst [.int 2, .int 3, .int 5, .int 7, .int 11, .int 13, .int 101, .int 99991, .int 99999989]) nL
                have pn13 := pn12.same s13
                refine ⟨p, L, _, _, rfl, upd_same, (fun z => nomatch z), by show 9 ≤ 1000; decide, pn13, by omega, fun H14 x pb14 pn14 hx => ?_⟩
                have hR14 := (hR12.same s13).pen pn13 pb14
                have tb14 := tabs_pen (tb12.ext s13) pn13 pb14
                obtain ⟨m, rfl, hm⟩ : ∃ m : Int, x = .int m ∧ M.Pr m := by
                  simp only [List.mem_cons, List.not_mem_nil, or_false] at hx
                  rcases hx with rfl | rfl | rfl | rfl | rfl | rfl | rfl | rfl | rfl
                  · exact ⟨2, rfl, M.pr_2⟩
                  · exact ⟨3, rfl, M.pr_3⟩
                  · exact ⟨5, rfl, M.pr_5⟩
                  · exact ⟨7, rfl, M.pr_7⟩
                  · exact ⟨11, rfl, M.pr_11⟩
                  · exact ⟨13, rfl, M.pr_13⟩
                  · exact ⟨101, rfl, M.pr_101⟩
                  · exact ⟨99991, rfl, M.pr_99991⟩
                  · exact ⟨99999989, rfl, M.pr_99999989⟩
                obtain ⟨mt, mm, mp⟩ := hm
                refine ⟨_, rfl, _, rfl, b, ys, rs, m, rfl, hR14, gd, by omega, by omega, tb14, fun H15 ex15 tb15 => ?_⟩
                have hR15 := hR14.ext ex15
                refine ⟨_, rfl, _, rfl, b, ys, rs, 1, rfl, hR15, gd, by decide, by decide, tb15, fun H16 ex16 tb16 => ?_⟩
                have hR16 := hR15.ext ex16
                refine ⟨_, _, rfl, rfl, .inl ⟨by omega, by omega⟩, _, _, rfl, rfl, ?_⟩
                refine ⟨_, rfl, _, rfl, b, ys, rs, m, rfl, hR16, gd, by omega, by omega, tb16, fun H17 ex17 tb17 => ?_⟩
                refine ⟨_, rfl, rfl, false, ?_, iteF ?_⟩
                · rw [M.Shape.law_prime (shapeOf rs) ok mt mp, decide_eq_true rfl]; rfl
                · exact ⟨_, _, _, _, _, _, _, rfl, tb17, (((pn14.ext ex15).ext ex16).ext ex17).mono (by omega)⟩
    · rintro σ H2 ⟨u2, u3, u4, u5, u6, u7, u8, rfl, tb2, pn2⟩
      exact q H2
end
end KN

/-! ## KEnd -/
set_option Elab.async false
set_option linter.all false
set_option maxRecDepth 100000
set_option maxHeartbeats 0
/-! The end. -/
namespace KN
open PySem PySem.Spec PyProof.Rows L2 LamX NdefX
theorem law_at {w : World} {K : PySem.W.Frag} {h : Heap} {mg : Str → Option Value} {f : Addr} (X : K.In h) (G : h.Ns mainGlobals mg) (hf : mg ("law" : Str) = some (.ref f)) (c : He.SaysX fa fn [] tf ex w h K) :
    LawAtS PySem.Challenge.rw_leapfit_k63_whole_pairs_of_multiples w K CX0 11 63 "_law_script" mg f h := by
  have T : Tx K mg := ⟨⟨h, X, G⟩, c.t.d, c.more⟩
  obtain ⟨fd, F⟩ := f_law T
  have e := hf.symm.trans (g_law T)
  cases e
  have b := FunD.bindsA (ps := p_law) F fun _ _ _ _ _ _ us hl => match us, hl with | [_], _ => rfl
  have tm : dlow ∈ tf := List.mem_singleton.mpr rfl
  refine ⟨fd, [(cLow K, pLow K)], spLaw K, fun p hp => ?_, fun p hp => ?_, fun p hp => ?_, fun s v => b s [v] rfl, fun H a ns hl _ ht hS => ⟨a, ns, rfl, hS, hl, fun p hp => ?_, fun _ => rfl⟩, fun base KB GB TB => ok_law T (TB _ (List.mem_singleton.mpr rfl)) F⟩
  · rw [List.mem_singleton.mp hp]
    exact c.empty dlow tm
  · rw [List.mem_singleton.mp hp]
    exact c.out dlow tm
  · rw [List.mem_singleton.mp hp]
    exact PySem.W.codeHd_of_K X (c.hd dlow tm)
  · rw [List.mem_singleton.mp hp]
    exact TabS.nil (ht _ (List.mem_singleton.mpr rfl))
end KN
open PySem PySem.W PySem.Calls PyProof.Rows
theorem PySem.Challenge.cw_leapfit_k63_whole_pairs_of_multiples_holds : PySem.Challenge.rw_leapfit_k63_whole_pairs_of_multiples.Holds := by
  w_on; o_law
  refine HandSHeadRun.head_any (r := KN.R) (q := view KN.R.prog [KN.lawAt]) (H := KN.hk) (ob := KN.ob) (M := 20000) (loose := KN.loose) (d := HandSHeadRun.topDef KN.R.prog KN.lawAt) (kwd := []) KN.ob_eq
    (by kernel_rfl) (fun s => by kernel_rfl) KN.run (by kernel_rfl) (by kernel_rfl) (by kernel_rfl) (by rfl) (by first | assumption | decide +kernel) (by decide +kernel) ⟨rfl, rfl, rfl, rfl, rfl, by decide +kernel⟩ ?hw ?hc
  case hw => w_witness2
  case hc =>
    refine LamX.walk_ofTsE (l := PySem.Challenge.rw_leapfit_k63_whole_pairs_of_multiples) (n := 63) (k := 11) (x := "_law_script") (CX := fun _ => L2.CX0) rfl (by decide) (by kernel_rfl) ⟨rfl, by decide, by decide⟩ ?F (fun _ _ _ _ _ z => z)
    intro w mg f h Y G hmg0
    obtain ⟨K, KX, c⟩ := Y
    have hmg : mg ("law" : PySem.Str) = some (.ref f) := by
      have e : (HandSHeadRun.topDef KN.R.prog KN.lawAt).name = ("law" : PySem.Str) := by kernel_rfl
      rw [← e]
      exact hmg0
    exact ⟨K, KX, KN.law_at KX G hmg c⟩
