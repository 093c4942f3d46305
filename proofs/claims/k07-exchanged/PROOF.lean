import PyProof.Rows.All
import Wide.All
import OpenK.AllK
import Wide.FinOn
import HandS.ForMost
import HandS.IsInst
import HandS.RevRange
import HandS.Style
import HandS.Walk
import HandS.StrMore
import HandS.Codes
import PySem.Challenge.RW_jamroad_k07_whole_exchanged
set_option Elab.async false
set_option linter.all false
set_option maxRecDepth 100000
set_option maxHeartbeats 4000000

/-! MathRing: cars on a ring, in plain Lean. A ring is a list b of n > 0 truth values (a car or a gap); at all whole numbers it is read round and round. -/
namespace JR

/-- the place p of the ring b, round and round -/
def rat (b : List Bool) (p : Int) : Bool := b.getD (p % (b.length : Int)).toNat false
/-- one step, at all places -/
def stp (x : Int → Bool) (p : Int) : Bool := if x p = true then x (p + 1) else x (p - 1)
def its (x : Int → Bool) : Nat → Int → Bool
  | 0 => x
  | t + 1 => stp (its x t)
def b2n (b : Bool) : Nat := if b = true then 1 else 0
/-- how many of the l places from a on -/
def cnt (x : Int → Bool) (a : Int) : Nat → Nat
  | 0 => 0
  | l + 1 => cnt x a l + b2n (x (a + (l : Int)))
def Per (n : Nat) (x : Int → Bool) : Prop := ∀ p, x (p + n) = x p

theorem its_succ (x : Int → Bool) (t : Nat) : its x (t + 1) = stp (its x t) := rfl
theorem its_add (x : Int → Bool) (a : Nat) : ∀ b, its (its x a) b = its x (a + b)
  | 0 => rfl
  | b + 1 => by
    show stp (its (its x a) b) = stp (its x (a + b))
    rw [its_add x a b]
theorem Per.stp {n : Nat} {x : Int → Bool} (h : Per n x) : Per n (stp x) := fun p => by
  unfold JR.stp
  rw [h p, show p + (n : Int) + 1 = p + 1 + n by omega, h (p + 1), show p + (n : Int) - 1 = p - 1 + n by omega, h (p - 1)]
theorem Per.its {n : Nat} {x : Int → Bool} (h : Per n x) : ∀ t, Per n (its x t)
  | 0 => h
  | t + 1 => (h.its t).stp
theorem Per.mulN {n : Nat} {x : Int → Bool} (h : Per n x) (p : Int) : ∀ k : Nat, x (p + n * k) = x p
  | 0 => by rw [show p + (n : Int) * ((0 : Nat) : Int) = p by simp]
  | k + 1 => by
    rw [show p + (n : Int) * ((k + 1 : Nat) : Int) = (p + n * k) + n by rw [Int.natCast_add, Int.mul_add]; simp; omega, h, h.mulN p k]
theorem Per.mul {n : Nat} {x : Int → Bool} (h : Per n x) (p : Int) (k : Int) : x (p + n * k) = x p := by
  rcases Int.le_total 0 k with hk | hk
  · obtain ⟨m, rfl⟩ := Int.eq_ofNat_of_zero_le hk
    exact h.mulN p m
  · obtain ⟨m, hm⟩ := Int.eq_ofNat_of_zero_le (show 0 ≤ -k by omega)
    have e := h.mulN (p + n * k) m
    rw [show p + (n : Int) * k + n * (m : Int) = p by rw [← hm, Int.mul_neg]; omega] at e
    exact e.symm
theorem Per.mod {n : Nat} {x : Int → Bool} (h : Per n x) (p : Int) : x (p % n) = x p := by
  have e := h.mul (p % n) (p / n)
  rw [Int.emod_add_mul_ediv] at e
  exact e.symm

theorem cnt_add (x : Int → Bool) (a : Int) (l : Nat) : ∀ m, cnt x a (l + m) = cnt x a l + cnt x (a + l) m
  | 0 => rfl
  | m + 1 => by
    show cnt x a (l + m) + b2n (x (a + ((l + m : Nat) : Int))) = cnt x a l + (cnt x (a + l) m + b2n (x (a + l + m)))
    rw [cnt_add x a l m, show a + ((l + m : Nat) : Int) = a + l + m by omega, Nat.add_assoc]
theorem cnt_one (x : Int → Bool) (a : Int) : cnt x a 1 = b2n (x a) := by
  show 0 + b2n (x (a + ((0 : Nat) : Int))) = _
  rw [show a + ((0 : Nat) : Int) = a by omega, Nat.zero_add]
theorem cnt_left (x : Int → Bool) (a : Int) (l : Nat) : cnt x a (l + 1) = b2n (x a) + cnt x (a + 1) l := by
  rw [Nat.add_comm l 1, cnt_add, cnt_one]
  rfl
theorem cnt_congr {x y : Int → Bool} {a b : Int} : ∀ {l : Nat}, (∀ i : Nat, i < l → x (a + i) = y (b + i)) → cnt x a l = cnt y b l
  | 0, _ => rfl
  | l + 1, h => by
    show cnt x a l + b2n (x (a + l)) = cnt y b l + b2n (y (b + l))
    rw [cnt_congr (l := l) fun i hi => h i (by omega), h l (by omega)]
theorem cnt_le (x : Int → Bool) (a : Int) : ∀ l, cnt x a l ≤ l
  | 0 => Nat.le_refl _
  | l + 1 => by
    have := cnt_le x a l
    show cnt x a l + b2n (x (a + l)) ≤ l + 1
    unfold b2n
    split <;> omega
theorem b2n_le (b : Bool) : b2n b ≤ 1 := by unfold b2n; split <;> omega
theorem cnt_not (x : Int → Bool) (a : Int) : ∀ l, cnt (fun p => !x p) a l + cnt x a l = l
  | 0 => rfl
  | l + 1 => by
    have := cnt_not x a l
    show cnt (fun p => !x p) a l + b2n (!x (a + l)) + (cnt x a l + b2n (x (a + l))) = l + 1
    cases x (a + l) <;> simp [b2n] <;> omega
/-- a round from anywhere -/
theorem Per.cnt1 {n : Nat} {x : Int → Bool} (h : Per n x) (a : Int) : cnt x (a + 1) n = cnt x a n := by
  have e1 := cnt_left x a n
  have e2 : cnt x a (n + 1) = cnt x a n + b2n (x (a + n)) := rfl
  rw [h a] at e2
  omega
theorem Per.cntN {n : Nat} {x : Int → Bool} (h : Per n x) (a : Int) : ∀ k : Nat, cnt x (a + k) n = cnt x a n
  | 0 => by rw [show a + ((0 : Nat) : Int) = a by omega]
  | k + 1 => by rw [show a + ((k + 1 : Nat) : Int) = a + k + 1 by omega, h.cnt1, h.cntN a k]
theorem Per.cnt {n : Nat} {x : Int → Bool} (h : Per n x) (a b : Int) : cnt x a n = cnt x b n := by
  rcases Int.le_total a b with q | q
  · obtain ⟨k, hk⟩ := Int.eq_ofNat_of_zero_le (show 0 ≤ b - a by omega)
    rw [← h.cntN a k, show a + (k : Int) = b by omega]
  · obtain ⟨k, hk⟩ := Int.eq_ofNat_of_zero_le (show 0 ≤ a - b by omega)
    rw [← h.cntN b k, show b + (k : Int) = a by omega]
/-- read backwards -/
theorem cnt_rev (x : Int → Bool) : ∀ (l : Nat) (a : Int), cnt (fun p => x (-p)) a l = cnt x (1 - a - l) l
  | 0, _ => rfl
  | l + 1, a => by
    have e := cnt_left x (1 - a - ((l + 1 : Nat) : Int)) l
    rw [e, show 1 - a - ((l + 1 : Nat) : Int) + 1 = 1 - a - l by omega, ← cnt_rev x l a]
    show cnt (fun p => x (-p)) a l + b2n (x (-(a + l))) = _
    rw [show 1 - a - ((l + 1 : Nat) : Int) = -(a + l) by omega, Nat.add_comm]

/-- what comes in at the left end of a window, what goes out at the right one -/
theorem cnt_stp (x : Int → Bool) (a : Int) : ∀ l : Nat, cnt (stp x) a l + b2n (x (a + l - 1) && !x (a + l)) = cnt x a l + b2n (x (a - 1) && !x a)
  | 0 => by
    show 0 + b2n (x (a + ((0 : Nat) : Int) - 1) && !x (a + ((0 : Nat) : Int))) = 0 + b2n (x (a - 1) && !x a)
    rw [show a + ((0 : Nat) : Int) = a by omega]
  | l + 1 => by
    have ih := cnt_stp x a l
    show cnt (stp x) a l + b2n (stp x (a + l)) + b2n (x (a + ((l + 1 : Nat) : Int) - 1) && !x (a + ((l + 1 : Nat) : Int))) = cnt x a l + b2n (x (a + l)) + b2n (x (a - 1) && !x a)
    rw [show a + ((l + 1 : Nat) : Int) - 1 = a + l by omega, show a + ((l + 1 : Nat) : Int) = a + l + 1 by omega]
    have es : stp x (a + l) = if x (a + l) = true then x (a + l + 1) else x (a + l - 1) := rfl
    rw [es]
    generalize cnt (stp x) a l = d at *
    generalize x (a + l) = u at *
    generalize x (a + l + 1) = v at *
    generalize x (a + l - 1) = w at *
    generalize b2n (x (a - 1) && !x a) = k at *
    cases u <;> cases v <;> cases w <;> simp [b2n] at * <;> omega
theorem Per.cnt_stp {n : Nat} {x : Int → Bool} (h : Per n x) (a : Int) : JR.cnt (JR.stp x) a n = JR.cnt x a n := by
  have e := JR.cnt_stp x a n
  rw [show a + (n : Int) - 1 = a - 1 + n by omega, h (a - 1), h a] at e
  omega
theorem Per.cnt_its {n : Nat} {x : Int → Bool} (h : Per n x) (a : Int) : ∀ t, JR.cnt (JR.its x t) a n = JR.cnt x a n
  | 0 => rfl
  | t + 1 => by
    show JR.cnt (JR.stp (JR.its x t)) a n = _
    rw [(h.its t).cnt_stp, h.cnt_its a t]

/-- more than half of each of the windows that end ahead of r -/
def Dense (x : Int → Bool) (r : Int) (M : Nat) : Prop := ∀ m : Nat, 1 ≤ m → m ≤ M → m + 1 ≤ cnt x (r - 2 * (m : Int)) (2 * m)
theorem b2n_and_le (a b : Bool) : b2n (a && b) ≤ b2n a := by cases a <;> cases b <;> simp [b2n]
theorem Dense.back {x : Int → Bool} {r : Int} {M : Nat} (hM : 1 ≤ M) (h : Dense (stp x) r M) : Dense x (r + 1) (M + 1) := by
  -- cars at r - 2 and r - 1 behind the step: cars at r - 1 and r ahead of it
  have h1 := h 1 (Nat.le_refl 1) hM
  have e1 : cnt (stp x) (r - 2 * ((1 : Nat) : Int)) (2 * 1) = b2n (stp x (r - 2)) + b2n (stp x (r - 1)) := by
    show 0 + b2n (stp x (r - 2 * ((1 : Nat) : Int) + ((0 : Nat) : Int))) + b2n (stp x (r - 2 * ((1 : Nat) : Int) + ((1 : Nat) : Int))) = _
    rw [show r - 2 * ((1 : Nat) : Int) + ((0 : Nat) : Int) = r - 2 by omega, show r - 2 * ((1 : Nat) : Int) + ((1 : Nat) : Int) = r - 1 by omega, Nat.zero_add]
  rw [e1] at h1
  have both : x (r - 1) = true ∧ x r = true := by
    unfold stp at h1
    rw [show r - 2 + 1 = r - 1 by omega, show r - 1 + 1 = r by omega, show r - 1 - 1 = r - 2 by omega] at h1
    generalize x (r - 2) = u at *
    generalize x (r - 1) = v at *
    generalize x r = w at *
    generalize x (r - 2 - 1) = z at *
    cases u <;> cases v <;> cases w <;> cases z <;> simp [b2n] at *
  intro m m1 m2
  obtain ⟨k, rfl⟩ : ∃ k, m = k + 1 := ⟨m - 1, by omega⟩
  -- the window with one more place at each end
  have e2 : cnt x (r + 1 - 2 * ((k + 1 : Nat) : Int)) (2 * (k + 1)) = b2n (x (r - 2 * (k : Int) - 1)) + cnt x (r - 2 * (k : Int)) (2 * k) + 1 := by
    rw [show 2 * (k + 1) = (2 * k + 1) + 1 by omega, cnt_left]
    show _ + (cnt x (r + 1 - 2 * ((k + 1 : Nat) : Int) + 1) (2 * k) + b2n (x (r + 1 - 2 * ((k + 1 : Nat) : Int) + 1 + ((2 * k : Nat) : Int)))) = _
    rw [show r + 1 - 2 * ((k + 1 : Nat) : Int) = r - 2 * (k : Int) - 1 by omega, show r - 2 * (k : Int) - 1 + 1 = r - 2 * (k : Int) by omega, show r - 2 * (k : Int) + ((2 * k : Nat) : Int) = r by omega, both.2]
    show _ + (_ + 1) = _
    omega
  rw [e2]
  by_cases hk : k = 0
  · subst hk
    show 0 + 1 + 1 ≤ b2n (x (r - 2 * ((0 : Nat) : Int) - 1)) + cnt x (r - 2 * ((0 : Nat) : Int)) 0 + 1
    rw [show r - 2 * ((0 : Nat) : Int) - 1 = r - 1 by omega, both.1]
    exact Nat.le_refl _
  · have hh := h k (by omega) (by omega)
    have e3 := cnt_stp x (r - 2 * (k : Int)) (2 * k)
    rw [show r - 2 * (k : Int) + ((2 * k : Nat) : Int) - 1 = r - 1 by omega, show r - 2 * (k : Int) + ((2 * k : Nat) : Int) = r by omega, both.1, both.2] at e3
    have e4 : b2n (true && !true) = 0 := rfl
    rw [e4] at e3
    have e5 := b2n_and_le (x (r - 2 * (k : Int) - 1)) (!x (r - 2 * (k : Int)))
    omega
theorem Dense.first {x : Int → Bool} : ∀ {t : Nat} {r : Int}, Dense (its x t) r 1 → ∀ s : Nat, s ≤ t → Dense (its x (t - s)) (r + s) (s + 1)
  | t, r, h, 0, _ => by
    rw [show r + ((0 : Nat) : Int) = r by omega]
    exact h
  | t, r, h, s + 1, hs => by
    have ih := Dense.first h s (by omega)
    have e : its x (t - s) = stp (its x (t - (s + 1))) := by
      rw [show t - s = (t - (s + 1)) + 1 by omega]
      rfl
    rw [e] at ih
    have := Dense.back (by omega) ih
    rw [show r + (s : Int) + 1 = r + ((s + 1 : Nat) : Int) by omega] at this
    exact this

/-- no two cars behind one another -/
def NoCC (x : Int → Bool) : Prop := ∀ p, ¬ (x p = true ∧ x (p + 1) = true)
def NoGG (x : Int → Bool) : Prop := ∀ p, x p = true ∨ x (p + 1) = true
/-- settled behind half as many steps as places, if no more cars than gaps -/
theorem settled_cc {n : Nat} {x : Int → Bool} (hx : Per n x) (hn : 0 < n) (hk : 2 * cnt x 0 n ≤ n) {t : Nat} (ht : n / 2 ≤ t) : NoCC (its x t) := by
  rintro p ⟨h1, h2⟩
  have d : Dense (its x t) (p + 2) 1 := by
    intro m m1 m2
    have e : m = 1 := by omega
    subst e
    show 1 + 1 ≤ 0 + b2n (its x t (p + 2 - 2 * ((1 : Nat) : Int) + ((0 : Nat) : Int))) + b2n (its x t (p + 2 - 2 * ((1 : Nat) : Int) + ((1 : Nat) : Int)))
    rw [show p + 2 - 2 * ((1 : Nat) : Int) + ((0 : Nat) : Int) = p by omega, show p + 2 - 2 * ((1 : Nat) : Int) + ((1 : Nat) : Int) = p + 1 by omega, h1, h2]
    exact Nat.le_refl _
  have d0 := Dense.first d t (Nat.le_refl t)
  rw [Nat.sub_self] at d0
  have d1 := d0 ((n + 1) / 2) (by omega) (by omega)
  have w := hx.cnt (p + 2 + t - 2 * (((n + 1) / 2 : Nat) : Int)) 0
  show False
  have hle : cnt x (p + 2 + t - 2 * (((n + 1) / 2 : Nat) : Int)) (2 * ((n + 1) / 2)) ≤ (n + 1) / 2 := by
    by_cases par : n % 2 = 0
    · rw [show 2 * ((n + 1) / 2) = n by omega, w]
      omega
    · rw [show 2 * ((n + 1) / 2) = n + 1 by omega]
      show cnt x _ n + b2n _ ≤ _
      have := b2n_le (x (p + 2 + t - 2 * (((n + 1) / 2 : Nat) : Int) + n))
      rw [w]
      omega
  have d2 : (n + 1) / 2 + 1 ≤ cnt x (p + 2 + t - 2 * (((n + 1) / 2 : Nat) : Int)) (2 * ((n + 1) / 2)) := d1
  omega

/-! ### exchanged: cars for gaps, read backwards -/
def exch (a : Int) (x : Int → Bool) (p : Int) : Bool := !x (a - p)
theorem stp_exch (a : Int) (x : Int → Bool) : stp (exch a x) = exch a (stp x) := by
  funext p
  show (if (!x (a - p)) = true then !x (a - (p + 1)) else !x (a - (p - 1))) = !(if x (a - p) = true then x (a - p + 1) else x (a - p - 1))
  rw [show a - (p + 1) = a - p - 1 by omega, show a - (p - 1) = a - p + 1 by omega]
  generalize x (a - p) = u
  generalize x (a - p - 1) = v
  generalize x (a - p + 1) = w
  cases u <;> cases v <;> cases w <;> rfl
theorem its_exch (a : Int) (x : Int → Bool) : ∀ t, its (exch a x) t = exch a (its x t)
  | 0 => rfl
  | t + 1 => by
    show stp (its (exch a x) t) = exch a (stp (its x t))
    rw [its_exch a x t, stp_exch]
theorem Per.neg {n : Nat} {x : Int → Bool} (h : Per n x) (p : Int) : x (p - n) = x p := by
  have := h (p - n)
  rw [show p - (n : Int) + n = p by omega] at this
  exact this.symm
theorem Per.exch {n : Nat} {x : Int → Bool} (h : Per n x) (a : Int) : Per n (exch a x) := fun p => by
  unfold JR.exch
  rw [show a - (p + (n : Int)) = a - p - n by omega, h.neg]
theorem cnt_shift (x : Int → Bool) (s a : Int) (l : Nat) : cnt (fun p => x (p + s)) a l = cnt x (a + s) l :=
  cnt_congr (x := fun p => x (p + s)) (y := x) (a := a) (b := a + s) fun i _ => by
    show x (a + i + s) = x (a + s + i)
    rw [show a + (i : Int) + s = a + s + i by omega]
theorem Per.cnt_back {n : Nat} {x : Int → Bool} (h : Per n x) (a b c : Int) : JR.cnt (fun p => x (a - p)) b n = JR.cnt x c n := by
  have e : (fun p => x (a - p)) = fun p => (fun q => x (q + a)) (-p) := by
    funext p
    show x (a - p) = x (-p + a)
    rw [show a - p = -p + a by omega]
  rw [e, cnt_rev (fun q => x (q + a)) n b, cnt_shift]
  exact h.cnt _ _
theorem Per.cnt_exch {n : Nat} {x : Int → Bool} (h : Per n x) (a : Int) : JR.cnt (JR.exch a x) 0 n + JR.cnt x 0 n = n := by
  have e := h.cnt_back a 0 0
  have e2 := cnt_not (fun p => x (a - p)) 0 n
  rw [e] at e2
  exact e2
theorem settled_gg {n : Nat} {x : Int → Bool} (hx : Per n x) (hn : 0 < n) (hk : n ≤ 2 * cnt x 0 n) {t : Nat} (ht : n / 2 ≤ t) : NoGG (its x t) := by
  intro p
  have e := hx.cnt_exch 0
  have q := settled_cc (hx.exch 0) hn (by omega) ht (-(p + 1))
  rw [its_exch] at q
  unfold exch at q
  rw [show (0 : Int) - (-(p + 1)) = p + 1 by omega, show (0 : Int) - (-(p + 1) + 1) = p by omega] at q
  cases u : its x t p with
  | true => exact .inl rfl
  | false =>
    refine .inr ?_
    cases v : its x t (p + 1) with
    | true => rfl
    | false => exact absurd ⟨by rw [v]; rfl, by rw [u]; rfl⟩ q

/-! ### settled: the ring goes round -/
theorem NoCC.stp {x : Int → Bool} (h : NoCC x) : stp x = fun p => x (p - 1) := by
  funext p
  show (if x p = true then x (p + 1) else x (p - 1)) = x (p - 1)
  split
  · rename_i q
    have h1 := h p
    have h2 := h (p - 1)
    rw [show p - 1 + 1 = p by omega] at h2
    cases u : x (p + 1) with
    | true => exact absurd ⟨q, u⟩ h1
    | false =>
      cases v : x (p - 1) with
      | true => exact absurd ⟨v, q⟩ h2
      | false => rfl
  · rfl
theorem NoGG.stp {x : Int → Bool} (h : NoGG x) : stp x = fun p => x (p + 1) := by
  funext p
  show (if x p = true then x (p + 1) else x (p - 1)) = x (p + 1)
  split
  · rfl
  · rename_i q
    rcases h p with z | z
    · exact absurd z q
    · rcases h (p - 1) with y | y
      · rw [y, z]
      · rw [show p - 1 + 1 = p by omega] at y
        exact absurd y q
theorem NoCC.step {x : Int → Bool} (h : NoCC x) : NoCC (JR.stp x) := by
  rw [h.stp]
  intro p
  have := h (p - 1)
  rw [show p - 1 + 1 = p + 1 - 1 by omega] at this
  exact this
theorem NoGG.step {x : Int → Bool} (h : NoGG x) : NoGG (JR.stp x) := by
  rw [h.stp]
  intro p
  exact h (p + 1)
theorem NoCC.its {x : Int → Bool} (h : NoCC x) : ∀ t, NoCC (its x t)
  | 0 => h
  | t + 1 => (h.its t).step
theorem NoGG.its {x : Int → Bool} (h : NoGG x) : ∀ t, NoGG (its x t)
  | 0 => h
  | t + 1 => (h.its t).step
theorem NoCC.round {x : Int → Bool} (h : NoCC x) : ∀ (t : Nat) (p : Int), JR.its x t p = x (p - t)
  | 0, p => by
    rw [show p - ((0 : Nat) : Int) = p by omega]
    rfl
  | t + 1, p => by
    have e := (h.its t).stp
    show JR.stp (JR.its x t) p = _
    rw [e]
    show JR.its x t (p - 1) = _
    rw [h.round t (p - 1), show p - 1 - (t : Int) = p - ((t + 1 : Nat) : Int) by omega]
theorem NoGG.round {x : Int → Bool} (h : NoGG x) : ∀ (t : Nat) (p : Int), JR.its x t p = x (p + t)
  | 0, p => by
    rw [show p + ((0 : Nat) : Int) = p by omega]
    rfl
  | t + 1, p => by
    have e := (h.its t).stp
    show JR.stp (JR.its x t) p = _
    rw [e]
    show JR.its x t (p + 1) = _
    rw [h.round t (p + 1), show p + 1 + (t : Int) = p + ((t + 1 : Nat) : Int) by omega]

/-! ### the flow -/
def mov (x : Int → Bool) (p : Int) : Bool := x p && !x (p + 1)
def flw (n : Nat) (x : Int → Bool) : Nat := cnt (mov x) 0 n
theorem Per.mov {n : Nat} {x : Int → Bool} (h : Per n x) : Per n (mov x) := fun p => by
  unfold JR.mov
  rw [h p, show p + (n : Int) + 1 = p + 1 + n by omega, h (p + 1)]
theorem cnt_mono {x y : Int → Bool} {a : Int} : ∀ {l : Nat}, (∀ i : Nat, i < l → x (a + i) = true → y (a + i) = true) → cnt x a l ≤ cnt y a l
  | 0, _ => Nat.le_refl _
  | l + 1, h => by
    have h1 := cnt_mono (l := l) fun i hi => h i (by omega)
    have h2 := h l (by omega)
    show cnt x a l + b2n (x (a + l)) ≤ cnt y a l + b2n (y (a + l))
    have : b2n (x (a + l)) ≤ b2n (y (a + l)) := by
      unfold b2n
      split
      · rename_i q; rw [if_pos (h2 q)]; exact Nat.le_refl _
      · exact Nat.zero_le _
    omega
/-- as many: all of them -/
theorem cnt_full {x y : Int → Bool} {a : Int} : ∀ {l : Nat}, (∀ i : Nat, i < l → x (a + i) = true → y (a + i) = true) → cnt y a l ≤ cnt x a l → ∀ i : Nat, i < l → y (a + i) = true → x (a + i) = true
  | 0, _, _, i, hi, _ => absurd hi (Nat.not_lt_zero i)
  | l + 1, h, hc, i, hi, hy => by
    have h1 := cnt_mono (x := x) (y := y) (a := a) (l := l) fun i hi => h i (by omega)
    have hc' : cnt y a l + b2n (y (a + l)) ≤ cnt x a l + b2n (x (a + l)) := hc
    have h2 : b2n (x (a + l)) ≤ b2n (y (a + l)) := by
      unfold b2n
      split
      · rename_i q; rw [if_pos (h l (by omega) q)]; exact Nat.le_refl _
      · exact Nat.zero_le _
    by_cases e : i = l
    · subst e
      cases u : x (a + i) with
      | true => rfl
      | false =>
        rw [u, hy] at hc'
        have z1 : b2n true = 1 := rfl
        have z2 : b2n false = 0 := rfl
        omega
    · exact cnt_full (l := l) (fun i hi => h i (by omega)) (by omega) i (by omega) hy
theorem flw_cars {n : Nat} (x : Int → Bool) : flw n x ≤ cnt x 0 n := cnt_mono fun i _ h => by
  unfold mov at h
  cases u : x (0 + (i : Int)) with
  | true => rfl
  | false => rw [u] at h; exact h
theorem Per.cnt_succ {n : Nat} {x : Int → Bool} (h : Per n x) : JR.cnt (fun p => !x (p + 1)) 0 n = n - JR.cnt x 0 n := by
  have e := cnt_not (fun p => x (p + 1)) 0 n
  rw [cnt_shift] at e
  have e2 := h.cnt (0 + 1) 0
  rw [e2] at e
  have e3 : JR.cnt (fun p => !x (p + 1)) 0 n + JR.cnt x 0 n = n := e
  omega
theorem flw_gaps {n : Nat} {x : Int → Bool} (h : Per n x) : flw n x ≤ n - cnt x 0 n := by
  rw [← h.cnt_succ]
  refine cnt_mono fun i _ q => ?_
  unfold mov at q
  show (!x (0 + (i : Int) + 1)) = true
  cases u : x (0 + (i : Int) + 1) with
  | true =>
    rw [u] at q
    cases v : x (0 + (i : Int)) <;> rw [v] at q <;> exact q
  | false => rfl
/-- from a turn of the ring to all places -/
theorem Per.all {n : Nat} {x : Int → Bool} (h : Per n x) (hn : 0 < n) {P : Bool → Bool → Prop} (k : ∀ i : Nat, i < n → P (x (0 + i)) (x (0 + i + 1))) (p : Int) : P (x p) (x (p + 1)) := by
  have h0 := Int.emod_nonneg p (show (n : Int) ≠ 0 by omega)
  have h1 := Int.emod_lt_of_pos p (show (0 : Int) < n by omega)
  have q := k (p % n).toNat (by omega)
  rw [show (0 : Int) + ((p % n).toNat : Int) = p % n by omega, h.mod p] at q
  have e : x (p % n + 1) = x (p + 1) := by
    have := h.mul (p % n + 1) (p / n)
    rw [show p % (n : Int) + 1 + n * (p / n) = p + 1 by have := Int.emod_add_mul_ediv p n; omega] at this
    exact this.symm
  rw [e] at q
  exact q
theorem flw_cc {n : Nat} {x : Int → Bool} (h : Per n x) (hn : 0 < n) : flw n x = cnt x 0 n ↔ NoCC x := by
  constructor
  · intro e p
    refine h.all hn (P := fun a b => ¬ (a = true ∧ b = true)) (fun i hi => ?_) p
    rintro ⟨h1, h2⟩
    have q := cnt_full (x := mov x) (y := x) (a := 0) (l := n) (fun i _ h => by
      unfold mov at h
      cases u : x (0 + (i : Int)) with
      | true => rfl
      | false => rw [u] at h; exact h) (by rw [← e]; exact Nat.le_refl _) i hi h1
    unfold mov at q
    rw [h1, h2] at q
    exact absurd q (by decide)
  · intro c
    refine cnt_congr fun i _ => ?_
    unfold mov
    have := c (0 + i)
    cases u : x (0 + (i : Int)) with
    | false => rfl
    | true =>
      cases v : x (0 + (i : Int) + 1) with
      | true => exact absurd ⟨u, v⟩ this
      | false => rfl
theorem flw_gg {n : Nat} {x : Int → Bool} (h : Per n x) (hn : 0 < n) : flw n x = n - cnt x 0 n ↔ NoGG x := by
  rw [← h.cnt_succ]
  have sub : ∀ i : Nat, i < n → mov x (0 + i) = true → (fun p => !x (p + 1)) (0 + (i : Int)) = true := fun i _ q => by
    unfold mov at q
    show (!x (0 + (i : Int) + 1)) = true
    cases u : x (0 + (i : Int) + 1) with
    | true =>
      rw [u] at q
      cases v : x (0 + (i : Int)) <;> rw [v] at q <;> exact q
    | false => rfl
  constructor
  · intro e p
    refine h.all hn (P := fun a b => a = true ∨ b = true) (fun i hi => ?_) p
    cases v : x (0 + (i : Int) + 1) with
    | true => exact .inr rfl
    | false =>
      refine .inl ?_
      have q := cnt_full (x := mov x) (y := fun p => !x (p + 1)) (a := 0) (l := n) sub (by rw [← e]; exact Nat.le_refl _) i hi (by show (!x (0 + (i : Int) + 1)) = true; rw [v]; rfl)
      unfold mov at q
      rw [v] at q
      cases u : x (0 + (i : Int)) with
      | true => rfl
      | false => rw [u] at q; exact q
  · intro c
    refine cnt_congr fun i _ => ?_
    unfold mov
    show (x (0 + (i : Int)) && !x (0 + (i : Int) + 1)) = !x (0 + (i : Int) + 1)
    rcases c (0 + i) with u | u
    · rw [u]; rfl
    · rw [u]; cases x (0 + (i : Int)) <;> rfl
/-- the greatest flow there can be -/
def most (n : Nat) (x : Int → Bool) : Nat := min (cnt x 0 n) (n - cnt x 0 n)
theorem flw_le {n : Nat} {x : Int → Bool} (h : Per n x) : flw n x ≤ most n x := by
  have h1 := flw_cars (n := n) x
  have h2 := flw_gaps h
  unfold most
  omega
theorem most_its {n : Nat} {x : Int → Bool} (h : Per n x) (t : Nat) : most n (its x t) = most n x := by
  unfold most
  rw [h.cnt_its]
theorem flw_settled {n : Nat} {x : Int → Bool} (h : Per n x) (hn : 0 < n) {t : Nat} (ht : n / 2 ≤ t) : flw n (its x t) = most n x := by
  have hc := cnt_le x 0 n
  have e := h.cnt_its 0 t
  by_cases k : 2 * cnt x 0 n ≤ n
  · have q := (flw_cc (h.its t) hn).mpr (settled_cc h hn k ht)
    rw [q, e]
    unfold most
    omega
  · have q := (flw_gg (h.its t) hn).mpr (settled_gg h hn (by omega) ht)
    rw [q, e]
    unfold most
    omega
/-- once it is as great as can be it stays so -/
theorem flw_stays {n : Nat} {x : Int → Bool} (h : Per n x) (hn : 0 < n) (e : flw n x = most n x) (t : Nat) : flw n (its x t) = most n x := by
  have hc := cnt_le x 0 n
  have ec := h.cnt_its 0 t
  by_cases k : cnt x 0 n ≤ n - cnt x 0 n
  · have e1 : flw n x = cnt x 0 n := by rw [e]; unfold most; omega
    have q := (flw_cc (h.its t) hn).mpr (((flw_cc h hn).mp e1).its t)
    rw [q, ec, ← e1, e]
  · have e1 : flw n x = n - cnt x 0 n := by rw [e]; unfold most; omega
    have q := (flw_gg (h.its t) hn).mpr (((flw_gg h hn).mp e1).its t)
    rw [q, ec, ← e1, e]
theorem most_cc {n : Nat} {x : Int → Bool} (h : Per n x) (hn : 0 < n) (e : flw n x = most n x) (k : cnt x 0 n ≤ n - cnt x 0 n) : NoCC x :=
  (flw_cc h hn).mp (by rw [e]; unfold most; omega)
theorem most_gg {n : Nat} {x : Int → Bool} (h : Per n x) (hn : 0 < n) (e : flw n x = most n x) (k : n - cnt x 0 n ≤ cnt x 0 n) : NoGG x :=
  (flw_gg h hn).mp (by rw [e]; unfold most; omega)
/-! the exchanged ring, the turned one -/
theorem flw_exch {n : Nat} {x : Int → Bool} (h : Per n x) (a : Int) : flw n (exch a x) = flw n x := by
  have e : mov (exch a x) = fun p => mov x (a - 1 - p) := by
    funext p
    unfold mov exch
    rw [show a - (p + 1) = a - 1 - p by omega, show a - 1 - p + 1 = a - p by omega]
    cases x (a - p) <;> cases x (a - 1 - p) <;> rfl
  unfold flw
  rw [e]
  exact h.mov.cnt_back (a - 1) 0 0
theorem most_exch {n : Nat} {x : Int → Bool} (h : Per n x) (a : Int) : most n (exch a x) = most n x := by
  have := h.cnt_exch a
  unfold most
  omega
def shf (a : Int) (x : Int → Bool) (p : Int) : Bool := x (p + a)
theorem stp_shf (a : Int) (x : Int → Bool) : stp (shf a x) = shf a (stp x) := by
  funext p
  unfold stp shf
  rw [show p + 1 + a = p + a + 1 by omega, show p - 1 + a = p + a - 1 by omega]
theorem its_shf (a : Int) (x : Int → Bool) : ∀ t, its (shf a x) t = shf a (its x t)
  | 0 => rfl
  | t + 1 => by
    show stp (its (shf a x) t) = shf a (stp (its x t))
    rw [its_shf a x t, stp_shf]
theorem Per.shf {n : Nat} {x : Int → Bool} (h : Per n x) (a : Int) : Per n (shf a x) := fun p => by
  unfold JR.shf
  rw [show p + (n : Int) + a = p + a + n by omega, h]
theorem cnt_shf {n : Nat} {x : Int → Bool} (h : Per n x) (a : Int) : cnt (shf a x) 0 n = cnt x 0 n := by
  have e : cnt (shf a x) 0 n = cnt x (0 + a) n := cnt_shift x a 0 n
  rw [e]
  exact h.cnt _ _
theorem flw_shf {n : Nat} {x : Int → Bool} (h : Per n x) (a : Int) : flw n (shf a x) = flw n x := by
  have e : mov (shf a x) = shf a (mov x) := by
    funext p
    unfold mov shf
    rw [show p + 1 + a = p + a + 1 by omega]
  unfold flw
  rw [e]
  exact cnt_shf h.mov a
theorem most_shf {n : Nat} {x : Int → Bool} (h : Per n x) (a : Int) : most n (shf a x) = most n x := by
  unfold most
  rw [cnt_shf h]
end JR

namespace JR
open PySem PySem.Spec PyProof.Rows L2

/-! ### the text; built-in names -/
def topS (i : Nat) : Stmt := PySem.Challenge.pw_jamroad_k07_whole_exchanged.main.body.getD i (.Pass ⟨0, 0, 0, 0⟩)
/-- built-in names that the module does not bind -/
structure Blt (mg : Str → Option Value) : Prop where
  len : mg "len" = none
  isinstance : mg "isinstance" = none
  int : mg "int" = none
  bool : mg "bool" = none
  list : mg "list" = none
  str : mg "str" = none
  all : mg "all" = none
  any : mg "any" = none
  sum : mg "sum" = none
  min : mg "min" = none
  max : mg "max" = none
  range : mg "range" = none
  enumerate : mg "enumerate" = none
  reversed : mg "reversed" = none
  sorted : mg "sorted" = none
theorem bt_len : bootBuiltins "len" = some (.builtin "len") := PySem.boot_len
theorem bt_isinstance : bootBuiltins "isinstance" = some (.builtin "isinstance") := by decide +kernel
theorem bt_int : bootBuiltins "int" = some (.type "int") := by decide +kernel
theorem bt_bool : bootBuiltins "bool" = some (.type "bool") := by decide +kernel
theorem bt_list : bootBuiltins "list" = some (.type "list") := by decide +kernel
theorem bt_str : bootBuiltins "str" = some (.type "str") := by decide +kernel
theorem bt_all : bootBuiltins "all" = some (.builtin "all") := by decide +kernel
theorem bt_any : bootBuiltins "any" = some (.builtin "any") := by decide +kernel
theorem bt_sum : bootBuiltins "sum" = some (.builtin "sum") := by decide +kernel
theorem bt_min : bootBuiltins "min" = some (.builtin "min") := by decide +kernel
theorem bt_max : bootBuiltins "max" = some (.builtin "max") := by decide +kernel
theorem bt_sorted : bootBuiltins "sorted" = some (.builtin "sorted") := by decide +kernel
section
variable {X : Cx} {x : Str} {pos : Pos}
theorem pe_ty {T : String} (hg : Gl X x) (hm : X.mg x = none) (hv : bootBuiltins x = some (.type T)) (hn : x ≠ "__name__" := by decide) (hd : (x == ("__debug__" : Str)) = false := by decide) : PE X (.Name x pos) (tC (.ty T)) :=
  pe_bltn hg hm hv rfl hn hd
theorem pe_cls {C : Addr} (hg : Gl X x) (hm : X.mg x = some (.ref C)) (hd : (x == ("__debug__" : Str)) = false := by decide) : PE X (.Name x pos) (tC (.ref C)) := pe_glob hg hm rfl hd
end

/-! ### defs that may be called by their names (nothing raises) -/
structure Cal (P : Program) (w : World) (K : PySem.W.Frag) (mg : Str → Option Value) (base : Heap) (k : Nat) (x : Str) (sp : Sp) : Prop where
  ex : ∃ (f : Addr) (fd : FuncData) (ps : List Str), FnOk P w K mg base CX0 k f fd ps sp ∧ mg x = some (.ref f) ∧ PySem.W.keepIn K (.ref f) = true ∧ Binds K fd ps []
theorem pe_c {X : Cx} {k j : Nat} {x : Str} {sp : Sp} {p pos : Pos} {e : Expr} {es : List Expr} {t : TA} (c : Cal X.prog X.w X.K X.mg X.base k x sp) (hr : Room j X.A) (hk : k ≤ j) (hg : Gl X x) (ha : PA X (e :: es) t)
    (hdb : (x == ("__debug__" : Str)) = false := by decide) (he : starEach (e :: es) X.env = (false, eval e X.env) :: starEach es X.env := by rfl) (hpl : (backTo pos (starEach es X.env)).any (·.1) = false := by rfl) :
    PE X (.Call (.Name x p) (e :: es) [] pos) (tCall sp [] E0 t) := by
  obtain ⟨f, fd, ps, F, hm, kp, b⟩ := c.ex
  exact pe_call F (hr.mono hk) hg hm kp b .nil pass0 ha hdb he hpl

/-! ### the rules, the written part named -/
theorem ixlK (K : PySem.W.Frag) {X : Cx} (h : X.K = K := by rfl) : IxR X (rIxL K) := h ▸ ix_list
theorem ixtK (K : PySem.W.Frag) {X : Cx} (h : X.K = K := by rfl) : IxR X (rIxT K) := h ▸ ix_tup
theorem eqK (K : PySem.W.Frag) {X : Cx} (hu : X.A.units + 64 < cLine) (h : X.K = K := by rfl) : OpR X (compareOp .Eq) (rEqD K) := h ▸ op_eqD hu
theorem neK (K : PySem.W.Frag) {X : Cx} (hu : X.A.units + 64 < cLine) (h : X.K = K := by rfl) : OpR X (compareOp .NotEq) (rNeD K) := h ▸ op_neD hu
theorem inK (K : PySem.W.Frag) {X : Cx} (h : X.K = K := by rfl) : OpR X (compareOp .In) (rIn K false) := h ▸ op_in_seq
theorem notInK (K : PySem.W.Frag) {X : Cx} (h : X.K = K := by rfl) : OpR X (compareOp .NotIn) (rIn K true) := h ▸ op_notIn_seq
theorem isiK (K : PySem.W.Frag) {X : Cx} (h : X.K = K := by rfl) : CallR X (.builtin "isinstance") (rIsi K) := h ▸ call_isi
def rLenK (K : PySem.W.Frag) : List V → Hp → VK → Prop := fun xs H Q => ∃ p ys, xs = [.ref p] ∧ (SqL K H p ys ∨ SqT K H p ys) ∧ Q (.int ys.length) H
theorem lenK (K : PySem.W.Frag) {X : Cx} (h : X.K = K := by rfl) : CallR X (.builtin "len") (rLenK K) := by subst h; exact call_len_seq
def rListK (K : PySem.W.Frag) : List V → Hp → VK → Prop := fun xs H Q => ∃ p ys, xs = [.ref p] ∧ (SqL K H p ys ∨ SqT K H p ys) ∧ ∀ l, H l = none → Q (.ref l) (upd H l (.lst ys))
theorem listK (K : PySem.W.Frag) {X : Cx} (h : X.K = K := by rfl) : CallR X (.type "list") (rListK K) := by subst h; exact call_list_of
theorem allK (K : PySem.W.Frag) {X : Cx} (hc : X.calm = true) (h : X.K = K := by rfl) : CallR X (.builtin "all") (rAll K) := h ▸ cr_all hc
theorem anyK (K : PySem.W.Frag) {X : Cx} (hc : X.calm = true) (h : X.K = K := by rfl) : CallR X (.builtin "any") (rAny K) := h ▸ cr_any hc
theorem sumK (K : PySem.W.Frag) {X : Cx} (hc : X.calm = true) (h : X.K = K := by rfl) : CallR X (.builtin "sum") (rSum K) := h ▸ cr_sum hc
theorem minK (K : PySem.W.Frag) {X : Cx} (hc : X.calm = true) (h : X.K = K := by rfl) : CallR X (.builtin "min") (rMin K) := h ▸ cr_min hc
theorem maxK (K : PySem.W.Frag) {X : Cx} (hc : X.calm = true) (h : X.K = K := by rfl) : CallR X (.builtin "max") (rMax K) := h ▸ cr_max hc

/-! ### heaps -/
theorem same_new {H : Hp} {p : Addr} {o : HO} (h : H p = none) : Same H (upd H p o) := fun b x e => by
  rw [upd_ne (ne_of_none e h)]
  exact e
/-- what H does not know may change -/
theorem same_mut {H H' : Hp} {p : Addr} {o : HO} (s : Same H H') (h : H p = none) : Same H (upd H' p o) := fun b x e => by
  rw [upd_ne (ne_of_none e h)]
  exact s b x e
theorem Same.sqT {K : PySem.W.Frag} {H H' : Hp} {a : Addr} {xs : List V} (e : Same H H') (h : SqT K H a xs) : SqT K H' a xs := by
  rcases h with (h | ⟨o, h⟩) | h
  · exact .inl (.inl (e _ _ h))
  · exact .inl (.inr ⟨o, e _ _ h⟩)
  · exact .inr h
theorem lt_line {n : Nat} (h : n ≤ 100000) : n < sizeLine := Nat.lt_of_le_of_lt h (by decide)
theorem le_line {n : Nat} (h : n ≤ 100000) : n ≤ sizeLine := Nat.le_of_lt (lt_line h)
/-- what a list is -/
theorem ty_list {K : PySem.W.Frag} {H : Hp} {a : Addr} {xs : List V} (h : SqL K H a xs) : TyX K H (.ref a) (.type "list") := by
  rcases h with (h | ⟨o, h⟩) | ⟨o, its, n, hk, hc, _⟩
  · exact .base (.lst h)
  · exact .base (.frz h)
  · exact .kList hk hc

/-! ### lists of whole numbers by their items -/
def iL (n : Nat) (c : Nat → Int) : List V := (List.range n).map fun i => V.int (c i)
theorem iL_len (n : Nat) (c : Nat → Int) : (iL n c).length = n := by unfold iL; rw [List.length_map, List.length_range]
theorem iL_get {n : Nat} {c : Nat → Int} {i : Nat} (h : i < n) : (iL n c)[i]? = some (.int (c i)) := by
  unfold iL
  rw [List.getElem?_map, List.getElem?_range h]
  rfl
theorem iL_at {n : Nat} {c : Nat → Int} {i : Nat} {z : Int} (e : z = (i : Int)) (h : i < n) : atI (iL n c) z = some (.int (c i)) := at_of e (iL_get h)
theorem iL_lt {n : Nat} {c : Nat → Int} {i : Nat} {x : V} (h : (iL n c)[i]? = some x) : i < n ∧ x = .int (c i) := by
  have q := (List.getElem?_eq_some_iff.mp h).1
  rw [iL_len] at q
  rw [iL_get q] at h
  exact ⟨q, (Option.some.inj h).symm⟩
theorem iL_succ (n : Nat) (c : Nat → Int) : iL (n + 1) c = iL n c ++ [.int (c n)] := by
  unfold iL
  rw [List.range_succ, List.map_append]
  rfl
theorem iL_congr {n : Nat} {c d : Nat → Int} (h : ∀ i, i < n → c i = d i) : iL n c = iL n d := by
  unfold iL
  refine List.map_congr_left fun i hi => ?_
  rw [h i (List.mem_range.mp hi)]
theorem iL_inj {n : Nat} {c d : Nat → Int} (h : iL n c = iL n d) : ∀ i, i < n → c i = d i := fun i hi => by
  have e : (iL n c)[i]? = (iL n d)[i]? := by rw [h]
  rw [iL_get hi, iL_get hi] at e
  exact V.int.inj (Option.some.inj e)
/-- any list of whole numbers so -/
theorem iL_of (ns : List Int) : ns.map V.int = iL ns.length fun i => ns.getD i 0 := by
  refine List.ext_getElem? fun i => ?_
  rw [List.getElem?_map]
  by_cases h : i < ns.length
  · rw [iL_get h, List.getElem?_eq_getElem h, List.getD_eq_getElem?_getD, List.getElem?_eq_getElem h]
    rfl
  · rw [List.getElem?_eq_none (by omega), List.getElem?_eq_none (by rw [iL_len]; omega)]
    rfl
def toInts (n : Nat) (c : Nat → Int) : List Int := (List.range n).map c
theorem iL_toInts (n : Nat) (c : Nat → Int) : iL n c = (toInts n c).map V.int := by
  unfold iL toInts
  rw [List.map_map]
  rfl
theorem toInts_len (n : Nat) (c : Nat → Int) : (toInts n c).length = n := by unfold toInts; rw [List.length_map, List.length_range]

/-! ### == of lists of whole numbers -/
def dats (ns : List Int) : PyData := .list (ns.map .int)
theorem eqvAll_ints : ∀ xs ys : List Int, PyData.eqvAll (xs.map .int) (ys.map .int) = decide (xs = ys)
  | [], [] => rfl
  | [], y :: ys => rfl
  | x :: xs, [] => rfl
  | x :: xs, y :: ys => by
    have ih := eqvAll_ints xs ys
    show PyData.eqvAll (.int x :: xs.map .int) (.int y :: ys.map .int) = _
    rw [PyData.eqvAll, PyData.eqv, ih]
    by_cases e : x = y
    · subst e
      by_cases e2 : xs = ys
      · subst e2; simp
      · simp [e2]
    · simp [e]
theorem eqv_dats (xs ys : List Int) : PyData.eqv (dats xs) (dats ys) = decide (xs = ys) := by
  unfold dats
  rw [PyData.eqv]
  exact eqvAll_ints xs ys
theorem canLay_ints : ∀ xs : List Int, PyData.canLayAll0 (xs.map .int) = true
  | [] => rfl
  | x :: xs => by
    show (PyData.canLay0 (.int x) && PyData.canLayAll0 (xs.map .int)) = true
    rw [canLay_ints xs]
    rfl
theorem depth_ints : ∀ xs : List Int, PyData.depthAll (xs.map .int) = 0
  | [] => rfl
  | x :: xs => by
    show max (PyData.depth (.int x)) (PyData.depthAll (xs.map .int)) = 0
    rw [depth_ints xs]
    rfl
theorem shaped_dats (xs : List Int) : SeqAt.shaped (dats xs) = true := by
  unfold SeqAt.shaped dats
  rw [Bool.and_eq_true]
  refine ⟨canLay_ints xs, decide_eq_true ?_⟩
  show PyData.depthAll (xs.map .int) + 1 ≤ 64
  rw [depth_ints]
  decide
theorem dp_all {K : PySem.W.Frag} {H : Hp} : ∀ xs : List Int, DpAll K H (xs.map V.int) (xs.map PyData.int)
  | [] => .nil
  | x :: xs => .cons (.int x) (dp_all xs)
theorem dp_ints {K : PySem.W.Frag} {H : Hp} {a : Addr} {xs : List Int} (h : SqL K H a (xs.map V.int)) : Dp K H (.ref a) (dats xs) := .lst h (dp_all xs)
theorem eq_lists {K : PySem.W.Frag} {H : Hp} {a b : Addr} {xs ys : List Int} {Q : VK} (ha : SqL K H a (xs.map V.int)) (hb : SqL K H b (ys.map V.int)) (q : Q (.bl (decide (xs = ys))) H) : rEqD K (.ref a) (.ref b) H Q :=
  ⟨dats xs, dats ys, dp_ints ha, dp_ints hb, shaped_dats xs, shaped_dats ys, by rw [eqv_dats]; exact q⟩
theorem ne_lists {K : PySem.W.Frag} {H : Hp} {a b : Addr} {xs ys : List Int} {Q : VK} (ha : SqL K H a (xs.map V.int)) (hb : SqL K H b (ys.map V.int)) (q : Q (.bl (!decide (xs = ys))) H) : rNeD K (.ref a) (.ref b) H Q :=
  ⟨dats xs, dats ys, dp_ints ha, dp_ints hb, shaped_dats xs, shaped_dats ys, by rw [eqv_dats]; exact q⟩
/-- as many, by their items -/
theorem toInts_eq {n : Nat} {c d : Nat → Int} : toInts n c = toInts n d ↔ ∀ i, i < n → c i = d i := by
  constructor
  · intro h
    exact iL_inj (by rw [iL_toInts, iL_toInts, h])
  · intro h
    unfold toInts
    exact List.map_congr_left fun i hi => h i (List.mem_range.mp hi)
/-- equal lists of whole numbers: the two words -/
theorem iL_eq {K : PySem.W.Frag} {H : Hp} {a b : Addr} {n : Nat} {c d : Nat → Int} {Q : VK} (ha : SqL K H a (iL n c)) (hb : SqL K H b (iL n d)) (e : ∀ i, i < n → c i = d i) (q : Q (.bl true) H) : rEqD K (.ref a) (.ref b) H Q := by
  rw [iL_toInts] at ha hb
  refine eq_lists ha hb ?_
  rw [decide_eq_true (toInts_eq.mpr e)]
  exact q
theorem iL_ne {K : PySem.W.Frag} {H : Hp} {a b : Addr} {n : Nat} {c d : Nat → Int} {Q : VK} (ha : SqL K H a (iL n c)) (hb : SqL K H b (iL n d)) (e : ∀ i, i < n → c i = d i) (q : Q (.bl false) H) : rNeD K (.ref a) (.ref b) H Q := by
  rw [iL_toInts] at ha hb
  refine ne_lists ha hb ?_
  rw [decide_eq_true (toInts_eq.mpr e)]
  exact q

/-! ### rests -/
theorem fmod_rng (m : Int) {q : Nat} (hq : 0 < q) : ∃ k : Nat, k < q ∧ m.fmod (q : Int) = (k : Int) := by
  have h0 := Int.fmod_nonneg_of_pos m (show (0 : Int) < (q : Int) by omega)
  have h1 := Int.fmod_lt_of_pos m (show (0 : Int) < (q : Int) by omega)
  exact ⟨(m.fmod (q : Int)).toNat, by omega, by omega⟩
/-- an item of a written row at a rest -/
theorem at_rest (xs : List Int) (m : Int) (q : Nat) (hq : xs.length = q) (h0 : 0 < q) : ∃ v, v ∈ xs ∧ atI (xs.map V.int) (m.fmod (q : Int)) = some (.int v) := by
  obtain ⟨k, hk, e⟩ := fmod_rng m h0
  have hk' : k < xs.length := by omega
  refine ⟨xs[k], List.getElem_mem hk', ?_⟩
  refine at_of e ?_
  rw [List.getElem?_map, List.getElem?_eq_getElem hk']
  rfl
/-- % by a number above nought hands on a letter -/
theorem rd_mod {i j : Int} {q : Nat} {H : Hp} {Q : VK} (e : j = (q : Int)) (h : 0 < q) (k : ∀ r : Nat, r < q → i.fmod (q : Int) = (r : Int) → Q (.int (r : Int)) H) : rI (fun _ j => j ≠ 0) (fun i j => .int (i.fmod j)) (.int i) (.int j) H Q := by
  obtain ⟨r, h1, h2⟩ := fmod_rng i h
  subst e
  refine ⟨i, (q : Int), rfl, rfl, by omega, ?_⟩
  have := k r h1 h2
  rw [← h2] at this
  exact this

/-! ### a comprehension over a walk whose element is a value of the turn -/
theorem lc_fun {J : It} {n : Nat} {G : Hp → Prop} {Y : Nat → Hp → V → Hp → Prop} (w : Walk J n G Y) {g : TG} {tt : TT} {te : TE} {vs : List Nat} {σ : L2.St} {H1 : Hp} {D : Addr} {Qd : Hp → Prop} (f : Nat → V) (hn : n ≤ 100000) (hD : H1 D = none)
    (hG : ∀ H, Same H1 H → G H)
    (hs : ∀ (i : Nat) (x : V) (H H' : Hp), i < n → Same H1 H → Y i H x H' → ∀ (Q : VK) (R : Hp → Prop), (∀ H4, Same H H4 → Q (f i) H4) →
      g x (wipe σ vs) H' fun σ2 H2 => wipe σ2 vs = wipe σ vs ∧ tt σ2 H2 fun b H3 => if b = true then te σ2 H3 Q else R H3)
    (hd : ∀ H, Same H1 H → H D = some (.lst ((List.range n).map f)) → Qd H) :
    ∃ W : Nat → Nat → Hp → Prop, (∃ m, W 0 m (upd H1 D (.lst []))) ∧ ∀ i m H, W i m H →
      (J.stop i H ∧ Qd H) ∨ (J.go i H ∧ ∃ Nx : Hp → Prop, (∀ H', Nx H' → ∃ m', m' < m ∧ W (i + 1) m' H') ∧ ∀ x H', J.yld i H x H' → g x (wipe σ vs) H' fun σ2 H2 => wipe σ2 vs = wipe σ vs ∧ tt σ2 H2 fun b H3 =>
        if b = true then te σ2 H3 fun y H4 => ∃ acc, H4 D = some (.lst acc) ∧ acc.length < sizeLine ∧ Nx (upd H4 D (.lst (acc ++ [y]))) else Nx H3) := by
  refine lc_it w (fun i H => Same H1 H ∧ H D = some (.lst ((List.range i).map f))) ⟨same_new hD, upd_same⟩ (fun i H _ p => hG H p.1) (fun i x H H' hi p y => ?_) (fun H p => hd H p.1 p.2)
  refine hs i x H H' hi p.1 y _ _ fun H4 s4 => ?_
  refine ⟨_, s4 _ _ p.2, ?_, same_mut (p.1.trans s4) hD, ?_⟩
  · rw [List.length_map, List.length_range]
    exact lt_line (by omega)
  · rw [upd_same, List.range_succ, List.map_append]
    rfl
/-- .. with a test -/
def kept (n : Nat) (p : Nat → Bool) (f : Nat → V) : List V := ((List.range n).filter p).map f
theorem kept_succ (n : Nat) (p : Nat → Bool) (f : Nat → V) : kept (n + 1) p f = kept n p f ++ (if p n = true then [f n] else []) := by
  unfold kept
  rw [List.range_succ, List.filter_append, List.map_append]
  cases h : p n <;> simp [h]
theorem kept_len (n : Nat) (p : Nat → Bool) (f : Nat → V) : (kept n p f).length ≤ n := by
  unfold kept
  rw [List.length_map]
  have := List.length_filter_le p (List.range n)
  rw [List.length_range] at this
  exact this
theorem lc_if {J : It} {n : Nat} {G : Hp → Prop} {Y : Nat → Hp → V → Hp → Prop} (w : Walk J n G Y) {g : TG} {tt : TT} {te : TE} {vs : List Nat} {σ : L2.St} {H1 : Hp} {D : Addr} {Qd : Hp → Prop} (p : Nat → Bool) (f : Nat → V) (hn : n ≤ 100000) (hD : H1 D = none)
    (hG : ∀ H, Same H1 H → G H)
    (hs : ∀ (i : Nat) (x : V) (H H' : Hp), i < n → Same H1 H → Y i H x H' → ∀ (Q : VK) (R : Hp → Prop), (p i = true → ∀ H4, Same H H4 → Q (f i) H4) → (p i = false → ∀ H4, Same H H4 → R H4) →
      g x (wipe σ vs) H' fun σ2 H2 => wipe σ2 vs = wipe σ vs ∧ tt σ2 H2 fun b H3 => if b = true then te σ2 H3 Q else R H3)
    (hd : ∀ H, Same H1 H → H D = some (.lst (kept n p f)) → Qd H) :
    ∃ W : Nat → Nat → Hp → Prop, (∃ m, W 0 m (upd H1 D (.lst []))) ∧ ∀ i m H, W i m H →
      (J.stop i H ∧ Qd H) ∨ (J.go i H ∧ ∃ Nx : Hp → Prop, (∀ H', Nx H' → ∃ m', m' < m ∧ W (i + 1) m' H') ∧ ∀ x H', J.yld i H x H' → g x (wipe σ vs) H' fun σ2 H2 => wipe σ2 vs = wipe σ vs ∧ tt σ2 H2 fun b H3 =>
        if b = true then te σ2 H3 fun y H4 => ∃ acc, H4 D = some (.lst acc) ∧ acc.length < sizeLine ∧ Nx (upd H4 D (.lst (acc ++ [y]))) else Nx H3) := by
  refine lc_it w (fun i H => Same H1 H ∧ H D = some (.lst (kept i p f))) ⟨same_new hD, upd_same⟩ (fun i H _ q => hG H q.1) (fun i x H H' hi q y => ?_) (fun H q => hd H q.1 q.2)
  refine hs i x H H' hi q.1 y _ _ (fun hp H4 s4 => ?_) (fun hp H4 s4 => ?_)
  · refine ⟨_, s4 _ _ q.2, lt_line (Nat.le_trans (kept_len i p f) (by omega)), same_mut (q.1.trans s4) hD, ?_⟩
    rw [upd_same, kept_succ, if_pos hp]
  · refine ⟨q.1.trans s4, ?_⟩
    rw [s4 _ _ q.2, kept_succ, if_neg (by rw [hp]; decide), List.append_nil]
end JR

namespace JR
open PySem PySem.Spec PyProof.Rows L2
/-! ### enumerate(text) -/
def Itx (x : Str) : It := ⟨fun i _ => i < x.cps.size, fun i H v H' => ∃ T c, v = .ref T ∧ H T = none ∧ x.cps[i]? = some c ∧ H' = upd H T (.tup [.int (i : Nat), .str ⟨#[c]⟩]), fun i _ => x.cps.size ≤ i⟩
theorem draws_txt {prog : Program} {w : World} {A : Around} (hh : A.handled = none) (it : Addr) (x : Str) (t : Tok) {ty : String} (hty : ty = "str_ascii_iterator" ∨ ty = "str_iterator") :
    Draws prog w A it [it] x.cps.size (fun i v => ∃ c u, x.cps[i]? = some c ∧ v = .str ⟨#[c]⟩ u) (fun i h => h.IsStrIter it ty x t i) := by
  rcases hty with e | e
  · rw [e]; exact Draws.strAscii hh it x t
  · rw [e]; exact Draws.strWide hh it x t
theorem turn_enumS {P : Program} {w : World} {K : PySem.W.Frag} {elts : List Expr} {kk : Nat} {tpos : Pos} (x : Str) (t : Tok) (ty : String) (hty : ty = "str_ascii_iterator" ∨ ty = "str_iterator") (e it : Addr) :
    Turn P w K (.Tuple elts kk tpos) (Itx x) [e, it] e (fun i h => (∃ old, IsEnum h e it ((i : Nat) : Int) old) ∧ h.IsStrIter it ty x t i ∧ e ≠ it ∧ i ≤ x.cps.size) where
  mem := by simp
  obj := fun i h st b hb => by
    obtain ⟨⟨old, he⟩, ⟨o, ho, hc, hd⟩, _⟩ := st
    have e' : b = e ∨ b = it := by simpa using hb
    rcases e' with z | z
    · rw [z]; exact ⟨_, he, fun v q => nomatch q⟩
    · rw [z]; exact ⟨o, ho, fun v q => by rw [hd] at q; cases q⟩
  keep := fun i h h' st k => by
    obtain ⟨⟨old, he⟩, ⟨o, ho, r⟩, hne, hi⟩ := st
    exact ⟨⟨old, k e (by simp) _ he⟩, ⟨o, k it (by simp) _ ho, r⟩, hne, hi⟩
  item := by
    intro X hP hw hK hc i pins s σ H E I hf st hg
    subst hP hw hK
    obtain ⟨⟨old, he⟩, hit, hne, hi⟩ := st
    have hlt : i < x.cps.size := hg
    have hel : e < s.heap.objs.size := Heap.lt_size he
    have hil : it < s.heap.objs.size := by obtain ⟨_, q, _⟩ := hit; exact Heap.lt_size q
    refine wpAny_pyNext_enum_itemD (draws_txt (prog := X.prog) (w := X.w) (show X.A.in1.handled = none from I.ok.hd hc) it x t hty) he hit hlt hne (by simpa using hne) fun x' h' tk hP ho hit' hT hsz hk => ?_
    obtain ⟨c, u, hcx, rfl⟩ := hP
    refine ⟨_, rfl, wpAny_letOwnedTupleGo_enum (s := { s with heap := h', toks := tk + 1 }) ho fun h'' he' sb => ?_⟩
    have hT2 : h''.get? s.heap.objs.size = some { cls := .type "tuple", data := .seq #[.int i tk, .str ⟨#[c]⟩ u] } := (sb.2 _ (Nat.ne_of_gt hel)).trans hT
    have new : ObjOk X.prog X.w (upd H s.heap.objs.size (.tup [.int (i : Nat), .str ⟨#[c]⟩])) h'' s.heap.objs.size (.tup [.int (i : Nat), .str ⟨#[c]⟩]) :=
      ⟨by show 2 ≤ sizeLine; decide, [.int i tk, .str ⟨#[c]⟩ u], .cons ⟨_, rfl⟩ (.cons ⟨_, rfl⟩ .nil), ⟨_, hT2, rfl, _, rfl⟩⟩
    have I1 : Inv X pins σ (upd H s.heap.objs.size (.tup [.int (i : Nat), .str ⟨#[c]⟩])) { s with heap := h'', toks := tk + 1 } :=
      I.turnedNew (ch := [e, it]) (fun b ob hb q => (sb.2 b (fun z => hb (by simp [z]))).trans (hk b ob (fun z => hb (by simp [z])) (fun z => hb (by simp [z])) q)) hf (Nat.le_refl _) new
    refine ⟨.ref s.heap.objs.size, _, I1, rfl, ⟨_, c, rfl, I.hok.fresh (Nat.le_refl _), hcx, rfl⟩, ⟨⟨.str ⟨#[c]⟩ u, ?_⟩, ?_, hne, hlt⟩, fun b hb => ?_⟩
    · have e1 : ((i + 1 : Nat) : Int) = (i : Int) + 1 := by omega
      rw [e1]; exact he'
    · obtain ⟨o, ho2, r⟩ := hit'
      exact ⟨o, (sb.2 it (Ne.symm hne)).trans ho2, r⟩
    · have hb' : b < s.heap.objs.size := by
        have e' : b = e ∨ b = it := by simpa using hb
        rcases e' with z | z
        · rw [z]; exact hel
        · rw [z]; exact hil
      rw [upd_ne (Nat.ne_of_lt hb')]
      exact (hf b hb).1
  done := by
    intro X hP hw hK hc i pins s σ H E I hf st hg
    subst hP hw hK
    obtain ⟨⟨old, he⟩, hit, hne, hi⟩ := st
    obtain ⟨f0, f1, f2, f3, f4, f5⟩ := hf it (by simp)
    have hge : x.cps.size ≤ i := hg
    have ei : i = x.cps.size := by omega
    subst ei
    exact wpAny_pyNext_enum_endD (draws_txt (prog := X.prog) (w := X.w) (show X.A.in1.handled = none from I.ok.hd hc) it x t hty) he hit fun h' eb => ⟨rfl, I.turned (t' := s.toks) (fun b o hb q => eb b o hb q) f0 f1 f3 f4 f5⟩
  self := fun A i s Q E st h => let ⟨⟨_, he⟩, _⟩ := st; wpAny_pyIter_enum he h
def iEnumS (ta : TA) : TI := fun σ H R => ta σ H fun vs H1 => ∃ x, vs = [.str x] ∧ R (Itx x) H1
theorem pi_enumS {X : Cx} {e : Expr} {ta : TA} {p pos tpos : Pos} {elts : List Expr} {kk : Nat} (hg : Gl X "enumerate") (hm : X.mg "enumerate" = none) (ha : PA X [e] ta) (hs : starEach [e] X.env = [(false, eval e X.env)] := by rfl) :
    PI X (.Tuple elts kk tpos) (.Call (.Name "enumerate" p) [e] [] pos) (iEnumS ta) := by
  refine ⟨fun pins s σ H R I h => ?_⟩
  refine Call_ (ld_blt I hg hm boot_enumerate (PyProof.Rows.callWith_type1 (thn (ha.run pos pins s σ H _ I h) fun us s1 ⟨vs, H1, I1, r1, q1⟩ => ?_) hs rfl))
  obtain ⟨x, ex, q⟩ := q1
  subst ex
  cases r1 with
  | cons r rr =>
    cases rr
    obtain ⟨t, rfl⟩ := r
    refine call_enumerate_str fun h' he hit hsz hk => wpAny_pyIter_enum he ?_
    have I2 : Inv X pins σ H1 { s1 with heap := h' } := I1.kept (t' := s1.toks) hk
    have hty : strIterType x = "str_ascii_iterator" ∨ strIterType x = "str_iterator" := by
      unfold strIterType
      split
      · exact .inl rfl
      · exact .inr rfl
    refine ⟨s1.heap.objs.size + 1, [s1.heap.objs.size + 1, s1.heap.objs.size], _, _, H1, rfl, I2, turn_enumS x t (strIterType x) hty (s1.heap.objs.size + 1) s1.heap.objs.size, ⟨⟨.none, he⟩, hit, Nat.succ_ne_self _, Nat.zero_le _⟩, fun b hb => ?_, q⟩
    have e' : b = s1.heap.objs.size + 1 ∨ b = s1.heap.objs.size := by simpa using hb
    have hle : s1.heap.objs.size ≤ b := by
      rcases e' with z | z
      · rw [z]; exact Nat.le_add_right _ _
      · rw [z]; exact Nat.le_refl _
    exact I1.fpOk hle (I1.hok.fresh hle)
theorem walk_enumS {x : Str} {n : Nat} (hn : x.cps.size = n) : Walk (Itx x) n (fun _ => True) (fun i H v H' => ∃ T c, v = .ref T ∧ H T = none ∧ x.cps[i]? = some c ∧ H' = upd H T (.tup [.int (i : Nat), .str ⟨#[c]⟩])) :=
  ⟨fun i H hi _ => (by subst hn; exact hi), fun H _ => (by subst hn; exact Nat.le_refl _), fun i H v H' _ _ y => y⟩
theorem walk_signs {x : Str} {n : Nat} (hn : x.cps.size = n) : Walk (Its x) n (fun _ => True) (fun i H v H' => H' = H ∧ ∃ c, x.cps[i]? = some c ∧ v = .str ⟨#[c]⟩) :=
  ⟨fun i H hi _ => (by subst hn; exact hi), fun H _ => (by subst hn; exact Nat.le_refl _), fun i H v H' _ _ y => y⟩
/-! ### text[::-1] -/
def tRevS (te : TE) : TE := fun σ H Q => te σ H fun x H1 => ∃ z : Str, x = .str z ∧ z.length ≤ sizeLine ∧ Q (.str ⟨z.cps.toList.reverse.toArray⟩) H1
theorem pe_revS {X : Cx} {e : Expr} {te : TE} {k : Nat} {p1 p2 p3 pos : Pos} (he : PE X e te) : PE X (.Subscript e (.Slice none none (some (.UnaryOp .USub (.Constant (.int 1) k p1) p2)) p3) pos) (tRevS te) := by
  refine ⟨fun pins s σ H Q I h => ?_⟩
  refine Subscript_ (thn (he.run pins s σ H _ I h) fun v s1 ⟨x, H1, I1, r1, q1⟩ => ?_)
  obtain ⟨z, ex, hz, q⟩ := q1
  subst ex
  obtain ⟨t, rfl⟩ := r1
  have hst : PO X (some (.UnaryOp .USub (.Constant (.int 1) k p1) p2)) (tPart (tUn (rU fun i => .int (-i)) (tC (.int 1)))) := po_some (pe_un un_neg pe_int)
  refine wpAny_Slice (thn (po_none.run pins s1 σ H1 (fun o H2 => o = none ∧ H2 = H1) I1 ⟨rfl, rfl⟩) fun vl s2 ⟨l, H2, I2, pl, el, e2⟩ => ?_)
  subst el e2
  refine thn (po_none.run pins s2 σ H2 (fun o H3 => o = none ∧ H3 = H2) I2 ⟨rfl, rfl⟩) fun vu s3 ⟨u, H3, I3, pu, eu, e3⟩ => ?_
  subst eu e3
  refine thn (hst.run pins s3 σ H3 (fun o H4 => o = some (-1) ∧ H4 = H3) I3 ⟨1, rfl, -1, rfl, rfl, rfl⟩) fun vs s4 ⟨o, H4, I4, ps, eo, e4⟩ => ?_
  subst eo e4
  have I5 : Inv X pins σ H4 { s4 with heap := s4.heap.push { cls := .type "slice", data := .fields #[vl, vu, vs] } } := I4.kept (t' := s4.toks) fun b ob q => Heap.get?_push_of_some _ q
  show wpAny (model X.prog X.w) X.A (subscriptTail e (.Slice none none (some (.UnaryOp .USub (.Constant (.int 1) k p1) p2)) p3) (.str z t) (.ref s4.heap.objs.size)) (EP X pins σ Q) X.xe { s4 with heap := s4.heap.push { cls := .type "slice", data := .fields #[vl, vu, vs] } }
  refine tail_any (ops := [.str z t, .ref s4.heap.objs.size]) (typeIs_str _ z t) PySem.F.slot_str_getitem.lookup ?_ (by with_unfolding_all rfl)
  obtain ⟨l, rfl, el⟩ := IsPart.raw pl
  obtain ⟨u, rfl, eu⟩ := IsPart.raw pu
  obtain ⟨m, rfl, em⟩ := IsPart.raw ps
  have hm : ((m.map (·.1)).getD 1) = -1 := by rw [em]; rfl
  refine wpAny_getItem_str_slice (l := l) (u := u) (st := m) ⟨_, Heap.get?_push_size _ rfl, rfl, rfl⟩ (by rw [hm]; rfl) ?_
  have epick : ((slicePicked z l u m).filterMap (z.cps[·]?)) = z.cps.toList.reverse := by
    unfold slicePicked
    rw [el, eu, hm]
    show (Builtin.Str.strSliceIndices none none (-1) z.cps.size).filterMap (z.cps[·]?) = _
    show (sliceRange ((z.cps.size : Int) - 1) (-1) (-1)).filterMap (z.cps[·]?) = _
    rw [PySem.W.krv_sliceRange, PySem.W.krv_range, List.filterMap_reverse, PySem.W.krv_all]
  unfold sliceMade
  rw [hm, if_neg (by rw [show ((-1 : Int) == 1) = false from rfl, Bool.false_and]; decide), epick]
  refine ⟨?_, .str _, H4, I5.tok _, ⟨_, rfl⟩, q⟩
  show (z.cps.toList.reverse.toArray).size ≤ sizeLine
  rw [List.size_toArray, List.length_reverse, Array.length_toList]
  exact hz
/-! ### sorted(text), fewer than 64 signs -/
def signs (z : Str) : List Str := z.cps.toList.map fun c => ⟨#[c]⟩
def rSortedTxt : List V → Hp → VK → Prop := fun xs H Q => ∃ z : Str, xs = [.str z] ∧ z.cps.size < 64 ∧ ∀ (ys : List Str) (p : Addr), ys.Perm (signs z) → H p = none → Q (.ref p) (upd H p (.lst (ys.map V.str)))
theorem strs_by : ∀ {us : List Value} {ks : List Str}, us.length = ks.length → (∀ (j : Nat) (v : Value), us[j]? = some v → ∃ (x : Str) (t : Tok), ks[j]? = some x ∧ v = Value.str x t) → StrsAre us ks
  | [], [], _, _ => .nil
  | [], _ :: _, hl, _ => absurd hl (by simp)
  | _ :: _, [], hl, _ => absurd hl (by simp)
  | u :: us, k :: ks, hl, h => by
    obtain ⟨x, t, e1, e2⟩ := h 0 u rfl
    cases e1
    subst e2
    exact .cons _ _ (strs_by (Nat.succ.inj hl) fun j v e => h (j + 1) v e)
theorem cr_sortedTxt {X : Cx} (hc : X.calm = true) : CallR X (.builtin "sorted") rSortedTxt := by
  intro pins s σ H xs us Q I r h
  obtain ⟨z, rfl, hz, q⟩ := h
  obtain ⟨u, rfl, t, rfl⟩ := vals1 r
  refine Calls.call_function_entry kind_sorted plain_sorted entry_sorted (args_sorted1 _) ?_
  unfold Builtin.«sorted»
  refine wpAny_bind (m := checkCount "sorted" 1 1 _) (wpAny_pure ?_)
  have hn : z.cps.size ≤ sizeLine := Nat.le_trans (Nat.le_of_lt hz) (by decide)
  refine wpAny_bind (wpAny_collect_str (show X.A.in1.handled = none from I.ok.hd hc) z t (fun s' acc hk hg hd ho hacc => ?_) hn)
  obtain ⟨h1, g1, d1, tk1, os1⟩ := s'
  have hg : g1 = s.gens := hg
  have hd : d1 = s.drawn := hd
  have ho : os1 = s.os := ho
  subst hg hd ho
  have hlen : acc.toList.length = z.cps.size := by rw [Array.length_toList]; exact hacc.1
  have hS : StrsAre acc.toList (signs z) := by
    refine strs_by (by unfold signs; rw [hlen, List.length_map, Array.length_toList]) fun j v e => ?_
    obtain ⟨c, u, h2, h3⟩ := hacc.2 j v (by rw [← Array.getElem?_toList]; exact e)
    refine ⟨⟨#[c]⟩, u, ?_, h3⟩
    unfold signs
    rw [List.getElem?_map, Array.getElem?_toList, h2]
    rfl
  refine wpAny_bind (wpAny_newList ?_ (by omega))
  have hoL : (h1.push (seqObj "list" acc.toList.toArray 0)).get? h1.objs.size = some (seqObj "list" acc.toList.toArray 0) := Heap.get?_push_size _ rfl
  show wpAny _ _ _ _ _ { s with heap := h1.push (seqObj "list" acc.toList.toArray 0), toks := tk1 }
  refine wpAny_bind (wpAny_holding (wpAny_call_entry slot_list_sort ⟨_, hoL, rfl⟩ entry_list_sort (list_sort_treeK strKind_oneLt hoL hS.keysOf (fun v₁ v₂ rest e => keyKind_strs (by rw [← e]; exact hS)) (by rw [hlen]; exact hz) fun st' hp hs => ⟨_, rfl, ?_⟩) (args_list_sort _)))
  obtain ⟨ys, y1, y2, y3⟩ := sorted_out_str hS hp hs
  obtain ⟨ep, he'⟩ := PyProof.Rows.sortedHeap_at (vs := acc.toList) (out := (arrOf st').map (·.2)) hoL
  have I1 : Inv X pins σ H { s with heap := h1, toks := tk1 } := I.kept (t' := tk1) hk
  have hl2 : (ys.map V.str).length ≤ sizeLine := by
    rw [List.length_map, y2.length_eq]
    unfold signs
    rw [List.length_map, Array.length_toList]
    exact hn
  refine wpAny_pure ⟨_, rfl, .ref _, upd H h1.objs.size (.lst (ys.map V.str)), I1.laid (t' := tk1) (fun b ob e => ?_) (Nat.le_refl _) ⟨hl2, ((arrOf st').map (·.2)).toList, ep, vals_of_strs y1, by rw [Array.toArray_toList]; exact he'⟩, rfl, q _ _ y2 (I1.hok.fresh (Nat.le_refl _))⟩
  have hlt : b < h1.objs.size := Heap.lt_size e
  rw [PyProof.Rows.sortedHeap_old (Nat.ne_of_lt hlt) (by rw [Heap.size_push]; exact Nat.lt_succ_of_lt hlt)]
  exact Heap.get?_push_of_some _ e
end JR

namespace JR
open PySem PySem.Spec PyProof.Rows L2
/-! ### rings as texts -/
def code (b : Bool) : Nat := if b = true then 99 else 46
def one (b : Bool) : Str := ⟨#[code b]⟩
/-- the text of a ring of n places -/
def tx (n : Nat) (x : Int → Bool) : Str := ⟨((List.range n).map fun i => code (x (i : Nat))).toArray⟩
theorem code_inj {a b : Bool} (h : code a = code b) : a = b := by
  cases a <;> cases b <;> first | rfl | exact absurd h (by decide)
theorem one_c : one true = ("c" : Str) := by decide +kernel
theorem one_d : one false = ("." : Str) := by decide +kernel
theorem is_c (b : Bool) : decide (V.str (one b) = V.str ("c" : Str)) = b := by
  cases b with
  | true => exact decide_eq_true (congrArg V.str one_c)
  | false => exact decide_eq_false fun h => absurd (V.str.inj h) (by decide +kernel)
theorem is_d (b : Bool) : decide (V.str (one b) = V.str ("." : Str)) = !b := by
  cases b with
  | false => exact decide_eq_true (congrArg V.str one_d)
  | true => exact decide_eq_false fun h => absurd (V.str.inj h) (by decide +kernel)
section
variable {n : Nat} {x y : Int → Bool}
theorem tx_list : (tx n x).cps.toList = (List.range n).map fun i => code (x (i : Nat)) := rfl
theorem tx_size : (tx n x).cps.size = n := by
  unfold tx
  rw [List.size_toArray, List.length_map, List.length_range]
theorem tx_len : (tx n x).length = n := tx_size
theorem tx_get {i : Nat} (h : i < n) : (tx n x).cps[i]? = some (code (x i)) := by
  rw [← Array.getElem?_toList, tx_list, List.getElem?_map, List.getElem?_range h]
  rfl
theorem tx_sign {i c : Nat} (h : i < n) (e : (tx n x).cps[i]? = some c) : (⟨#[c]⟩ : Str) = one (x i) := by
  rw [tx_get h] at e
  cases e
  rfl
theorem tx_at (h : Per n x) (hn : 0 < n) {z : Int} (h1 : -1 ≤ z) (h2 : z < n) : atI (tx n x).cps.toList z = some (code (x z)) := by
  by_cases h0 : 0 ≤ z
  · obtain ⟨i, rfl⟩ : ∃ i : Nat, z = (i : Int) := ⟨z.toNat, by omega⟩
    refine atI_nat ?_
    rw [tx_list, List.getElem?_map, List.getElem?_range (by omega)]
    rfl
  · have e : z = -1 := by omega
    subst e
    obtain ⟨m, rfl⟩ : ∃ m, n = m + 1 := ⟨n - 1, by omega⟩
    rw [tx_list, List.range_succ, List.map_append]
    have e := atI_last ((List.range m).map fun i => code (x ((i : Nat) : Int))) (code (x (m : Nat)))
    rw [show x (-1) = x (m : Nat) by
      have := h (-1)
      rw [show (-1 : Int) + ((m + 1 : Nat) : Int) = (m : Nat) by omega] at this
      exact this.symm]
    exact e
theorem tx_congr (h : ∀ i : Nat, i < n → x i = y i) : tx n x = tx n y := by
  unfold tx
  refine congrArg (fun l : List Nat => (⟨l.toArray⟩ : Str)) (List.map_congr_left fun i hi => ?_)
  rw [h i (List.mem_range.mp hi)]
theorem tx_inj (h : tx n x = tx n y) : ∀ i : Nat, i < n → x i = y i := fun i hi => by
  have e : (tx n x).cps[i]? = (tx n y).cps[i]? := by rw [h]
  rw [tx_get hi, tx_get hi] at e
  exact code_inj (Option.some.inj e)
/-! ### joined -/
def onesL (n : Nat) (x : Int → Bool) : List Str := (List.range n).map fun i => one (x (i : Nat))
theorem joinL_one {α : Type} (f : α → Nat) : ∀ l : List α, TL.joinL [] (l.map fun a => [f a]) = l.map f
  | [] => rfl
  | [a] => rfl
  | a :: b :: r => by
    show [f a] ++ ([] ++ TL.joinL [] ((b :: r).map fun a => [f a])) = _
    rw [joinL_one f (b :: r)]
    rfl
theorem join_ones : Txt.join (SX.S []) (onesL n x) = tx n x := by
  have e : onesL n x = ((List.range n).map fun i => [code (x (i : Nat))]).map SX.S := by
    unfold onesL
    rw [List.map_map]
    rfl
  rw [e, SX.join_S, joinL_one]
  rfl
theorem ones_sum : ((onesL n x).map (·.length)).sum + (onesL n x).length * 0 = n := by
  rw [Nat.mul_zero, Nat.add_zero]
  unfold onesL
  rw [List.map_map]
  induction n with
  | zero => rfl
  | succ n ih =>
    rw [List.range_succ, List.map_append, List.sum_append, ih]
    rfl
theorem ones_V : (onesL n x).map V.str = (List.range n).map fun i => V.str (one (x (i : Nat))) := by
  unfold onesL
  rw [List.map_map]
  rfl
/-! ### slices -/
theorem tx_S : tx n x = SX.S ((List.range n).map fun i => code (x (i : Nat))) := rfl
theorem cut_from {f : Int} (h : 0 ≤ f) : cutS (tx n x) (some f) none = SX.S (((List.range n).map fun i => code (x (i : Nat))).drop f.toNat) := by
  rw [C8.cutS_slice]
  exact SX.slice_from h
theorem cut_to {f : Int} (h : 0 ≤ f) : cutS (tx n x) none (some f) = SX.S (((List.range n).map fun i => code (x (i : Nat))).take f.toNat) := by
  rw [C8.cutS_slice]
  exact SX.slice_to h
theorem tx_turn (h : Per n x) {f : Int} (h0 : 0 ≤ f) (h1 : f ≤ n) : cutS (tx n x) (some f) none ++ cutS (tx n x) none (some f) = tx n (shf f x) := by
  rw [cut_from h0, cut_to h0, SX.S_cat, tx_S]
  refine congrArg SX.S ?_
  obtain ⟨g, rfl⟩ : ∃ g : Nat, f = (g : Int) := ⟨f.toNat, by omega⟩
  rw [Int.toNat_natCast]
  refine List.ext_getElem? fun i => ?_
  by_cases hi : i < n
  · rw [List.getElem?_map (l := List.range n) (i := i), List.getElem?_range hi]
    by_cases hg : i < n - g
    · rw [List.getElem?_append_left (by rw [List.length_drop, List.length_map, List.length_range]; exact hg), List.getElem?_drop, List.getElem?_map, List.getElem?_range (by omega)]
      show some (code (x ((g + i : Nat) : Int))) = some (code (x ((i : Nat) + (g : Int))))
      rw [show ((g + i : Nat) : Int) = (i : Nat) + (g : Int) by omega]
    · rw [List.getElem?_append_right (by rw [List.length_drop, List.length_map, List.length_range]; omega), List.length_drop, List.length_map, List.length_range, List.getElem?_take_of_lt (by omega), List.getElem?_map, List.getElem?_range (by omega)]
      show some (code (x ((i - (n - g) : Nat) : Int))) = some (code (x ((i : Nat) + (g : Int))))
      have := h.neg ((i : Nat) + (g : Int))
      rw [show ((i : Nat) : Int) + (g : Int) - (n : Int) = ((i - (n - g) : Nat) : Int) by omega] at this
      rw [this]
  · rw [List.getElem?_eq_none (by rw [List.length_append, List.length_drop, List.length_take, List.length_map, List.length_range]; omega), List.getElem?_eq_none (by rw [List.length_map, List.length_range]; omega)]
theorem tx_more (h : Per n x) : tx n x ++ one (x 0) = tx (n + 1) x := by
  rw [tx_S, tx_S, show one (x 0) = SX.S [code (x 0)] from rfl, SX.S_cat, List.range_succ, List.map_append]
  have e := h 0
  rw [show (0 : Int) + (n : Int) = ((n : Nat) : Int) by omega] at e
  rw [← e]
  rfl
/-- one place on, one back -/
theorem tx_tail (h : Per n x) (hn : 0 < n) : cutS (tx n x) (some 1) none ++ one (x 0) = tx n (fun p => x (p + 1)) := by
  have e := tx_turn h (f := 1) (by decide) (by omega)
  have e2 : cutS (tx n x) none (some 1) = one (x 0) := by
    rw [cut_to (by decide)]
    obtain ⟨m, rfl⟩ : ∃ m, n = m + 1 := ⟨n - 1, by omega⟩
    rw [List.range_succ_eq_map]
    rfl
  rw [e2] at e
  exact e
theorem tx_head (h : Per n x) (hn : 0 < n) : one (x (-1)) ++ cutS (tx n x) none (some (-1)) = tx n (fun p => x (p - 1)) := by
  rw [C8.cutS_slice, tx_S, SX.slice_butlast (by
    obtain ⟨m, rfl⟩ : ∃ m, n = m + 1 := ⟨n - 1, by omega⟩
    rw [List.range_succ_eq_map]
    exact List.cons_ne_nil _ _), show one (x (-1)) = SX.S [code (x (-1))] from rfl, SX.S_cat, tx_S]
  refine congrArg SX.S ?_
  rw [List.length_map, List.length_range]
  obtain ⟨m, rfl⟩ : ∃ m, n = m + 1 := ⟨n - 1, by omega⟩
  rw [Nat.add_sub_cancel, ← List.map_take, List.take_range, Nat.min_eq_left (by omega), List.range_succ_eq_map, List.map_cons, List.map_map]
  show code (x (-1)) :: _ = code (x (((0 : Nat) : Int) - 1)) :: _
  rw [show ((0 : Nat) : Int) - 1 = -1 by omega]
  refine congrArg (List.cons _) (List.map_congr_left fun i _ => ?_)
  show code (x (i : Nat)) = code (x (((i + 1 : Nat) : Int) - 1))
  rw [show ((i + 1 : Nat) : Int) - 1 = (i : Nat) by omega]
/-- read from behind -/
theorem tx_rev : (⟨(tx n x).cps.toList.reverse.toArray⟩ : Str) = tx n (fun p => x (n - 1 - p)) := by
  refine congrArg (fun l : List Nat => (⟨l.toArray⟩ : Str)) ?_
  rw [tx_list]
  refine List.ext_getElem? fun i => ?_
  by_cases hi : i < n
  · rw [List.getElem?_reverse (by rw [List.length_map, List.length_range]; exact hi), List.length_map, List.length_range, List.getElem?_map, List.getElem?_map, List.getElem?_range (by omega), List.getElem?_range hi]
    show some (code (x ((n - 1 - i : Nat) : Int))) = some (code (x ((n : Int) - 1 - (i : Nat))))
    rw [show ((n - 1 - i : Nat) : Int) = (n : Int) - 1 - (i : Nat) by omega]
  · rw [List.getElem?_eq_none (by rw [List.length_reverse, List.length_map, List.length_range]; omega), List.getElem?_eq_none (by rw [List.length_map, List.length_range]; omega)]
/-! ### counted -/
open PySem.StrLaws PySem.Builtin.Str in
theorem occ_many (s sub : Str) (hi limit : Nat) (y : Int → Bool) (hy : ∀ i : Nat, y (i : Int) = decide (i + sub.length ≤ hi ∧ subAt s sub i = true)) (hno : ∀ i j : Nat, y (i : Int) = true → i < j → j < i + sub.length → y (j : Int) = false) :
    ∀ (k a : Nat) (st : Array Nat × Nat), st.1.size + k ≤ limit → (∀ j : Nat, a ≤ j → j < st.2 → y (j : Int) = false) → (forIn (List.range' a k) st (occBody s sub hi limit)).run.fst.size = st.1.size + cnt y (a : Int) k
  | 0, a, st, _, _ => rfl
  | k + 1, a, st, hl, hf => by
    rw [List.range'_succ, List.forIn_cons, cnt_left]
    unfold occBody
    cases q : y (a : Int) with
    | true =>
      have e := hy a
      rw [q] at e
      have e := of_decide_eq_true e.symm
      have hle : st.2 ≤ a := by
        refine Classical.byContradiction fun h => ?_
        have := hf a (Nat.le_refl a) (by omega)
        rw [q] at this
        cases this
      rw [if_pos ⟨⟨⟨by omega, hle⟩, e.1⟩, e.2⟩]
      have ih := occ_many s sub hi limit y hy hno k (a + 1) (st.1.push a, a + sub.length) (by show (st.1.push a).size + k ≤ limit; rw [Array.size_push]; omega) fun j h1 h2 => hno a j q (by omega) h2
      rw [show ((a + 1 : Nat) : Int) = (a : Int) + 1 by omega] at ih
      refine ih.trans ?_
      show (st.1.push a).size + _ = _
      rw [Array.size_push]
      show _ = st.1.size + (1 + _)
      omega
    | false =>
      have e := hy a
      rw [q] at e
      have e := of_decide_eq_false e.symm
      rw [if_neg fun h => e ⟨h.1.2, h.2⟩]
      have ih := occ_many s sub hi limit y hy hno k (a + 1) (st.1, st.2) (by show st.1.size + k ≤ limit; omega) fun j h1 h2 => hf j (by omega) h2
      rw [show ((a + 1 : Nat) : Int) = (a : Int) + 1 by omega] at ih
      refine ih.trans ?_
      show _ = st.1.size + (0 + _)
      rw [Nat.zero_add]
theorem count_of (s sub : Str) (y : Int → Bool) (hy : ∀ i : Nat, y (i : Int) = decide (i + sub.length ≤ s.length ∧ Builtin.Str.subAt s sub i = true)) (hno : ∀ i j : Nat, y (i : Int) = true → i < j → j < i + sub.length → y (j : Int) = false) :
    Txt.count s sub = ((cnt y 0 (s.length + 1) : Nat) : Int) := by
  unfold Txt.count
  rw [PySem.StrLaws.occ_eq, Array.length_toList]
  have e := occ_many s sub s.length (s.length + 1) y hy hno (s.length + 1) 0 (#[], 0) (by show 0 + (s.length + 1) ≤ s.length + 1; omega) fun j _ h2 => absurd h2 (Nat.not_lt_zero j)
  rw [show s.length + 1 - 0 = s.length + 1 by omega, e]
  show ((0 + cnt y 0 (s.length + 1) : Nat) : Int) = _
  rw [Nat.zero_add]
theorem tx_ext1 {i : Nat} (h : i < n) : (tx n x).cps.extract i (i + 1) = #[code (x i)] := by
  refine Array.ext_getElem? fun j => ?_
  rw [Array.getElem?_extract]
  cases j with
  | zero =>
    rw [if_pos (by rw [tx_size]; omega), Nat.add_zero, tx_get h]
    rfl
  | succ j =>
    rw [if_neg (by omega)]
    rfl
theorem tx_ext2 {i : Nat} (h : i + 1 < n) : (tx n x).cps.extract i (i + 2) = #[code (x i), code (x (i + 1))] := by
  refine Array.ext_getElem? fun j => ?_
  rw [Array.getElem?_extract]
  cases j with
  | zero =>
    rw [if_pos (by rw [tx_size]; omega), Nat.add_zero, tx_get (by omega)]
    rfl
  | succ j =>
    cases j with
    | zero =>
      rw [if_pos (by rw [tx_size]; omega), tx_get h]
      rfl
    | succ j =>
      rw [if_neg (by omega)]
      rfl
theorem count_one (b : Bool) : Txt.count (tx n x) (one b) = ((cnt (fun p => x p == b) 0 n : Nat) : Int) := by
  have e := count_of (tx n x) (one b) (fun p => decide (p < n) && (x p == b)) (fun i => ?_) (fun i j _ h1 h2 => ?_)
  · rw [e, tx_len]
    refine congrArg (fun k : Nat => (k : Int)) ?_
    show cnt _ 0 n + b2n (decide ((0 : Int) + (n : Nat) < n) && (x (0 + (n : Nat)) == b)) = _
    rw [decide_eq_false (by omega), Bool.false_and]
    show cnt _ 0 n + 0 = _
    rw [Nat.add_zero]
    refine cnt_congr fun i hi => ?_
    show (decide ((0 : Int) + (i : Nat) < n) && _) = _
    rw [decide_eq_true (by omega), Bool.true_and]
  · show (decide (((i : Nat) : Int) < n) && (x i == b)) = _
    rw [tx_len]
    by_cases h : i < n
    · rw [decide_eq_true (by omega), Bool.true_and]
      have e2 : Builtin.Str.subAt (tx n x) (one b) i = (x i == b) := by
        show ((tx n x).cps.extract i (i + 1) == #[code b]) = _
        rw [tx_ext1 h]
        cases x i <;> cases b <;> decide
      rw [e2]
      have e3 : i + (one b).length ≤ n := h
      cases q : (x (i : Nat) == b) with
      | true => exact (decide_eq_true ⟨e3, rfl⟩).symm
      | false => exact (decide_eq_false fun z => absurd z.2 (by decide)).symm
    · rw [decide_eq_false (by omega), Bool.false_and]
      exact (decide_eq_false fun z => h (show i + 1 ≤ n from z.1)).symm
  · exact absurd h2 (by show ¬ j < i + 1; omega)
theorem count_c : Txt.count (tx n x) ("c" : Str) = ((cnt x 0 n : Nat) : Int) := by
  rw [← one_c, count_one]
  refine congrArg (fun k : Nat => (k : Int)) (cnt_congr fun i _ => ?_)
  show (x (0 + (i : Nat)) == true) = _
  cases x (0 + (i : Nat)) <;> rfl
theorem count_d : Txt.count (tx n x) ("." : Str) = ((n - cnt x 0 n : Nat) : Int) := by
  rw [← one_d, count_one]
  refine congrArg (fun k : Nat => (k : Int)) ?_
  have e := cnt_not x 0 n
  have e2 : cnt (fun p => x p == false) 0 n = cnt (fun p => !x p) 0 n := cnt_congr fun i _ => by
    show (x (0 + (i : Nat)) == false) = !x (0 + (i : Nat))
    cases x (0 + (i : Nat)) <;> rfl
  omega
theorem cd_str : ("c." : Str) = ⟨#[99, 46]⟩ := by decide +kernel
theorem count_cd : Txt.count (tx (n + 1) x) ("c." : Str) = ((flw n x : Nat) : Int) := by
  rw [cd_str]
  have e2 : ∀ i : Nat, i < n → Builtin.Str.subAt (tx (n + 1) x) ⟨#[99, 46]⟩ i = mov x i := fun i h => by
    show ((tx (n + 1) x).cps.extract i (i + 2) == #[99, 46]) = _
    rw [tx_ext2 (by omega)]
    unfold mov
    cases x (i : Nat) <;> cases x ((i : Nat) + 1) <;> decide
  have e := count_of (tx (n + 1) x) ⟨#[99, 46]⟩ (fun p => decide (p < n) && mov x p) (fun i => ?_) (fun i j h0 h1 h2 => ?_)
  · rw [e, tx_len]
    refine congrArg (fun k : Nat => (k : Int)) ?_
    show (cnt _ 0 n + b2n (decide ((0 : Int) + (n : Nat) < n) && mov x (0 + (n : Nat)))) + b2n (decide ((0 : Int) + ((n + 1 : Nat) : Int) < n) && mov x (0 + ((n + 1 : Nat) : Int))) = _
    rw [decide_eq_false (by omega), decide_eq_false (by omega), Bool.false_and, Bool.false_and]
    show cnt _ 0 n = cnt (mov x) 0 n
    refine cnt_congr fun i hi => ?_
    show (decide ((0 : Int) + (i : Nat) < n) && _) = _
    rw [decide_eq_true (by omega), Bool.true_and]
  · show (decide (((i : Nat) : Int) < n) && mov x i) = _
    rw [tx_len]
    by_cases h : i < n
    · rw [decide_eq_true (by omega), Bool.true_and, e2 i h]
      cases q : mov x (i : Nat) with
      | true => exact (decide_eq_true ⟨show i + 2 ≤ n + 1 by omega, rfl⟩).symm
      | false => exact (decide_eq_false fun z => absurd z.2 (by decide)).symm
    · rw [decide_eq_false (by omega), Bool.false_and]
      exact (decide_eq_false fun z => h (by have : i + 2 ≤ n + 1 := z.1; omega)).symm
  · have h2 : j < i + 2 := h2
    have ej : j = i + 1 := by omega
    subst ej
    show (decide (((i + 1 : Nat) : Int) < n) && mov x ((i + 1 : Nat) : Int)) = false
    have h0 : (decide (((i : Nat) : Int) < n) && mov x i) = true := h0
    rw [Bool.and_eq_true] at h0
    have h3 := h0.2
    unfold mov at h3 ⊢
    rw [show ((i + 1 : Nat) : Int) = (i : Int) + 1 by omega]
    cases u : x ((i : Int) + 1) with
    | true =>
      rw [u] at h3
      cases v : x (i : Nat) <;> rw [v] at h3 <;> exact absurd h3 (by decide)
    | false => rw [Bool.false_and, Bool.and_false]
/-! ### stripped -/
theorem tw_all {p : Nat → Bool} : ∀ {l : List Nat}, (∀ c, c ∈ l → p c = true) → l.takeWhile p = l
  | [], _ => rfl
  | c :: r, h => by
    rw [List.takeWhile_cons, if_pos (h c (List.mem_cons_self ..)), tw_all fun d hd => h d (List.mem_cons_of_mem _ hd)]
theorem tx_strip (hn : 0 < n) : Txt.stripChars (tx n x) ("c." : Str) = ("" : Str) := by
  rw [cd_str]
  have hall : ∀ c, c ∈ (tx n x).cps.toList → (#[99, 46] : Array Nat).contains c = true := fun c hc => by
    rw [tx_list] at hc
    obtain ⟨i, _, e⟩ := List.mem_map.mp hc
    rw [← e]
    cases x (i : Nat) <;> decide +kernel
  have elo : stripLo (#[99, 46] : Array Nat).contains true (tx n x) = n := by
    unfold stripLo
    rw [if_pos rfl, tw_all hall, tx_list, List.length_map, List.length_range]
  have ehi : stripHi (#[99, 46] : Array Nat).contains true (tx n x) n = n := by
    unfold stripHi
    rw [if_pos rfl, List.drop_eq_nil_of_le (by rw [tx_list, List.length_map, List.length_range]; exact Nat.le_refl _), tx_len]
    rfl
  unfold Txt.stripChars Txt.stripBy stripSame
  show (if (stripLo (#[99, 46] : Array Nat).contains true (tx n x) == 0 && _) = true then _ else stripped (#[99, 46] : Array Nat).contains true true (tx n x)) = _
  rw [elo, show (n == 0) = false from beq_eq_false_iff_ne.mpr (by omega), Bool.false_and, if_neg (by decide)]
  unfold stripped
  rw [elo, ehi]
  have e : (tx n x).cps.extract n n = #[] := by
    refine Array.ext_getElem? fun j => ?_
    rw [Array.getElem?_extract, if_neg (by omega)]
    rfl
  show (⟨(tx n x).cps.extract n n⟩ : Str) = _
  rw [e]
  decide +kernel
theorem tx_nil (hn : 0 < n) : decide (V.str (tx n x) = V.str ("" : Str)) = false := decide_eq_false fun h => by
  have e := V.str.inj h
  have e2 : (tx n x).cps.size = 0 := by rw [e]; decide +kernel
  rw [tx_size] at e2
  omega
end
end JR

namespace JR
open PySem PySem.Spec PyProof.Rows L2
section
variable {P : Program} {w : World} {K : PySem.W.Frag} {mg : Str → Option Value} {base : Heap}

/-! ### walks of lists of whole numbers -/
theorem walk_iL {a : Addr} {n : Nat} {c : Nat → Int} : Walk (Itl K a) n (fun H => SqL K H a (iL n c)) (fun i H x H' => H' = H ∧ x = .int (c i)) := by
  have w := (walk_list (K := K) (a := a) (xs := iL n c)).mono (G' := fun H => SqL K H a (iL n c)) (Y' := fun i H x H' => H' = H ∧ x = .int (c i)) (fun H h => h) (fun i H x H' hi _ y => ⟨y.1, (iL_lt y.2).2⟩)
  rw [iL_len] at w
  exact w
theorem walk_enumI {a : Addr} {n : Nat} {c : Nat → Int} : Walk (Ite K a) n (fun H => SqL K H a (iL n c)) (fun i H v H' => ∃ T, v = .ref T ∧ H T = none ∧ H' = upd H T (.tup [.int (i : Nat), .int (c i)])) := by
  have w := (walk_enum (K := K) (a := a) (xs := iL n c)).mono (G' := fun H => SqL K H a (iL n c)) (Y' := fun i H v H' => ∃ T, v = .ref T ∧ H T = none ∧ H' = upd H T (.tup [.int (i : Nat), .int (c i)])) (fun H h => h)
    (fun i H x H' hi _ y => by
      obtain ⟨T, x1, x2, h1, h2, h3, h4, h5⟩ := y
      cases h4
      obtain ⟨_, rfl⟩ := iL_lt h5
      exact ⟨T, h1, h2, h3⟩)
  rw [iL_len] at w
  exact w
/-- lists of truth values by their items -/
def bls (n : Nat) (b : Nat → Bool) : List Bool := (List.range n).map b
theorem bls_V (n : Nat) (b : Nat → Bool) : (bls n b).map V.bl = (List.range n).map fun i => V.bl (b i) := by
  unfold bls
  rw [List.map_map]
  rfl
theorem bls_all {n : Nat} {b : Nat → Bool} (h : ∀ i, i < n → b i = true) : (bls n b).all id = true := by
  refine List.all_eq_true.mpr fun x hx => ?_
  obtain ⟨i, hi, e⟩ := List.mem_map.mp hx
  rw [← e]
  exact h i (List.mem_range.mp hi)
theorem bls_any {n : Nat} {b : Nat → Bool} (h : ∀ i, i < n → b i = false) : (bls n b).any id = false := by
  cases q : (bls n b).any id with
  | false => rfl
  | true =>
    obtain ⟨x, hx, e⟩ := List.any_eq_true.mp q
    obtain ⟨i, hi, e2⟩ := List.mem_map.mp hx
    rw [← e2] at e
    have := h i (List.mem_range.mp hi)
    rw [show id (b i) = b i from rfl, this] at e
    cases e

/-! ### is_number -/
abbrev s_is_number : Stmt := topS 5
theorem sc_is_number : FnScope ["thing"] ["thing"] (defScope s_is_number) := ⟨rfl, rfl, rfl, by decide +kernel, rfl, by decide +kernel, by decide +kernel⟩
def numT : List String := ["int", "bool", "NoneType", "str", "list", "tuple"]
theorem kit_int {T : String} (h : T ∈ numT) : PySem.W.kitOne K (.type T) (.type "int") = some (decide (T = "int") || decide (T = "bool")) := by
  simp only [numT, List.mem_cons, List.not_mem_nil, or_false] at h
  rcases h with h | h | h | h | h | h <;> (subst h; exact kit_ty (by decide +kernel))
theorem kit_bool {T : String} (h : T ∈ numT) : PySem.W.kitOne K (.type T) (.type "bool") = some (decide (T = "bool")) := by
  simp only [numT, List.mem_cons, List.not_mem_nil, or_false] at h
  rcases h with h | h | h | h | h | h <;> (subst h; exact kit_ty (by decide +kernel))
def spIsNumber (K : PySem.W.Frag) : Sp := fun vs H Q _ => ∃ (x : V) (T : String), vs = [x] ∧ TyX K H x (.type T) ∧ T ∈ numT ∧ Q (.bl (decide (T = "int"))) H
theorem cal_is_number {f : Addr} {fd : FuncData} (F : Fun K "is_number" "is_number" s_is_number f fd) (g : mg "is_number" = some (.ref f)) (B : Blt mg) : Cal P w K mg base 1 "is_number" (spIsNumber K) := by
  refine ⟨f, fd, ["thing"], F.ok sc_is_number (fun vs H Q E h => ?_) (fun cdv A outer s H vs Q E hr h => ?_), g, F.kp, F.binds fun _ _ _ _ _ _ us hl => match us, hl with | [_], _ => rfl⟩
  · obtain ⟨x, T, rfl, _⟩ := h
    rfl
  · obtain ⟨x, T, rfl, hx, hT, q⟩ := h
    refine ⟨_, (pss_one (ps_ret (pe_and (pe_callB (isiK K) (by rfl) B.isinstance bt_isinstance (pa_cons (pv 0) (pa_cons (pe_ty (by rfl) B.int bt_int) pa_nil))) (pe_one (pe_not (pe_callB (isiK K) (by rfl) B.isinstance bt_isinstance (pa_cons (pv 0) (pa_cons (pe_ty (by rfl) B.bool bt_bool) pa_nil)))))))), ?_⟩
    refine ⟨x, rfl, x, .ty "int", .type T, .type "int", _, rfl, .ty _, hx, kit_int hT, _, rfl, ?_⟩
    refine ite2 (fun e => ?_) (fun e => ?_)
    · refine ⟨x, rfl, x, .ty "bool", .type T, .type "bool", _, rfl, .ty _, hx, kit_bool hT, _, rfl, ?_⟩
      show Q (.bl (!decide (T = "bool"))) H
      have e2 : (!decide (T = "bool")) = decide (T = "int") := by
        simp only [numT, List.mem_cons, List.not_mem_nil, or_false] at hT
        rcases hT with h | h | h | h | h | h <;> (subst h; first | decide | exact absurd e (by decide))
      rw [e2]
      exact q
    · have e2 : decide (T = "int") = false := by
        simp only [numT, List.mem_cons, List.not_mem_nil, or_false] at hT
        rcases hT with h | h | h | h | h | h <;> (subst h; first | decide | exact absurd (by decide) e)
      rw [e2] at q
      exact q
theorem num_int {H : Hp} {Q : VK} {E : XK} (i : Int) (q : Q (.bl true) H) : spIsNumber K [.int i] H Q E := ⟨.int i, "int", rfl, .base (.int i), by decide, q⟩


/-! ### asked_steps, a count of steps -/
abbrev s_asked_steps : Stmt := topS 6
theorem sc_asked_steps : FnScope ["steps"] ["steps"] (defScope s_asked_steps) := ⟨rfl, rfl, rfl, by decide +kernel, rfl, by decide +kernel, by decide +kernel⟩
def spAskedSteps : Sp := fun vs H Q _ => ∃ t : Int, vs = [.int t] ∧ 0 ≤ t ∧ Q .non H
theorem cal_asked_steps {f : Addr} {fd : FuncData} (F : Fun K "asked_steps" "asked_steps" s_asked_steps f fd) (g : mg "asked_steps" = some (.ref f)) (B : Blt mg) (c_is_number : Cal P w K mg base 1 "is_number" (spIsNumber K)) : Cal P w K mg base 2 "asked_steps" spAskedSteps := by
  refine ⟨f, fd, ["steps"], F.ok sc_asked_steps (fun vs H Q E h => ?_) (fun cdv A outer s H vs Q E hr h => ?_), g, F.kp, F.binds fun _ _ _ _ _ _ us hl => match us, hl with | [_], _ => rfl⟩
  · obtain ⟨t, rfl, _⟩ := h
    rfl
  · obtain ⟨t, rfl, ht, q⟩ := h
    refine ⟨_, (pss_one (ps_if (PW.pt (pw_or (pt_not (pt_val (pe_c c_is_number hr (by decide) (by rfl) (pa_cons (pv 0) pa_nil)))) (pw_or1 (pt_cmpR op_lt (pv 0) pe_int rfl)))) pss_never pss_nil)), ?_⟩
    refine ⟨_, rfl, .int t, "int", rfl, .base (.int t), by decide, _, rfl, iteF ⟨_, rfl, _, _, rfl, rfl, _, rfl, ?_⟩⟩
    rw [decide_eq_false (show ¬ t < 0 by omega)]
    exact iteF q

end
end JR

namespace JR
open PySem PySem.Spec PyProof.Rows L2
/-! ### plain -/
section
variable {n : Nat} {x : Int → Bool}
theorem Per.fm (h : Per n x) (p : Int) : x (p.fmod n) = x p := by
  rw [Int.fmod_eq_emod_of_nonneg p (by omega)]
  exact h.mod p
theorem fm_lo (hn : 0 < n) (p : Int) : 0 ≤ p.fmod (n : Int) := Int.fmod_nonneg_of_pos p (by omega)
theorem fm_hi (hn : 0 < n) (p : Int) : p.fmod (n : Int) < n := Int.fmod_lt_of_pos p (by omega)
theorem shf_fm (h : Per n x) (b : Int) : shf (b.fmod n) x = shf b x := by
  funext p
  unfold shf
  have e := h.mul (p + b) (-(b.fdiv n))
  have e2 := Int.mul_fdiv_add_fmod b n
  rw [show p + b + (n : Int) * -(b.fdiv n) = p + b.fmod n by rw [Int.mul_neg]; omega] at e
  exact e
theorem ones_snoc (n : Nat) (x : Int → Bool) : (onesL n x).map V.str ++ [V.str (one (x (n : Nat)))] = (onesL (n + 1) x).map V.str := by
  unfold onesL
  rw [List.range_succ, List.map_append, List.map_append]
  rfl
theorem ones_len (n : Nat) (x : Int → Bool) : ((onesL n x).map V.str).length = n := by
  unfold onesL
  rw [List.length_map, List.length_map, List.length_range]
/-- so many steps, by steps up to half the places, then by going round -/
theorem after_cc (h : Per n x) (hn : 0 < n) (k : 2 * cnt x 0 n ≤ n) (t : Nat) : shf (-((t : Int) - ((min t (n / 2) : Nat) : Int))) (its x (min t (n / 2))) = its x t := by
  by_cases c : t ≤ n / 2
  · rw [Nat.min_eq_left c]
    funext p
    unfold shf
    rw [show p + -((t : Int) - (t : Int)) = p by omega]
  · rw [Nat.min_eq_right (by omega)]
    funext p
    have e := (settled_cc h hn k (Nat.le_refl (n / 2))).round (t - n / 2) p
    rw [its_add, show n / 2 + (t - n / 2) = t by omega] at e
    rw [e]
    unfold shf
    rw [show p + -((t : Int) - ((n / 2 : Nat) : Int)) = p - ((t - n / 2 : Nat) : Int) by omega]
theorem after_gg (h : Per n x) (hn : 0 < n) (k : n ≤ 2 * cnt x 0 n) (t : Nat) : shf (-(((min t (n / 2) : Nat) : Int) - (t : Int))) (its x (min t (n / 2))) = its x t := by
  by_cases c : t ≤ n / 2
  · rw [Nat.min_eq_left c]
    funext p
    unfold shf
    rw [show p + -((t : Int) - (t : Int)) = p by omega]
  · rw [Nat.min_eq_right (by omega)]
    funext p
    have e := (settled_gg h hn k (Nat.le_refl (n / 2))).round (t - n / 2) p
    rw [its_add, show n / 2 + (t - n / 2) = t by omega] at e
    rw [e]
    unfold shf
    rw [show p + -(((n / 2 : Nat) : Int) - (t : Int)) = p + ((t - n / 2 : Nat) : Int) by omega]
end
section
variable {P : Program} {w : World} {K : PySem.W.Frag} {mg : Str → Option Value} {base : Heap}
theorem tx_fits {n : Nat} {x : Int → Bool} (h : n ≤ 1000) : (tx n x).length ≤ sizeLine := by
  rw [tx_len]
  exact le_line (by omega)
/-! ### asked_ring -/
abbrev s_asked_ring : Stmt := topS 8
theorem sc_asked_ring : FnScope ["ring"] ["ring"] (defScope s_asked_ring) := ⟨rfl, rfl, rfl, by decide +kernel, rfl, by decide +kernel, by decide +kernel⟩
def spAskedRing : Sp := fun vs H Q _ => ∃ (n : Nat) (x : Int → Bool), vs = [.str (tx n x)] ∧ 0 < n ∧ n ≤ 1000 ∧ Q .non H
theorem cal_asked_ring {f : Addr} {fd : FuncData} (F : Fun K "asked_ring" "asked_ring" s_asked_ring f fd) (g : mg "asked_ring" = some (.ref f)) (B : Blt mg) : Cal P w K mg base 1 "asked_ring" spAskedRing := by
  refine ⟨f, fd, ["ring"], F.ok sc_asked_ring (fun vs H Q E h => ?_) (fun cdv A outer s H vs Q E hr h => ?_), g, F.kp, F.binds fun _ _ _ _ _ _ us hl => match us, hl with | [_], _ => rfl⟩
  · obtain ⟨n, x, rfl, _⟩ := h
    rfl
  · obtain ⟨n, x, rfl, hn, hn2, q⟩ := h
    refine ⟨_, (pss_one (ps_if (PW.pt (pw_or (pt_not (pt_val (pe_callB (isiK K) (by rfl) B.isinstance bt_isinstance (pa_cons (pv 0) (pa_cons (pe_ty (by rfl) B.str bt_str) pa_nil))))) (pw_or (pt_cmpR op_ne (pe_m1 PySem.F.slot_str_strip PySem.F.type_str_strip mt_stripChars (pv 0) pe_str) pe_str rfl) (pw_or1 (pt_cmpR op_eq (pv 0) pe_str rfl))))) pss_never pss_nil)), ?_⟩
    refine ⟨_, rfl, .str (tx n x), .ty "str", .type "str", .type "str", true, rfl, .ty _, .base (.str _), kit_ty (by decide +kernel), true, rfl, iteF ?_⟩
    refine ⟨_, rfl, ⟨_, rfl⟩, _, _, rfl, rfl, tx_fits hn2, rfl, _, rfl, ?_⟩
    rw [decide_eq_true (congrArg V.str (tx_strip hn))]
    refine ⟨_, rfl, rfl, _, rfl, ?_⟩
    refine ite2 (fun e => ?_) (fun e => ?_)
    · have e2 : decide (V.str (tx n x) = V.str ("" : Str)) = true := e
      rw [tx_nil hn] at e2
      cases e2
    · exact q
/-! ### moved -/
abbrev s_moved : Stmt := topS 9
theorem sc_moved : FnScope ["ring", "found", "at", "sign", "later"] ["ring"] (defScope s_moved) := ⟨rfl, rfl, rfl, by decide +kernel, rfl, by decide +kernel, by decide +kernel⟩
def spRing1 (y : Nat → (Int → Bool) → V) : Sp := fun vs H Q _ => ∃ (n : Nat) (x : Int → Bool), vs = [.str (tx n x)] ∧ Per n x ∧ 0 < n ∧ n ≤ 1000 ∧ ∀ H', Same H H' → Q (y n x) H'
def spStp : Sp := spRing1 fun n x => .str (tx n (stp x))
theorem cal_moved {f : Addr} {fd : FuncData} (F : Fun K "moved" "moved" s_moved f fd) (g : mg "moved" = some (.ref f)) (B : Blt mg) : Cal P w K mg base 1 "moved" spStp := by
  refine ⟨f, fd, ["ring"], F.ok sc_moved (fun vs H Q E h => ?_) (fun cdv A outer s H vs Q E hr h => ?_), g, F.kp, F.binds fun _ _ _ _ _ _ us hl => match us, hl with | [_], _ => rfl⟩
  · obtain ⟨n, x, rfl, _⟩ := h
    rfl
  · obtain ⟨n, x, rfl, hP, hn, hn2, q⟩ := h
    refine ⟨_, (pss_cons (ps_set (i := 1) sc_moved.nd rfl (Or.inl rfl) (pe_lst pa_nil)) (pss_cons (ps_for PassesOwn.never rfl (pi_enumS rfl B.enumerate (pa_cons (pv 0) pa_nil)) (pg_tup rfl (pgs_cons (pg_name (i := 2) sc_moved.nd rfl (Or.inl rfl)) (pgs_cons (pg_name (i := 3) sc_moved.nd rfl (Or.inl rfl)) pgs_nil))) (pss_cons (ps_set (i := 4) sc_moved.nd rfl (Or.inl rfl) (pe_ix ix_str (pv 0) (pe_op op_modN (pe_op op_add (pv 2) pe_int) (pe_callB call_len_str (by rfl) B.len bt_len (pa_cons (pv 0) pa_nil))) (fun _ _ => rfl))) (pss_one (ps_if (pt_cmpR op_eq (pv 3) pe_str rfl) (pss_one (ps_expr (pe_bm PySem.F.plainAttrs_list PySem.F.slot_list_append PySem.F.type_list_append mt_append (pv 1) (pa_cons (pe_ifExp (pt_cmpR op_eq (pv 4) pe_str rfl) (pv 4) pe_str) pa_nil)))) (pss_one (ps_expr (pe_bm PySem.F.plainAttrs_list PySem.F.slot_list_append PySem.F.type_list_append mt_append (pv 1) (pa_cons (pe_ifExp (pt_cmpR op_eq (pe_ix ix_str (pv 0) (pe_op op_sub (pv 2) pe_int) (fun _ _ => rfl)) pe_str rfl) pe_str pe_str) pa_nil)))))))) (pss_one (ps_ret (pe_join pe_str (pv 1)))))), ?_⟩
    refine ⟨Nat.zero_le _, fun o no => ?_⟩
    have s1 := same_new (o := .lst []) no
    refine ⟨_, rfl, tx n x, rfl, for_it (walk_enumS (n := n) tx_size) (fun i σ H' => ∃ y2 y3 y4, σ = [some (.str (tx n x)), some (.ref o), y2, y3, y4] ∧ Same H H' ∧ H' o = some (.lst ((onesL i (stp x)).map V.str))) ⟨none, none, none, rfl, s1, upd_same⟩ (fun i σ H' _ p => trivial) (fun i v σ H2 H3 hi p y => ?_) (fun σ H2 p => ?_)⟩
    · obtain ⟨y2, y3, y4, rfl, sm, eo⟩ := p
      obtain ⟨T, c, rfl, nT, ec, rfl⟩ := y
      have ec := (tx_get hi).symm.trans ec
      cases ec
      have sT := same_new (o := .tup [.int (i : Nat), .str ⟨#[code (x i)]⟩]) nT
      have s3 := sm.trans sT
      have eo3 := sT _ _ eo
      refine ⟨T, _, rfl, SqT.of upd_same, rfl, _, _, rfl, _, _, rfl, rfl, ?_⟩
      refine ⟨_, rfl, _, rfl, _, _, rfl, rfl, _, rfl, _, rfl, tx_fits hn2, _, _, rfl, rfl, (show ((tx n x).length : Int) ≠ 0 by rw [tx_len]; omega), ?_⟩
      have e0 : ((i : Int) + 1).fmod ((tx n x).length : Int) = ((i : Int) + 1).fmod n := by rw [tx_len]
      refine ⟨_, _, code (x ((i : Int) + 1)), rfl, rfl, tx_fits hn2, by rw [e0, tx_at hP hn (by have := fm_lo hn ((i : Int) + 1); omega) (fm_hi hn _), hP.fm], ?_⟩
      have fin : ∀ v : Bool, v = stp x i → ∃ y2 y3 y4, [some (V.str (tx n x)), some (.ref o), some (.int (i : Nat)), some (.str ⟨#[code (x i)]⟩), some (.str ⟨#[code (x ((i : Int) + 1))]⟩)] = [some (.str (tx n x)), some (.ref o), y2, y3, y4] ∧ Same H (upd (upd H2 T (.tup [.int (i : Nat), .str ⟨#[code (x i)]⟩])) o (.lst ((onesL i (stp x)).map V.str ++ [V.str (one v)]))) ∧ upd (upd H2 T (.tup [.int (i : Nat), .str ⟨#[code (x i)]⟩])) o (.lst ((onesL i (stp x)).map V.str ++ [V.str (one v)])) o = some (.lst ((onesL (i + 1) (stp x)).map V.str)) := fun v hv => by
        refine ⟨_, _, _, rfl, same_mut s3 no, ?_⟩
        rw [upd_same, hv, ones_snoc]
      have hlt : ((onesL i (stp x)).map V.str).length < sizeLine := by rw [ones_len]; exact lt_line (by omega)
      refine ⟨_, rfl, rfl, _, rfl, ?_⟩
      refine ite2 (fun e => ?_) (fun e => ?_)
      · have ex : x i = true := (is_c (x i)).symm.trans e
        refine ⟨_, rfl, .inl ⟨rfl, _, SqL.of eo3⟩, _, rfl, rfl, _, rfl, ?_⟩
        refine ite2 (fun e2 => ?_) (fun e2 => ?_)
        · exact ⟨_, rfl, o, _, _, rfl, rfl, eo3, hlt, fin (x ((i : Int) + 1)) (by unfold stp; rw [if_pos ex])⟩
        · have ex2 : x ((i : Int) + 1) = false := by
            cases u : x ((i : Int) + 1) with
            | false => rfl
            | true => exact absurd ((is_c (x ((i : Int) + 1))).trans u) e2
          refine ⟨o, _, _, rfl, rfl, eo3, hlt, ?_⟩
          have := fin false (by unfold stp; rw [if_pos ex, ex2])
          rw [one_d] at this
          exact this
      · have ex : x i = false := by
          cases u : x i with
          | false => rfl
          | true => exact absurd ((is_c (x i)).trans u) e
        refine ⟨_, rfl, .inl ⟨rfl, _, SqL.of eo3⟩, _, rfl, _, rfl, _, _, rfl, rfl, _, _, code (x ((i : Int) - 1)), rfl, rfl, tx_fits hn2, tx_at hP hn (by omega) (by omega), rfl, _, rfl, ?_⟩
        refine ite2 (fun e2 => ?_) (fun e2 => ?_)
        · have ex2 : x ((i : Int) - 1) = true := (is_c (x ((i : Int) - 1))).symm.trans e2
          refine ⟨o, _, _, rfl, rfl, eo3, hlt, ?_⟩
          have := fin true (by unfold stp; rw [if_neg (by rw [ex]; decide), ex2])
          rw [one_c] at this
          exact this
        · have ex2 : x ((i : Int) - 1) = false := by
            cases u : x ((i : Int) - 1) with
            | false => rfl
            | true => exact absurd ((is_c (x ((i : Int) - 1))).trans u) e2
          refine ⟨o, _, _, rfl, rfl, eo3, hlt, ?_⟩
          have := fin false (by unfold stp; rw [if_neg (by rw [ex]; decide), ex2])
          rw [one_d] at this
          exact this
    · obtain ⟨y2, y3, y4, rfl, sm, eo⟩ := p
      refine ⟨⟨_, rfl⟩, _, rfl, _, o, onesL n (stp x), rfl, rfl, .inl (SqL.of eo), ?_, ?_⟩
      · have := ones_sum (n := n) (x := stp x)
        exact Nat.le_trans (Nat.le_of_eq this) (by omega)
      · have : Q (.str (tx n (stp x))) H2 := q _ sm
        rw [← join_ones] at this
        exact this
/-! ### around -/
abbrev s_around : Stmt := topS 10
theorem sc_around : FnScope ["ring"] ["ring"] (defScope s_around) := ⟨rfl, rfl, rfl, by decide +kernel, rfl, by decide +kernel, by decide +kernel⟩
theorem cal_around {f : Addr} {fd : FuncData} (F : Fun K "around" "around" s_around f fd) (g : mg "around" = some (.ref f)) (B : Blt mg) (c_asked_ring : Cal P w K mg base 1 "asked_ring" spAskedRing) (c_moved : Cal P w K mg base 1 "moved" spStp) : Cal P w K mg base 2 "around" spStp := by
  refine ⟨f, fd, ["ring"], F.ok sc_around (fun vs H Q E h => ?_) (fun cdv A outer s H vs Q E hr h => ?_), g, F.kp, F.binds fun _ _ _ _ _ _ us hl => match us, hl with | [_], _ => rfl⟩
  · obtain ⟨n, x, rfl, _⟩ := h
    rfl
  · obtain ⟨n, x, rfl, hP, hn, hn2, q⟩ := h
    refine ⟨_, (pss_cons (ps_expr (pe_c c_asked_ring hr (by decide) (by rfl) (pa_cons (pv 0) pa_nil))) (pss_one (ps_ret (pe_c c_moved hr (by decide) (by rfl) (pa_cons (pv 0) pa_nil))))), ?_⟩
    refine ⟨_, rfl, n, x, rfl, hn, hn2, ?_⟩
    exact ⟨_, rfl, n, x, rfl, hP, hn, hn2, q⟩
/-! ### turned -/
abbrev s_turned : Stmt := topS 11
theorem sc_turned : FnScope ["ring", "by", "first"] ["ring", "by"] (defScope s_turned) := ⟨rfl, rfl, rfl, by decide +kernel, rfl, by decide +kernel, by decide +kernel⟩
def spTurned : Sp := fun vs H Q _ => ∃ (n : Nat) (x : Int → Bool) (b : Int), vs = [.str (tx n x), .int b] ∧ Per n x ∧ 0 < n ∧ n ≤ 1000 ∧ Q (.str (tx n (shf (-b) x))) H
theorem cal_turned {f : Addr} {fd : FuncData} (F : Fun K "turned" "turned" s_turned f fd) (g : mg "turned" = some (.ref f)) (B : Blt mg) : Cal P w K mg base 1 "turned" spTurned := by
  refine ⟨f, fd, ["ring", "by"], F.ok sc_turned (fun vs H Q E h => ?_) (fun cdv A outer s H vs Q E hr h => ?_), g, F.kp, F.binds fun _ _ _ _ _ _ us hl => match us, hl with | [_, _], _ => rfl⟩
  · obtain ⟨n, x, b, rfl, _⟩ := h
    rfl
  · obtain ⟨n, x, b, rfl, hP, hn, hn2, q⟩ := h
    refine ⟨_, (pss_cons (ps_set (i := 2) sc_turned.nd rfl (Or.inl rfl) (pe_op op_modN (pe_un un_neg (pv 1)) (pe_callB call_len_str (by rfl) B.len bt_len (pa_cons (pv 0) pa_nil)))) (pss_one (ps_ret (pe_op op_add_str (pe_slice sl_str (pv 0) (po_some (pv 2)) po_none) (pe_slice sl_str (pv 0) po_none (po_some (pv 2))))))), ?_⟩
    refine ⟨_, rfl, _, rfl, _, rfl, _, rfl, tx_fits hn2, _, _, rfl, rfl, (show ((tx n x).length : Int) ≠ 0 by rw [tx_len]; omega), ?_⟩
    refine ⟨_, rfl, _, rfl, _, rfl, _, rfl, tx_fits hn2, ?_⟩
    refine ⟨_, rfl, _, rfl, _, rfl, _, rfl, tx_fits hn2, ?_⟩
    have e0 : (-b).fmod ((tx n x).length : Int) = (-b).fmod n := by rw [tx_len]
    refine ⟨_, _, rfl, rfl, ?_, ?_⟩
    · have h1 := Nat.le_trans (cutS_length (tx n x) (some ((-b).fmod ((tx n x).length : Int))) none) (Nat.le_of_eq tx_len)
      have h2 := Nat.le_trans (cutS_length (tx n x) none (some ((-b).fmod ((tx n x).length : Int)))) (Nat.le_of_eq tx_len)
      exact le_line (by omega)
    · rw [e0, tx_turn hP (fm_lo hn _) (Int.le_of_lt (fm_hi hn _)), shf_fm hP]
      exact q
/-! ### around_after -/
abbrev s_around_after : Stmt := topS 12
theorem sc_around_after : FnScope ["ring", "steps", "now", "first", "step"] ["ring", "steps"] (defScope s_around_after) := ⟨rfl, rfl, rfl, by decide +kernel, rfl, by decide +kernel, by decide +kernel⟩
def spAround (y : Nat → (Int → Bool) → Nat → V) : Sp := fun vs H Q _ => ∃ (n : Nat) (x : Int → Bool) (t : Nat), vs = [.str (tx n x), .int (t : Int)] ∧ Per n x ∧ 0 < n ∧ n ≤ 1000 ∧ ∀ H', Same H H' → Q (y n x t) H'
def spAfterR : Sp := spAround fun n x t => .str (tx n (its x t))
theorem cal_around_after {f : Addr} {fd : FuncData} (F : Fun K "around_after" "around_after" s_around_after f fd) (g : mg "around_after" = some (.ref f)) (B : Blt mg) (c_asked_ring : Cal P w K mg base 1 "asked_ring" spAskedRing) (c_asked_steps : Cal P w K mg base 2 "asked_steps" spAskedSteps)
    (c_moved : Cal P w K mg base 1 "moved" spStp) (c_turned : Cal P w K mg base 1 "turned" spTurned) : Cal P w K mg base 3 "around_after" spAfterR := by
  refine ⟨f, fd, ["ring", "steps"], F.ok sc_around_after (fun vs H Q E h => ?_) (fun cdv A outer s H vs Q E hr h => ?_), g, F.kp, F.binds fun _ _ _ _ _ _ us hl => match us, hl with | [_, _], _ => rfl⟩
  · obtain ⟨n, x, t, rfl, _⟩ := h
    rfl
  · obtain ⟨n, x, t, rfl, hP, hn, hn2, q⟩ := h
    refine ⟨_, (pss_cons (ps_expr (pe_c c_asked_ring hr (by decide) (by rfl) (pa_cons (pv 0) pa_nil))) (pss_cons (ps_expr (pe_c c_asked_steps hr (by decide) (by rfl) (pa_cons (pv 1) pa_nil))) (pss_cons (ps_set (i := 2) sc_around_after.nd rfl (Or.inl rfl) (pv 0)) (pss_cons (ps_set (i := 3) sc_around_after.nd rfl (Or.inl rfl) (pe_callB (call_min2 rfl) (by rfl) B.min bt_min (pa_cons (pv 1) (pa_cons (pe_op op_fdivN (pe_callB call_len_str (by rfl) B.len bt_len (pa_cons (pv 0) pa_nil)) pe_int) pa_nil)))) (pss_cons (ps_for PassesOwn.never rfl (pi_range1 rfl B.range (pa_cons (pv 3) pa_nil)) (pg_name (i := 4) sc_around_after.nd rfl (Or.inl rfl)) (pss_one (ps_set (i := 2) sc_around_after.nd rfl (Or.inl rfl) (pe_c c_moved hr (by decide) (by rfl) (pa_cons (pv 2) pa_nil))))) (pss_cons (ps_if (pt_cmpR op_le (pe_op op_mul pe_int (pe_m1 PySem.F.slot_str_count PySem.F.type_str_count mt_count (pv 0) pe_str)) (pe_callB call_len_str (by rfl) B.len bt_len (pa_cons (pv 0) pa_nil)) rfl) (pss_one (ps_ret (pe_c c_turned hr (by decide) (by rfl) (pa_cons (pv 2) (pa_cons (pe_op op_sub (pv 1) (pv 3)) pa_nil))))) pss_nil) (pss_one (ps_ret (pe_c c_turned hr (by decide) (by rfl) (pa_cons (pv 2) (pa_cons (pe_op op_sub (pv 3) (pv 1)) pa_nil))))))))))), ?_⟩
    refine ⟨_, rfl, n, x, rfl, hn, hn2, ?_⟩
    refine ⟨_, rfl, (t : Int), rfl, by omega, ?_⟩
    refine ⟨_, rfl, ?_⟩
    -- first
    refine ⟨_, rfl, _, rfl, _, rfl, tx_fits hn2, _, _, rfl, rfl, ⟨by decide, by decide⟩, _, _, rfl, ?_⟩
    have ef : (if ((tx n x).length : Int).fdiv 2 < (t : Int) then ((tx n x).length : Int).fdiv 2 else (t : Int)) = ((min t (n / 2) : Nat) : Int) := by
      rw [tx_len, show (n : Int).fdiv 2 = ((n / 2 : Nat) : Int) by rw [Int.fdiv_eq_ediv_of_nonneg (n : Int) (by decide)]; rfl]
      split <;> omega
    generalize hm : min t (n / 2) = m at ef
    have hm2 : m ≤ n := by omega
    -- for step in range(first)
    refine ⟨_, rfl, (m : Int), by rw [← ef], by omega, by omega, for_it (walk_range (lo := 0) (n := (m : Int).toNat)) (fun i σ H' => ∃ y4, σ = [some (.str (tx n x)), some (.int (t : Int)), some (.str (tx n (its x i))), some (.int (m : Int)), y4] ∧ Same H H')
      ⟨none, by rw [← ef]; rfl, Same.refl _⟩ (fun _ _ _ _ _ => trivial) (fun i v σ H2 H3 hi p y => ?_) (fun σ H2 p => ?_)⟩
    · obtain ⟨y4, rfl, sm⟩ := p
      obtain ⟨rfl, rfl⟩ := y
      exact ⟨_, rfl, n, its x i, rfl, hP.its i, hn, hn2, fun H4 s4 => ⟨_, rfl, sm.trans s4⟩⟩
    · obtain ⟨y4, rfl, sm⟩ := p
      rw [show (m : Int).toNat = m by omega]
      -- if 2 * ring.count('c') <= len(ring)
      refine ⟨_, rfl, ⟨_, rfl⟩, _, _, rfl, rfl, _, _, rfl, rfl, .inl ⟨by decide, by decide⟩, _, rfl, _, rfl, tx_fits hn2, _, _, rfl, rfl, _, rfl, ?_⟩
      have hP' := hP.its m
      refine ite2 (fun e => ?_) (fun e => ?_)
      · have e1 := of_decide_eq_true e
        have e1 : 2 * Txt.count (tx n x) ("c" : Str) ≤ ((tx n x).length : Int) := e1
        rw [count_c, tx_len] at e1
        refine ⟨_, rfl, _, rfl, _, rfl, _, _, rfl, rfl, n, its x m, _, rfl, hP', hn, hn2, ?_⟩
        have := after_cc hP hn (by omega) t
        rw [hm] at this
        rw [this]
        exact q _ sm
      · have e1 : ¬ 2 * Txt.count (tx n x) ("c" : Str) ≤ ((tx n x).length : Int) := fun z => e (decide_eq_true z)
        rw [count_c, tx_len] at e1
        refine ⟨_, rfl, _, rfl, _, rfl, _, _, rfl, rfl, n, its x m, _, rfl, hP', hn, hn2, ?_⟩
        have := after_gg hP hn (by omega) t
        rw [hm] at this
        rw [this]
        exact q _ sm
/-! ### flow_of -/
abbrev s_flow_of : Stmt := topS 13
theorem sc_flow_of : FnScope ["ring"] ["ring"] (defScope s_flow_of) := ⟨rfl, rfl, rfl, by decide +kernel, rfl, by decide +kernel, by decide +kernel⟩
def spFlowOf : Sp := fun vs H Q _ => ∃ (n : Nat) (x : Int → Bool), vs = [.str (tx n x)] ∧ Per n x ∧ 0 < n ∧ n ≤ 1000 ∧ Q (.int ((flw n x : Nat) : Int)) H
theorem cal_flow_of {f : Addr} {fd : FuncData} (F : Fun K "flow_of" "flow_of" s_flow_of f fd) (g : mg "flow_of" = some (.ref f)) (B : Blt mg) : Cal P w K mg base 1 "flow_of" spFlowOf := by
  refine ⟨f, fd, ["ring"], F.ok sc_flow_of (fun vs H Q E h => ?_) (fun cdv A outer s H vs Q E hr h => ?_), g, F.kp, F.binds fun _ _ _ _ _ _ us hl => match us, hl with | [_], _ => rfl⟩
  · obtain ⟨n, x, rfl, _⟩ := h
    rfl
  · obtain ⟨n, x, rfl, hP, hn, hn2, q⟩ := h
    refine ⟨_, (pss_one (ps_ret (pe_m1 PySem.F.slot_str_count PySem.F.type_str_count mt_count (pe_op op_add_str (pv 0) (pe_ix ix_str (pv 0) pe_int (fun _ _ => rfl))) pe_str))), ?_⟩
    refine ⟨_, rfl, _, rfl, _, _, code (x 0), rfl, rfl, tx_fits hn2, tx_at hP hn (by decide) (by omega), _, _, rfl, rfl, ?_, ⟨_, rfl⟩, _, _, rfl, rfl, ?_⟩
    · show (tx n x).length + 1 ≤ sizeLine
      rw [tx_len]
      exact le_line (by omega)
    · have e : Txt.count (tx n x ++ one (x 0)) ("c." : Str) = ((flw n x : Nat) : Int) := by rw [tx_more hP, count_cd]
      rw [← e] at q
      exact q
/-! ### flow -/
abbrev s_flow : Stmt := topS 14
theorem sc_flow : FnScope ["ring", "steps"] ["ring", "steps"] (defScope s_flow) := ⟨rfl, rfl, rfl, by decide +kernel, rfl, by decide +kernel, by decide +kernel⟩
def spFlow : Sp := spAround fun n x t => .int ((flw n (its x t) : Nat) : Int)
theorem cal_flow {f : Addr} {fd : FuncData} (F : Fun K "flow" "flow" s_flow f fd) (g : mg "flow" = some (.ref f)) (B : Blt mg) (c_around_after : Cal P w K mg base 3 "around_after" spAfterR) (c_flow_of : Cal P w K mg base 1 "flow_of" spFlowOf) : Cal P w K mg base 4 "flow" spFlow := by
  refine ⟨f, fd, ["ring", "steps"], F.ok sc_flow (fun vs H Q E h => ?_) (fun cdv A outer s H vs Q E hr h => ?_), g, F.kp, F.binds fun _ _ _ _ _ _ us hl => match us, hl with | [_, _], _ => rfl⟩
  · obtain ⟨n, x, t, rfl, _⟩ := h
    rfl
  · obtain ⟨n, x, t, rfl, hP, hn, hn2, q⟩ := h
    refine ⟨_, (pss_one (ps_ret (pe_c c_flow_of hr (by decide) (by rfl) (pa_cons (pe_c c_around_after hr (by decide) (by rfl) (pa_cons (pv 0) (pa_cons (pv 1) pa_nil))) pa_nil)))), ?_⟩
    exact ⟨_, rfl, _, rfl, n, x, t, rfl, hP, hn, hn2, fun H1 s1 => ⟨n, its x t, rfl, hP.its t, hn, hn2, q _ s1⟩⟩
/-! ### settled -/
abbrev s_settled : Stmt := topS 15
theorem sc_settled : FnScope ["ring", "most", "now", "many"] ["ring"] (defScope s_settled) := ⟨rfl, rfl, rfl, by decide +kernel, rfl, by decide +kernel, by decide +kernel⟩
def spSettled : Sp := fun vs H Q _ => ∃ (n : Nat) (x : Int → Bool), vs = [.str (tx n x)] ∧ Per n x ∧ 0 < n ∧ n ≤ 1000 ∧ ∀ (k : Nat) H', Same H H' → k ≤ n / 2 → flw n (its x k) = most n x → (∀ j, j < k → flw n (its x j) < most n x) → Q (.int (k : Int)) H'
theorem cal_settled {f : Addr} {fd : FuncData} (F : Fun K "settled" "settled" s_settled f fd) (g : mg "settled" = some (.ref f)) (B : Blt mg) (c_asked_ring : Cal P w K mg base 1 "asked_ring" spAskedRing) (c_flow_of : Cal P w K mg base 1 "flow_of" spFlowOf) (c_moved : Cal P w K mg base 1 "moved" spStp) : Cal P w K mg base 2 "settled" spSettled := by
  refine ⟨f, fd, ["ring"], F.ok sc_settled (fun vs H Q E h => ?_) (fun cdv A outer s H vs Q E hr h => ?_), g, F.kp, F.binds fun _ _ _ _ _ _ us hl => match us, hl with | [_], _ => rfl⟩
  · obtain ⟨n, x, rfl, _⟩ := h
    rfl
  · obtain ⟨n, x, rfl, hP, hn, hn2, q⟩ := h
    refine ⟨_, (pss_cons (ps_expr (pe_c c_asked_ring hr (by decide) (by rfl) (pa_cons (pv 0) pa_nil))) (pss_cons (ps_set (i := 1) sc_settled.nd rfl (Or.inl rfl) (pe_callB (call_min2 rfl) (by rfl) B.min bt_min (pa_cons (pe_m1 PySem.F.slot_str_count PySem.F.type_str_count mt_count (pv 0) pe_str) (pa_cons (pe_m1 PySem.F.slot_str_count PySem.F.type_str_count mt_count (pv 0) pe_str) pa_nil)))) (pss_cons (ps_set (i := 2) sc_settled.nd rfl (Or.inl rfl) (pv 0)) (pss_cons (ps_set (i := 3) sc_settled.nd rfl (Or.inl rfl) pe_int) (pss_cons (ps_while PassesOwn.never (pt_cmpR op_lt (pe_c c_flow_of hr (by decide) (by rfl) (pa_cons (pv 2) pa_nil)) (pv 1) rfl) (pss_cons (ps_set (i := 2) sc_settled.nd rfl (Or.inl rfl) (pe_c c_moved hr (by decide) (by rfl) (pa_cons (pv 2) pa_nil))) (pss_one (ps_set (i := 3) sc_settled.nd rfl (Or.inl rfl) (pe_op op_add (pv 3) pe_int))))) (pss_one (ps_ret (pv 3)))))))), ?_⟩
    refine ⟨_, rfl, n, x, rfl, hn, hn2, ?_⟩
    refine ⟨_, rfl, ⟨_, rfl⟩, _, _, rfl, rfl, _, rfl, ⟨_, rfl⟩, _, _, rfl, rfl, _, _, rfl, ?_⟩
    have em : (if Txt.count (tx n x) ("." : Str) < Txt.count (tx n x) ("c" : Str) then Txt.count (tx n x) ("." : Str) else Txt.count (tx n x) ("c" : Str)) = ((most n x : Nat) : Int) := by
      rw [count_c, count_d]
      unfold most
      split <;> omega
    refine ⟨_, rfl, ?_⟩
    refine ⟨fun z σ H' => ∃ k : Nat, z = n - k ∧ k ≤ n / 2 ∧ σ = [some (.str (tx n x)), some (.int ((most n x : Nat) : Int)), some (.str (tx n (its x k))), some (.int (k : Int))] ∧ Same H H' ∧ ∀ j, j < k → flw n (its x j) < most n x, ⟨_, 0, rfl, Nat.zero_le _, by rw [← em]; rfl, Same.refl _, fun j hj => absurd hj (Nat.not_lt_zero j)⟩, fun z σ H' hz => ?_⟩
    obtain ⟨k, rfl, hk, rfl, sm, hj⟩ := hz
    refine ⟨_, rfl, n, its x k, rfl, hP.its k, hn, hn2, _, rfl, _, _, rfl, rfl, _, rfl, ?_⟩
    refine ite2 (fun e => ?_) (fun e => ?_)
    · have e1 := of_decide_eq_true e
      have hlt : k < n / 2 := by
        refine Classical.byContradiction fun z => ?_
        have := flw_settled hP hn (t := k) (by omega)
        omega
      refine ⟨fun σ' H' => ∃ k' : Nat, n - k' < n - k ∧ k' ≤ n / 2 ∧ σ' = [some (.str (tx n x)), some (.int ((most n x : Nat) : Int)), some (.str (tx n (its x k'))), some (.int (k' : Int))] ∧ Same H H' ∧ ∀ j, j < k' → flw n (its x j) < most n x, fun σ' H' h => by
        obtain ⟨k', h1, h2⟩ := h
        exact ⟨n - k', h1, k', rfl, h2⟩, ?_⟩
      refine ⟨_, rfl, n, its x k, rfl, hP.its k, hn, hn2, fun H4 s4 => ?_⟩
      refine ⟨_, rfl, _, _, rfl, rfl, k + 1, by omega, by omega, rfl, sm.trans s4, fun j h => ?_⟩
      by_cases ej : j = k
      · subst ej
        omega
      · exact hj j (by omega)
    · have e1 : ¬ ((flw n (its x k) : Nat) : Int) < ((most n x : Nat) : Int) := fun z => e (decide_eq_true z)
      have hle := flw_le (hP.its k)
      rw [most_its hP] at hle
      exact ⟨_, rfl, q k _ sm hk (by omega) hj⟩
/-! ### exchanged -/
abbrev s_exchanged : Stmt := topS 16
theorem sc_exchanged : FnScope ["ring", "sign"] ["ring"] (defScope s_exchanged) := ⟨rfl, rfl, rfl, by decide +kernel, rfl, by decide +kernel, by decide +kernel⟩
def spExch : Sp := spRing1 fun n x => .str (tx n (exch (n - 1) x))
theorem cal_exchanged {f : Addr} {fd : FuncData} (F : Fun K "exchanged" "exchanged" s_exchanged f fd) (g : mg "exchanged" = some (.ref f)) (B : Blt mg) (c_asked_ring : Cal P w K mg base 1 "asked_ring" spAskedRing) : Cal P w K mg base 2 "exchanged" spExch := by
  refine ⟨f, fd, ["ring"], F.ok sc_exchanged (fun vs H Q E h => ?_) (fun cdv A outer s H vs Q E hr h => ?_), g, F.kp, F.binds fun _ _ _ _ _ _ us hl => match us, hl with | [_], _ => rfl⟩
  · obtain ⟨n, x, rfl, _⟩ := h
    rfl
  · obtain ⟨n, x, rfl, hP, hn, hn2, q⟩ := h
    refine ⟨_, (pss_cons (ps_expr (pe_c c_asked_ring hr (by decide) (by rfl) (pa_cons (pv 0) pa_nil))) (pss_one (ps_ret (pe_join pe_str (pe_lc (own := [("sign", 1)]) (g := gName 1) (tt := tYes) rfl sc_exchanged.nd (pi_str (pe_revS (pv 0))) (blkOk_by (own := [("sign", 1)]) (N := ["ring", "sign"]) (sc := defScope s_exchanged) (by decide +kernel)) (fun _ _ _ _ _ => (pg_name (i := 1) sc_exchanged.nd rfl (Or.inl rfl))) (fun _ _ _ _ _ => pts_nil) (fun _ _ _ _ _ => (pe_ifExp (pt_cmpR op_eq (pv 1) pe_str rfl) pe_str pe_str))))))), ?_⟩
    refine ⟨_, rfl, n, x, rfl, hn, hn2, ?_⟩
    let z : Int → Bool := fun p => x (n - 1 - p)
    refine ⟨⟨_, rfl⟩, _, rfl, tx n x, rfl, tx_fits hn2, tx n z, by rw [tx_rev], fun D hD => lc_fun (walk_signs (n := n) tx_size) (fun i => V.str (one (exch (n - 1) x (i : Nat)))) (by omega) hD (fun _ _ => trivial) (fun i v H2 H3 hi sm y Q' R' q' => ?_) (fun H2 s2 e2 => ?_)⟩
    · obtain ⟨rfl, c, ec, rfl⟩ := y
      have ec := (tx_get (x := z) hi).symm.trans ec
      cases ec
      refine ⟨rfl, _, rfl, rfl, _, rfl, ?_⟩
      have qq := q' H3 (Same.refl _)
      have ez : exch (n - 1) x (i : Nat) = !(z i) := rfl
      rw [ez] at qq
      refine ite2 (fun e => ?_) (fun e => ?_)
      · have ex : z i = true := (is_c (z i)).symm.trans e
        rw [ex] at qq
        show Q' (.str ("." : Str)) H3
        rw [← one_d]
        exact qq
      · have ex : z i = false := by
          cases u : z i with
          | false => rfl
          | true => exact absurd ((is_c (z i)).trans u) e
        rw [ex] at qq
        show Q' (.str ("c" : Str)) H3
        rw [← one_c]
        exact qq
    · rw [← ones_V] at e2
      refine ⟨_, D, onesL n (exch (n - 1) x), rfl, rfl, .inl (SqL.of e2), ?_, ?_⟩
      · have := ones_sum (n := n) (x := exch (n - 1) x)
        exact Nat.le_trans (Nat.le_of_eq this) (by omega)
      · have : Q (.str (tx n (exch (n - 1) x))) H2 := q _ s2
        rw [← join_ones] at this
        exact this
end
end JR

namespace JR
open PySem PySem.Spec PyProof.Rows L2
/-- one statement for itself, then the others -/
theorem seq_cut {a b : TS} {D : Ends} {σ : L2.St} {H : Hp} (Post : L2.St → Hp → Prop) (h1 : ∀ D' : Ends, (∀ σ' H', Post σ' H' → D'.nx σ' H') → a D' σ H) (h2 : ∀ σ' H', Post σ' H' → b D σ' H') : tSeq a b D σ H := h1 _ h2
theorem not_tt {b : Bool} (h : ¬ b = true) : b = false := by
  cases b with
  | false => rfl
  | true => exact absurd rfl h
theorem no_c {b : Bool} (h : ¬ decide (V.str (one b) = V.str ("c" : Str)) = true) : b = false := not_tt fun u => h ((is_c b).trans u)
theorem yes_c {b : Bool} (h : decide (V.str (one b) = V.str ("c" : Str)) = true) : b = true := (is_c b).symm.trans h
theorem no_d {b : Bool} (h : ¬ decide (V.str (one b) = V.str ("." : Str)) = true) : b = true := by
  cases b with
  | true => rfl
  | false => exact absurd (is_d false) h
theorem yes_d {b : Bool} (h : decide (V.str (one b) = V.str ("." : Str)) = true) : b = false := by
  cases b with
  | false => rfl
  | true => exact absurd ((is_d true).symm.trans h) (by decide)
/-! ### a ring from its places -/
def per (n : Nat) (g : Nat → Bool) (p : Int) : Bool := g (p % (n : Int)).toNat
theorem per_per (n : Nat) (g : Nat → Bool) : Per n (per n g) := fun p => by
  unfold per
  rw [Int.add_emod_right]
theorem per_at {n i : Nat} {g : Nat → Bool} (h : i < n) : per n g (i : Nat) = g i := by
  unfold per
  rw [Int.emod_eq_of_lt (by omega) (by omega), Int.toNat_natCast]
theorem signs_tx (n : Nat) (x : Int → Bool) : signs (tx n x) = onesL n x := by
  unfold signs onesL
  rw [tx_list, List.map_map]
  rfl
theorem ones_perm {n : Nat} {x : Int → Bool} {ys : List Str} (h : ys.Perm (onesL n x)) : ∃ y, Per n y ∧ ys = onesL n y := by
  have hl : ys.length = n := by
    rw [h.length_eq]
    unfold onesL
    rw [List.length_map, List.length_range]
  refine ⟨per n fun i => decide (ys.getD i ⟨#[]⟩ = one true), per_per _ _, List.ext_getElem? fun i => ?_⟩
  by_cases hi : i < n
  · unfold onesL
    rw [List.getElem?_map, List.getElem?_range hi, List.getElem?_eq_getElem (by omega)]
    show some _ = some (one (per n (fun i => decide (ys.getD i ⟨#[]⟩ = one true)) (i : Nat)))
    rw [per_at hi]
    have hm : ys[i]'(by omega) ∈ onesL n x := h.mem_iff.mp (List.getElem_mem _)
    obtain ⟨k, _, e⟩ := List.mem_map.mp hm
    have e2 : ys.getD i ⟨#[]⟩ = one (x (k : Nat)) := by
      rw [List.getD_eq_getElem?_getD, List.getElem?_eq_getElem (by omega)]
      exact e.symm
    rw [e2, ← e]
    cases x (k : Nat) with
    | true => rw [decide_eq_true rfl]
    | false => rw [decide_eq_false (by decide)]
  · unfold onesL
    rw [List.getElem?_eq_none (by omega), List.getElem?_eq_none (by rw [List.length_map, List.length_range]; omega)]
theorem kept_cnt {p : Nat → Bool} {y : Int → Bool} {f : Nat → V} : ∀ {n : Nat}, (∀ i : Nat, i < n → p i = y (0 + (i : Nat))) → (kept n p f).length = cnt y 0 n
  | 0, _ => rfl
  | n + 1, h => by
    rw [kept_succ, List.length_append, kept_cnt fun i hi => h i (by omega), h n (by omega)]
    show _ = cnt y 0 n + b2n (y (0 + (n : Nat)))
    cases y (0 + (n : Nat)) <;> rfl
theorem flw_back {n : Nat} {x : Int → Bool} (h : Per n x) : cnt (fun p => x (p - 1) && !x p) 0 n = flw n x := by
  have e : (fun p => x (p - 1) && !x p) = shf (-1) (mov x) := by
    funext p
    unfold shf mov
    rw [show p + -1 = p - 1 by omega, show p - 1 + 1 = p by omega]
  rw [e]
  exact cnt_shf h.mov (-1)
section
variable {P : Program} {w : World} {K : PySem.W.Frag} {mg : Str → Option Value} {base : Heap}
/-! ### _law_ring -/
abbrev s__law_ring : Stmt := topS 18
theorem sc__law_ring : FnScope ["_law_script", "_law_kind", "_law_ring_here", "_law_cell", "_law_sign"] ["_law_script"] (defScope s__law_ring) := ⟨rfl, rfl, rfl, by decide +kernel, rfl, by decide +kernel, by decide +kernel⟩
def spLawRing (K : PySem.W.Frag) : Sp := fun vs H Q _ => ∃ (a : Addr) (ns : List Int), vs = [.ref a] ∧ SqL K H a (ns.map V.int) ∧ 0 < ns.length ∧ ns.length ≤ 63 ∧ ∀ (x : Int → Bool) H', Same H H' → Per ns.length x → Q (.str (tx ns.length x)) H'
theorem cal__law_ring {f : Addr} {fd : FuncData} (F : Fun K "_law_ring" "_law_ring" s__law_ring f fd) (g : mg "_law_ring" = some (.ref f)) (B : Blt mg) : Cal P w K mg base 1 "_law_ring" (spLawRing K) := by
  refine ⟨f, fd, ["_law_script"], F.ok sc__law_ring (fun vs H Q E h => ?_) (fun cdv A outer s H vs Q E hr h => ?_), g, F.kp, F.binds fun _ _ _ _ _ _ us hl => match us, hl with | [_], _ => rfl⟩
  · obtain ⟨a, ns, rfl, _⟩ := h
    rfl
  · obtain ⟨a, ns, rfl, hS, hn, hn2, q⟩ := h
    refine ⟨_, (pss_cons (ps_set (i := 1) sc__law_ring.nd rfl (Or.inr rfl) (pe_op op_modN (pe_callB (sumK K rfl) (by rfl) B.sum bt_sum (pa_cons (pv 0) pa_nil)) pe_int)) (pss_cons (ps_set (i := 2) sc__law_ring.nd rfl (Or.inl rfl) (pe_join pe_str (pe_lc (own := [("_law_cell", 3)]) (g := gName 3) (tt := tYes) rfl sc__law_ring.nd (pi_list (pv 0)) (blkOk_by (own := [("_law_cell", 3)]) (N := ["_law_script", "_law_kind", "_law_ring_here", "_law_cell", "_law_sign"]) (sc := defScope s__law_ring) (by decide +kernel)) (fun _ _ _ _ _ => (pg_name (i := 3) sc__law_ring.nd rfl (Or.inl rfl))) (fun _ _ _ _ _ => pts_nil) (fun _ _ _ _ _ => (pe_ifExp (pt_cmpR op_eq (pe_op op_modN (pv 3) (pe_ix (ixtK K) (pe_tup (pa_cons pe_int (pa_cons pe_int (pa_cons pe_int (pa_cons pe_int (pa_cons pe_int pa_nil)))))) (pv 1) (fun _ _ => rfl))) pe_int rfl) pe_str pe_str))))) (pss_cons (ps_if (pt_cmpR op_eq (pv 1) pe_int rfl) (pss_one (ps_ret (pe_join pe_str (pe_callB (cr_sortedTxt rfl) (by rfl) B.sorted bt_sorted (pa_cons (pv 2) pa_nil))))) pss_nil) (pss_one (ps_ret (pe_ifExp (pt_cmpR op_eq (pv 1) pe_int rfl) (pe_join pe_str (pe_lc (own := [("_law_sign", 4)]) (g := gName 4) (tt := tYes) rfl sc__law_ring.nd (pi_str (pv 2)) (blkOk_by (own := [("_law_sign", 4)]) (N := ["_law_script", "_law_kind", "_law_ring_here", "_law_cell", "_law_sign"]) (sc := defScope s__law_ring) (by decide +kernel)) (fun _ _ _ _ _ => (pg_name (i := 4) sc__law_ring.nd rfl (Or.inl rfl))) (fun _ _ _ _ _ => pts_nil) (fun _ _ _ _ _ => (pe_ifExp (pt_cmpR op_eq (pv 4) pe_str rfl) pe_str pe_str)))) (pv 2))))))), ?_⟩
    refine ⟨_, rfl, a, ns, rfl, hS, _, _, rfl, rfl, (show (5 : Int) ≠ 0 by decide), ?_⟩
    obtain ⟨wd, hw, ew⟩ := at_rest [2, 3, 5, 2, 3] ns.sum 5 rfl (by decide)
    have hw0 : wd ≠ 0 := by
      simp only [List.mem_cons, List.not_mem_nil, or_false] at hw
      omega
    have hS0 := hS
    rw [iL_of] at hS
    generalize hln : ns.length = n at hS hn hn2 q
    let x : Int → Bool := per n fun i => decide ((ns.getD i 0).fmod wd = 0)
    have hx : ∀ i, i < n → x (i : Nat) = decide (V.int ((ns.getD i 0).fmod wd) = V.int 0) := fun i hi => by
      rw [show x (i : Nat) = decide ((ns.getD i 0).fmod wd = 0) from per_at hi]
      by_cases e : (ns.getD i 0).fmod wd = 0
      · rw [decide_eq_true e, decide_eq_true (by rw [e])]
      · rw [decide_eq_false e, decide_eq_false fun z => e (V.int.inj z)]
    have hP : Per n x := per_per _ _
    refine ⟨⟨_, rfl⟩, _, rfl, a, rfl, ⟨_, hS⟩, fun D hD => lc_fun (walk_iL (n := n) (c := fun i => ns.getD i 0)) (fun i => V.str (one (x (i : Nat)))) (by omega) hD (fun H s => s.seq hS) (fun i v H2 H3 hi sm y Q' R' q' => ?_) (fun H2 s2 e2 => ?_)⟩
    · obtain ⟨rfl, rfl⟩ := y
      refine ⟨rfl, _, rfl, (show 5 ≤ sizeLine by decide), fun T1 n1 => ?_⟩
      refine ⟨_, rfl, T1, _, _, _, rfl, rfl, SqT.of upd_same, ew, _, _, rfl, rfl, hw0, rfl, _, rfl, ?_⟩
      have qq := q' _ (same_new (o := .tup [.int 2, .int 3, .int 5, .int 2, .int 3]) n1)
      rw [hx i hi] at qq
      refine ite2 (fun e => ?_) (fun e => ?_)
      · have e : decide (V.int ((ns.getD i 0).fmod wd) = V.int 0) = true := e
        rw [e] at qq
        rw [one_c] at qq
        exact qq
      · have e : decide (V.int ((ns.getD i 0).fmod wd) = V.int 0) = false := not_tt e
        rw [e] at qq
        rw [one_d] at qq
        exact qq
    · rw [← ones_V] at e2
      refine ⟨_, D, onesL n x, rfl, rfl, .inl (SqL.of e2), ?_, ?_⟩
      · have := ones_sum (n := n) (x := x)
        exact Nat.le_trans (Nat.le_of_eq this) (by omega)
      · have fin : ∀ σ1 : L2.St, σ1 = [some (V.ref a), some (.int (ns.sum.fmod 5)), some (.str (tx n x)), none, none] → (tSeq (tIfS (tTest (tOp rEq (tVar 1) (tC (.int 3)))) (tRet (tM1 (fun x xs H Q => ∃ (a : Str) (p : Addr), ∃ ys : List Str, x = V.str a ∧ xs = [V.ref p] ∧ (SqL K H p (ys.map V.str) ∨ SqT K H p (ys.map V.str)) ∧ (ys.map (·.length)).sum + ys.length * a.length ≤ 16777216 ∧ Q (.str (Txt.join a ys)) H) (tC (.str ("" : Str))) (tCB rSortedTxt (tCons (tVar 2) tNil)))) tNext)
            (tRet (tIf (tTest (tOp rEq (tVar 1) (tC (.int 4)))) (tM1 (fun x xs H Q => ∃ (a : Str) (p : Addr), ∃ ys : List Str, x = V.str a ∧ xs = [V.ref p] ∧ (SqL K H p (ys.map V.str) ∨ SqT K H p (ys.map V.str)) ∧ (ys.map (·.length)).sum + ys.length * a.length ≤ 16777216 ∧ Q (.str (Txt.join a ys)) H) (tC (.str ("" : Str))) (tLc (iStr (tVar 2)) (gName 4) tYes (tIf (tTest (tOp rEq (tVar 4) (tC (.str ("c" : Str))))) (tC (.str ("." : Str))) (tC (.str ("c" : Str)))) [4])) (tVar 2)))) { nx := fun _ H' => Q .non H', rt := Q } σ1 H2 := fun σ1 hσ => by
          subst hσ
          refine ⟨_, rfl, rfl, _, rfl, ?_⟩
          refine ite2 (fun _ => ?_) (fun _ => ?_)
          · refine ⟨⟨_, rfl⟩, _, rfl, tx n x, rfl, by rw [tx_size]; omega, fun ys p hp np => ?_⟩
            rw [signs_tx] at hp
            obtain ⟨y, hy, rfl⟩ := ones_perm hp
            refine ⟨_, p, onesL n y, rfl, rfl, .inl (SqL.of upd_same), ?_, ?_⟩
            · have := ones_sum (n := n) (x := y)
              exact Nat.le_trans (Nat.le_of_eq this) (by omega)
            · have := q y _ (s2.trans (same_new (o := .lst ((onesL n y).map V.str)) np)) hy
              rw [← join_ones] at this
              exact this
          · refine ⟨_, rfl, rfl, _, rfl, ?_⟩
            refine ite2 (fun _ => ?_) (fun _ => ?_)
            · let z : Int → Bool := fun p => !x p
              refine ⟨⟨_, rfl⟩, _, rfl, tx n x, rfl, fun D2 hD2 => lc_fun (walk_signs (n := n) tx_size) (fun i => V.str (one (z (i : Nat)))) (by omega) hD2 (fun _ _ => trivial) (fun i v H3 H4 hi sm y Q' R' q' => ?_) (fun H3 s3 e3 => ?_)⟩
              · obtain ⟨rfl, c, ec, rfl⟩ := y
                have ec := (tx_get (x := x) hi).symm.trans ec
                cases ec
                refine ⟨rfl, _, rfl, rfl, _, rfl, ?_⟩
                have qq : Q' (.str (one (!x (i : Nat)))) H4 := q' H4 (Same.refl _)
                refine ite2 (fun e => ?_) (fun e => ?_)
                · have ex : x i = true := yes_c e
                  rw [ex] at qq
                  show Q' (.str ("." : Str)) H4
                  rw [← one_d]
                  exact qq
                · have ex : x i = false := no_c e
                  rw [ex] at qq
                  show Q' (.str ("c" : Str)) H4
                  rw [← one_c]
                  exact qq
              · rw [← ones_V] at e3
                refine ⟨_, D2, onesL n z, rfl, rfl, .inl (SqL.of e3), ?_, ?_⟩
                · have := ones_sum (n := n) (x := z)
                  exact Nat.le_trans (Nat.le_of_eq this) (by omega)
                · have hz : Per n z := fun p => by
                    show (!x (p + n)) = !x p
                    rw [hP p]
                  have := q z _ (s2.trans s3) hz
                  rw [← join_ones] at this
                  exact this
            · exact ⟨_, rfl, q x _ s2 hP⟩
        have ej : Txt.join (SX.S []) (onesL n x) = tx n x := join_ones
        have ej2 : ∀ z : Str, z = SX.S [] → [some (V.ref a), some (.int (ns.sum.fmod 5)), some (.str (Txt.join z (onesL n x))), none, none] = [some (V.ref a), some (.int (ns.sum.fmod 5)), some (.str (tx n x)), none, none] := fun z hz => by rw [hz, ej]
        exact fin _ (ej2 _ rfl)
/-! ### _law_around -/
abbrev s__law_around : Stmt := topS 19
theorem sc__law_around : FnScope ["_law_ring_here", "_law_signs", "_law_at", "_law_stays", "_law_comes"] ["_law_ring_here"] (defScope s__law_around) := ⟨rfl, rfl, rfl, by decide +kernel, rfl, by decide +kernel, by decide +kernel⟩
theorem cal__law_around {f : Addr} {fd : FuncData} (F : Fun K "_law_around" "_law_around" s__law_around f fd) (g : mg "_law_around" = some (.ref f)) (B : Blt mg) : Cal P w K mg base 1 "_law_around" spStp := by
  refine ⟨f, fd, ["_law_ring_here"], F.ok sc__law_around (fun vs H Q E h => ?_) (fun cdv A outer s H vs Q E hr h => ?_), g, F.kp, F.binds fun _ _ _ _ _ _ us hl => match us, hl with | [_], _ => rfl⟩
  · obtain ⟨n, x, rfl, _⟩ := h
    rfl
  · obtain ⟨n, x, rfl, hP, hn, hn2, q⟩ := h
    refine ⟨_, (pss_cons (ps_set (i := 1) sc__law_around.nd rfl (Or.inl rfl) (pe_lst pa_nil)) (pss_cons (ps_for PassesOwn.never rfl (pi_range1 rfl B.range (pa_cons (pe_callB call_len_str (by rfl) B.len bt_len (pa_cons (pv 0) pa_nil)) pa_nil)) (pg_name (i := 2) sc__law_around.nd rfl (Or.inl rfl)) (pss_cons (ps_set (i := 3) sc__law_around.nd rfl (Or.inl rfl) (pe_and (pe_cmpR op_eq (pe_ix ix_str (pv 0) (pv 2) (fun _ _ => rfl)) pe_str rfl) (pe_one (pe_cmpR op_eq (pe_ix ix_str (pv 0) (pe_op op_modN (pe_op op_add (pv 2) pe_int) (pe_callB call_len_str (by rfl) B.len bt_len (pa_cons (pv 0) pa_nil))) (fun _ _ => rfl)) pe_str rfl)))) (pss_cons (ps_set (i := 4) sc__law_around.nd rfl (Or.inl rfl) (pe_and (pe_cmpR op_eq (pe_ix ix_str (pv 0) (pv 2) (fun _ _ => rfl)) pe_str rfl) (pe_one (pe_cmpR op_eq (pe_ix ix_str (pv 0) (pe_op op_sub (pv 2) pe_int) (fun _ _ => rfl)) pe_str rfl)))) (pss_one (ps_expr (pe_bm PySem.F.plainAttrs_list PySem.F.slot_list_append PySem.F.type_list_append mt_append (pv 1) (pa_cons (pe_ifExp (PW.pt (pw_or (pt_val (pv 3)) (pw_or1 (pt_val (pv 4))))) pe_str pe_str) pa_nil))))))) (pss_one (ps_ret (pe_join pe_str (pv 1)))))), ?_⟩
    refine ⟨Nat.zero_le _, fun o no => ?_⟩
    have s1 := same_new (o := .lst []) no
    refine ⟨_, rfl, _, rfl, tx_fits hn2, (n : Int), by rw [tx_len], by omega, by omega, for_it (walk_range (lo := 0) (n := (n : Int).toNat)) (fun i σ H' => ∃ y2 y3 y4, σ = [some (.str (tx n x)), some (.ref o), y2, y3, y4] ∧ Same H H' ∧ H' o = some (.lst ((onesL i (stp x)).map V.str))) ⟨none, none, none, rfl, s1, upd_same⟩ (fun i σ H' _ p => trivial) (fun i v σ H2 H3 hi p y => ?_) (fun σ H2 p => ?_)⟩
    · obtain ⟨y2, y3, y4, rfl, sm, eo⟩ := p
      obtain ⟨rfl, rfl⟩ := y
      have hi : i < n := by omega
      have e0 : (0 + (i : Int) + 1).fmod ((tx n x).length : Int) = ((i : Int) + 1).fmod n := by rw [tx_len, Int.zero_add]
      have a0 : atI (tx n x).cps.toList (0 + (i : Int)) = some (code (x (i : Nat))) := by rw [Int.zero_add]; exact tx_at hP hn (by omega) (by omega)
      have a1 : atI (tx n x).cps.toList ((0 + (i : Int) + 1).fmod ((tx n x).length : Int)) = some (code (x ((i : Int) + 1))) := by rw [e0, tx_at hP hn (by have := fm_lo hn ((i : Int) + 1); omega) (fm_hi hn _), hP.fm]
      have a2 : atI (tx n x).cps.toList (0 + (i : Int) - 1) = some (code (x ((i : Int) - 1))) := by rw [Int.zero_add]; exact tx_at hP hn (by omega) (by omega)
      refine seq_cut (fun σ' H' => σ' = [some (.str (tx n x)), some (.ref o), some (.int (0 + (i : Int))), some (.bl (x (i : Nat) && x ((i : Int) + 1))), y4] ∧ H3 = H')
        (fun D' k => ⟨_, rfl, _, rfl, _, _, _, rfl, rfl, tx_fits hn2, a0, rfl, _, rfl, ite2 (fun e => ?_) (fun e => ?_)⟩) (fun σ' H' e => ?_)
      · have ex : x (i : Nat) = true := yes_c e
        refine ⟨_, rfl, _, rfl, _, _, rfl, rfl, _, rfl, _, rfl, tx_fits hn2, _, _, rfl, rfl, (show ((tx n x).length : Int) ≠ 0 by rw [tx_len]; omega), _, _, _, rfl, rfl, tx_fits hn2, a1, rfl, k _ _ ⟨?_, rfl⟩⟩
        rw [ex, Bool.true_and]
        exact congrArg (fun z : Bool => [some (V.str (tx n x)), some (.ref o), some (.int (0 + (i : Int))), some (.bl z), y4]) (is_c (x ((i : Int) + 1)))
      · have ex : x (i : Nat) = false := no_c e
        refine k _ _ ⟨?_, rfl⟩
        rw [ex, Bool.false_and]
        rfl
      obtain ⟨rfl, rfl⟩ := e
      refine seq_cut (fun σ' H' => σ' = [some (.str (tx n x)), some (.ref o), some (.int (0 + (i : Int))), some (.bl (x (i : Nat) && x ((i : Int) + 1))), some (.bl (!x (i : Nat) && x ((i : Int) - 1)))] ∧ H3 = H')
        (fun D' k => ⟨_, rfl, _, rfl, _, _, _, rfl, rfl, tx_fits hn2, a0, rfl, _, rfl, ite2 (fun e => ?_) (fun e => ?_)⟩) (fun σ' H' e => ?_)
      · have ex : x (i : Nat) = false := yes_d e
        refine ⟨_, rfl, _, rfl, _, _, rfl, rfl, _, _, _, rfl, rfl, tx_fits hn2, a2, rfl, k _ _ ⟨?_, rfl⟩⟩
        rw [ex]
        exact congrArg (fun z : Bool => [some (V.str (tx n x)), some (.ref o), some (.int (0 + (i : Int))), some (.bl (false && x ((i : Int) + 1))), some (.bl z)]) (is_c (x ((i : Int) - 1)))
      · have ex : x (i : Nat) = true := no_d e
        refine k _ _ ⟨?_, rfl⟩
        rw [ex]
        rfl
      obtain ⟨rfl, rfl⟩ := e
      have fin : ∀ v : Bool, v = stp x i → ∃ y2 y3 y4, [some (V.str (tx n x)), some (.ref o), some (.int (0 + (i : Int))), some (.bl (x (i : Nat) && x ((i : Int) + 1))), some (.bl (!x (i : Nat) && x ((i : Int) - 1)))] = [some (.str (tx n x)), some (.ref o), y2, y3, y4] ∧ Same H (upd H3 o (.lst ((onesL i (stp x)).map V.str ++ [V.str (one v)]))) ∧ upd H3 o (.lst ((onesL i (stp x)).map V.str ++ [V.str (one v)])) o = some (.lst ((onesL (i + 1) (stp x)).map V.str)) := fun v hv => by
        refine ⟨_, _, _, rfl, same_mut sm no, ?_⟩
        rw [upd_same, hv, ones_snoc]
      have hlt : ((onesL i (stp x)).map V.str).length < sizeLine := by rw [ones_len]; exact lt_line (by omega)
      refine ⟨_, rfl, .inl ⟨rfl, _, SqL.of eo⟩, _, rfl, _, rfl, ?_⟩
      refine ite2 (fun e => ?_) (fun e => ?_)
      · have e : (x (i : Nat) && x ((i : Int) + 1)) = true := e
        rw [Bool.and_eq_true] at e
        refine ⟨o, _, _, rfl, rfl, eo, hlt, ?_⟩
        have := fin true (by unfold stp; rw [if_pos e.1, e.2])
        rw [one_c] at this
        exact this
      · have e : (x (i : Nat) && x ((i : Int) + 1)) = false := not_tt e
        refine ⟨_, rfl, _, rfl, ?_⟩
        refine ite2 (fun e2 => ?_) (fun e2 => ?_)
        · have e2 : (!x (i : Nat) && x ((i : Int) - 1)) = true := e2
          rw [Bool.and_eq_true] at e2
          refine ⟨o, _, _, rfl, rfl, eo, hlt, ?_⟩
          have := fin true (by
            unfold stp
            cases u : x (i : Nat) with
            | true => rw [u] at e2; exact absurd e2.1 (by decide)
            | false => rw [if_neg (by decide), e2.2])
          rw [one_c] at this
          exact this
        · have e2 : (!x (i : Nat) && x ((i : Int) - 1)) = false := not_tt e2
          refine ⟨o, _, _, rfl, rfl, eo, hlt, ?_⟩
          have := fin false (by
            unfold stp
            cases u : x (i : Nat) with
            | true => rw [u, Bool.true_and] at e; rw [if_pos rfl, e]
            | false => rw [u] at e2; rw [if_neg (by decide)]; exact e2.symm)
          rw [one_d] at this
          exact this
    · obtain ⟨y2, y3, y4, rfl, sm, eo⟩ := p
      rw [show (n : Int).toNat = n by omega] at eo
      refine ⟨⟨_, rfl⟩, _, rfl, _, o, onesL n (stp x), rfl, rfl, .inl (SqL.of eo), ?_, ?_⟩
      · have := ones_sum (n := n) (x := stp x)
        exact Nat.le_trans (Nat.le_of_eq this) (by omega)
      · have : Q (.str (tx n (stp x))) H2 := q _ sm
        rw [← join_ones] at this
        exact this
end
end JR

namespace JR
open PySem PySem.Spec PyProof.Rows L2
theorem exch_exch (a : Int) (x : Int → Bool) : exch a (exch a x) = x := by
  funext p
  unfold exch
  rw [show a - (a - p) = p by omega, Bool.not_not]
/-- the least counts are one -/
theorem least_one {f g : Nat → Nat} {m m' : Nat} (hf : ∀ t, f t = g t) (hm : m = m') {k1 k2 : Nat} (h1 : f k1 = m) (l1 : ∀ j, j < k1 → f j < m) (h2 : g k2 = m') (l2 : ∀ j, j < k2 → g j < m') : k1 = k2 := by
  subst hm
  rcases Nat.lt_trichotomy k1 k2 with h | h | h
  · have := l2 k1 h
    rw [← hf] at this
    omega
  · exact h
  · have := l1 k2 h
    rw [hf] at this
    omega
/-- {'c': '.', '.': 'c'} -/
def swapD : List (Key × V) := [(Sum.inr (one true), .str (one false)), (Sum.inr (one false), .str (one true))]
theorem swap_at (b : Bool) : valV (mergeK [] swapD) (Sum.inr (one b) : Key) = some (.str (one (!b))) := by
  have e : mergeK [] swapD = putK (putK [] (Sum.inr (one true)) (.str (one false))) (Sum.inr (one false)) (.str (one true)) := rfl
  rw [e, valV_put, valV_put]
  cases b with
  | true =>
    rw [if_neg (fun z => absurd (Sum.inr.inj z) (by decide)), if_pos rfl]
    rfl
  | false =>
    rw [if_pos rfl]
    rfl
section
variable {P : Program} {w : World} {K : PySem.W.Frag} {mg : Str → Option Value} {base : Heap}
/-! ### the law -/
abbrev s_law : Stmt := topS 20
theorem sc_law : FnScope ["_law_script", "_law_ring_here", "_law_many", "_law_other", "_law_at", "_law_mixed", "_law_steps", "_law_first", "_law_elsewhere", "_law_now"] ["_law_script"] (defScope s_law) := ⟨rfl, rfl, rfl, by decide +kernel, rfl, by decide +kernel, by decide +kernel⟩
def spLaw (K : PySem.W.Frag) : Sp := fun vs H Q _ => ∃ (a : Addr) (ns : List Int), vs = [.ref a] ∧ SqL K H a (ns.map V.int) ∧ ns.length ≤ 63 ∧ ∀ H', Q (.bl true) H'
theorem ok_law {f : Addr} {fd : FuncData} (F : Fun K "law" "law" s_law f fd) (B : Blt mg) (c__law_ring : Cal P w K mg base 1 "_law_ring" (spLawRing K)) (c__law_around : Cal P w K mg base 1 "_law_around" spStp)
    (c_around_after : Cal P w K mg base 3 "around_after" spAfterR) (c_around : Cal P w K mg base 2 "around" spStp) (c_flow : Cal P w K mg base 4 "flow" spFlow) (c_settled : Cal P w K mg base 2 "settled" spSettled) (c_exchanged : Cal P w K mg base 2 "exchanged" spExch) : FnOk P w K mg base CX0 5 f fd ["_law_script"] (spLaw K) := by
  refine F.ok sc_law (fun vs H Q E h => ?_) (fun cdv A outer s H vs Q E hr h => ?_)
  · obtain ⟨a, ns, rfl, _⟩ := h
    rfl
  · obtain ⟨a, ns, rfl, hS, hns, q⟩ := h
    refine ⟨_, (pss_cons (ps_if (pt_cmpR (eqK K hr.units) (pv 0) (pe_lst pa_nil) rfl) (pss_one (ps_ret pe_bl)) pss_nil) (pss_cons (ps_set (i := 1) sc_law.nd rfl (Or.inl rfl) (pe_c c__law_ring hr (by decide) (by rfl) (pa_cons (pv 0) pa_nil))) (pss_cons (ps_set (i := 2) sc_law.nd rfl (Or.inl rfl) (pe_callB call_len_str (by rfl) B.len bt_len (pa_cons (pv 1) pa_nil))) (pss_cons (ps_set (i := 3) sc_law.nd rfl (Or.inl rfl) (pe_c c_exchanged hr (by decide) (by rfl) (pa_cons (pv 1) pa_nil))) (pss_cons (ps_if (PW.pt (pw_or (pt_not (pt_val (pe_callB (isiK K) (by rfl) B.isinstance bt_isinstance (pa_cons (pv 3) (pa_cons (pe_ty (by rfl) B.str bt_str) pa_nil))))) (pw_or1 (pt_cmpR op_ne (pe_callB call_len_str (by rfl) B.len bt_len (pa_cons (pv 3) pa_nil)) (pv 2) rfl)))) (pss_one (ps_ret pe_bl)) pss_nil) (pss_cons (ps_for PassesOwn.never rfl (pi_range1 rfl B.range (pa_cons (pv 2) pa_nil)) (pg_name (i := 4) sc_law.nd rfl (Or.inl rfl)) (pss_one (ps_if (pt_cmpR op_ne (pe_ix ix_str (pv 3) (pv 4) (fun _ _ => rfl)) (pe_dget (hu_of hr) (pe_disp (pps_cons pe_str pe_str (pps_cons pe_str pe_str pps_nil)) (by rfl) (by rfl) (fun z => by cases z) (by decide)) (pe_ix ix_str (pv 1) (pe_op op_sub (pe_op op_sub (pv 2) pe_int) (pv 4)) (fun _ _ => rfl)) (fun _ _ => rfl)) rfl) (pss_one (ps_ret pe_bl)) pss_nil))) (pss_cons (ps_if (PW.pt (pw_or (pt_cmpR op_ne (pe_c c_exchanged hr (by decide) (by rfl) (pa_cons (pv 3) pa_nil)) (pv 1) rfl) (pw_or (pt_cmpR op_ne (pe_c c_around hr (by decide) (by rfl) (pa_cons (pv 3) pa_nil)) (pe_c c_exchanged hr (by decide) (by rfl) (pa_cons (pe_c c__law_around hr (by decide) (by rfl) (pa_cons (pv 1) pa_nil)) pa_nil)) rfl) (pw_or1 (pt_cmpR op_ne (pe_c c_settled hr (by decide) (by rfl) (pa_cons (pv 3) pa_nil)) (pe_c c_settled hr (by decide) (by rfl) (pa_cons (pv 1) pa_nil)) rfl))))) (pss_one (ps_ret pe_bl)) pss_nil) (pss_cons (ps_set (i := 5) sc_law.nd rfl (Or.inl rfl) (pe_callB (sumK K rfl) (by rfl) B.sum bt_sum (pa_cons (pv 0) pa_nil))) (pss_cons (ps_set (i := 6) sc_law.nd rfl (Or.inl rfl) (pe_op op_modN (pv 5) (pe_op op_mul pe_int (pv 2)))) (pss_cons (ps_if (PW.pt (pw_or (pt_cmpR op_ne (pe_c c_around_after hr (by decide) (by rfl) (pa_cons (pv 3) (pa_cons (pv 6) pa_nil))) (pe_c c_exchanged hr (by decide) (by rfl) (pa_cons (pe_c c_around_after hr (by decide) (by rfl) (pa_cons (pv 1) (pa_cons (pv 6) pa_nil))) pa_nil)) rfl) (pw_or1 (pt_cmpR op_ne (pe_c c_flow hr (by decide) (by rfl) (pa_cons (pv 3) (pa_cons (pv 6) pa_nil))) (pe_c c_flow hr (by decide) (by rfl) (pa_cons (pv 1) (pa_cons (pv 6) pa_nil))) rfl)))) (pss_one (ps_ret pe_bl)) pss_nil) (pss_cons (ps_set (i := 7) sc_law.nd rfl (Or.inl rfl) (pe_op op_modN (pe_op op_fdivN (pv 5) pe_int) (pv 2))) (pss_cons (ps_set (i := 8) sc_law.nd rfl (Or.inl rfl) (pe_op op_add_str (pe_slice sl_str (pv 1) (po_some (pv 7)) po_none) (pe_slice sl_str (pv 1) po_none (po_some (pv 7))))) (pss_cons (ps_set (i := 9) sc_law.nd rfl (Or.inl rfl) (pe_c c_around_after hr (by decide) (by rfl) (pa_cons (pv 1) (pa_cons (pv 6) pa_nil)))) (pss_one (ps_ret (pe_and (pe_cmpR op_eq (pe_c c_around_after hr (by decide) (by rfl) (pa_cons (pv 8) (pa_cons (pv 6) pa_nil))) (pe_op op_add_str (pe_slice sl_str (pv 9) (po_some (pv 7)) po_none) (pe_slice sl_str (pv 9) po_none (po_some (pv 7)))) rfl) (pe_one (pe_cmpR op_eq (pe_c c_settled hr (by decide) (by rfl) (pa_cons (pv 8) pa_nil)) (pe_c c_settled hr (by decide) (by rfl) (pa_cons (pv 1) pa_nil)) rfl)))))))))))))))))), ?_⟩
    -- script == []
    refine ⟨_, rfl, Nat.zero_le _, fun p0 np0 => ?_⟩
    have s0 := same_new (o := .lst []) np0
    refine eq_lists (xs := ns) (ys := []) (s0.seq hS) (SqL.of upd_same) ⟨_, rfl, ?_⟩
    refine ite2 (fun e => q _) (fun e => ?_)
    have hpos : 0 < ns.length := by
      cases ns with
      | nil => exact absurd (decide_eq_true rfl) e
      | cons _ _ => exact Nat.succ_pos _
    refine ⟨_, rfl, a, ns, rfl, s0.seq hS, hpos, hns, fun x H1 s1 hP => ?_⟩
    generalize hln : ns.length = n at hpos hns hP
    have hn2 : n ≤ 1000 := by omega
    have hS1 := (s0.trans s1).seq hS
    -- many
    dsimp only
    refine seq_cut (fun σ' H' => σ' = [some (.ref a), some (.str (tx n x)), some (.int (n : Int)), none, none, none, none, none, none, none] ∧ H1 = H')
      (fun D' k => ⟨_, rfl, _, rfl, tx_fits hn2, k _ _ ⟨by rw [tx_len]; rfl, rfl⟩⟩) (fun σ' H' e => ?_)
    obtain ⟨rfl, rfl⟩ := e
    -- other
    refine ⟨_, rfl, n, x, rfl, hP, hpos, hn2, fun H2 s2 => ?_⟩
    let z : Int → Bool := exch ((n : Int) - 1) x
    have hz : Per n z := hP.exch _
    have zx : exch ((n : Int) - 1) z = x := exch_exch _ _
    have zt : ∀ t, its z t = exch ((n : Int) - 1) (its x t) := its_exch _ _
    have zf : ∀ t, flw n (its z t) = flw n (its x t) := fun t => by rw [zt, flw_exch (hP.its t)]
    have zm : most n z = most n x := most_exch hP _
    have hS2 := s2.seq hS1
    refine ⟨_, rfl, .str (tx n z), .ty "str", .type "str", .type "str", true, rfl, .ty _, .base (.str _), kit_ty (by decide +kernel), true, rfl, iteF ?_⟩
    refine ⟨_, rfl, _, rfl, tx_fits hn2, _, rfl, rfl, _, rfl, ite2 (fun e => ?_) (fun _ => ?_)⟩
    · have e : (!decide (V.int ((tx n z).length : Int) = V.int (n : Int))) = true := e
      rw [tx_len, decide_eq_true rfl] at e
      cases e
    -- for at in range(many)
    refine ⟨_, rfl, (n : Int), rfl, by omega, by omega, for_it (walk_range (lo := 0) (n := (n : Int).toNat)) (fun i σ H' => ∃ y4, σ = [some (.ref a), some (.str (tx n x)), some (.int (n : Int)), some (.str (tx n z)), y4, none, none, none, none, none] ∧ Same H2 H')
      ⟨none, rfl, Same.refl _⟩ (fun _ _ _ _ _ => trivial) (fun i v σ H3 H4 hi pv y => ?_) (fun σ H3 pv => ?_)⟩
    · obtain ⟨y4, rfl, s3⟩ := pv
      obtain ⟨rfl, rfl⟩ := y
      have hi : i < n := by omega
      have a0 : atI (tx n z).cps.toList (0 + (i : Int)) = some (code (z (i : Nat))) := by rw [Int.zero_add]; exact tx_at hz hpos (by omega) (by omega)
      have a1 : atI (tx n x).cps.toList ((n : Int) - 1 - (0 + (i : Int))) = some (code (x ((n : Int) - 1 - (i : Nat)))) := by rw [Int.zero_add]; exact tx_at hP hpos (by omega) (by omega)
      refine ⟨_, rfl, _, rfl, _, _, _, rfl, rfl, tx_fits hn2, a0, fun p np => ⟨upd_same, swapD, ?_, by decide, ?_⟩⟩
      · show [(V.str ("c" : Str), V.str ("." : Str)), (V.str ("." : Str), V.str ("c" : Str))] = _
        rw [← one_c, ← one_d]
        rfl
      refine ⟨_, rfl, _, rfl, _, _, rfl, rfl, _, rfl, _, _, rfl, rfl, _, _, _, rfl, rfl, tx_fits hn2, a1, p, .str (one (!(x ((n : Int) - 1 - (i : Nat))))), rfl, ?_, rfl, _, rfl, ite2 (fun e => ?_) (fun _ => ?_)⟩
      · rw [← swap_at]
        exact DGet.k (k := Sum.inr (one (x ((n : Int) - 1 - (i : Nat))))) upd_same
      · have e : (!decide (V.str (one (z (i : Nat))) = V.str (one (!(x ((n : Int) - 1 - (i : Nat))))))) = true := e
        have ez : z (i : Nat) = !(x ((n : Int) - 1 - (i : Nat))) := rfl
        rw [ez, decide_eq_true rfl] at e
        cases e
      · exact ⟨_, rfl, s3.trans (same_mut (same_new (o := .dK []) np) np)⟩
    · obtain ⟨y4, rfl, s3⟩ := pv
      -- exchanged(other) != ring or around(other) != exchanged(_law_around(ring)) or settled(other) != settled(ring)
      refine ⟨_, rfl, n, z, rfl, hz, hpos, hn2, fun H5 s5 => ⟨_, rfl, rfl, _, rfl, ite2 (fun e => ?_) (fun _ => ?_)⟩⟩
      · have e : (!decide (V.str (tx n (exch ((n : Int) - 1) z)) = V.str (tx n x))) = true := e
        rw [zx, decide_eq_true rfl] at e
        cases e
      refine ⟨_, rfl, n, z, rfl, hz, hpos, hn2, fun H6 s6 => ⟨_, rfl, n, x, rfl, hP, hpos, hn2, fun H7 s7 => ⟨n, stp x, rfl, hP.stp, hpos, hn2, fun H8 s8 => ⟨rfl, _, rfl, ite2 (fun e => ?_) (fun _ => ?_)⟩⟩⟩⟩
      · have e : (!decide (V.str (tx n (stp z)) = V.str (tx n (exch ((n : Int) - 1) (stp x))))) = true := e
        have ez : stp z = exch ((n : Int) - 1) (stp x) := stp_exch _ _
        rw [ez, decide_eq_true rfl] at e
        cases e
      refine ⟨_, rfl, n, z, rfl, hz, hpos, hn2, fun k1 H9 s9 _ m1 l1 => ⟨_, rfl, n, x, rfl, hP, hpos, hn2, fun k2 H10 s10 _ m2 l2 => ⟨rfl, _, rfl, ite2 (fun e => ?_) (fun _ => ?_)⟩⟩⟩
      · have e : (!decide (V.int (k1 : Int) = V.int (k2 : Int))) = true := e
        rw [least_one zf zm m1 l1 m2 l2, decide_eq_true rfl] at e
        cases e
      have sA := s3.trans (s5.trans (s6.trans (s7.trans (s8.trans (s9.trans s10)))))
      -- mixed, steps
      refine ⟨_, rfl, a, ns, rfl, sA.seq hS2, ?_⟩
      obtain ⟨t, _, et⟩ := fmod_rng ns.sum (q := 2 * n) (by omega)
      have et : ns.sum.fmod (2 * (n : Int)) = (t : Int) := by rw [← et]; exact congrArg ns.sum.fmod (by omega)
      dsimp only
      refine seq_cut (fun σ' H' => σ' = [some (.ref a), some (.str (tx n x)), some (.int (n : Int)), some (.str (tx n z)), y4, some (.int ns.sum), some (.int (t : Int)), none, none, none] ∧ H10 = H')
        (fun D' k => ⟨_, rfl, _, rfl, _, _, rfl, rfl, .inl ⟨by decide, by decide⟩, _, _, rfl, rfl, (show (2 * (n : Int)) ≠ 0 by omega), k _ _ ⟨by rw [← et]; rfl, rfl⟩⟩) (fun σ' H' e => ?_)
      obtain ⟨rfl, rfl⟩ := e
      refine ⟨_, rfl, _, rfl, n, z, t, rfl, hz, hpos, hn2, fun H11 s11 => ⟨_, rfl, _, rfl, n, x, t, rfl, hP, hpos, hn2, fun H12 s12 => ⟨n, its x t, rfl, hP.its t, hpos, hn2, fun H13 s13 => ⟨rfl, _, rfl, ite2 (fun e => ?_) (fun _ => ?_)⟩⟩⟩⟩
      · have e : (!decide (V.str (tx n (its z t)) = V.str (tx n (exch ((n : Int) - 1) (its x t))))) = true := e
        rw [zt, decide_eq_true rfl] at e
        cases e
      refine ⟨_, rfl, _, rfl, n, z, t, rfl, hz, hpos, hn2, fun H14 s14 => ⟨_, rfl, _, rfl, n, x, t, rfl, hP, hpos, hn2, fun H15 s15 => ⟨rfl, _, rfl, ite2 (fun e => ?_) (fun _ => ?_)⟩⟩⟩
      · have e : (!decide (V.int ((flw n (its z t) : Nat) : Int) = V.int ((flw n (its x t) : Nat) : Int))) = true := e
        rw [zf, decide_eq_true rfl] at e
        cases e
      -- first
      obtain ⟨g, hg, eg⟩ := fmod_rng (ns.sum.fdiv 3) hpos
      dsimp only [tNext]
      refine seq_cut (fun σ' H' => σ' = [some (.ref a), some (.str (tx n x)), some (.int (n : Int)), some (.str (tx n z)), y4, some (.int ns.sum), some (.int (t : Int)), some (.int (g : Int)), none, none] ∧ H15 = H')
        (fun D' k => ⟨_, rfl, _, _, rfl, rfl, ⟨by decide, by decide⟩, _, rfl, _, _, rfl, rfl, (show (n : Int) ≠ 0 by omega), k _ _ ⟨by rw [← eg]; rfl, rfl⟩⟩) (fun σ' H' e => ?_)
      obtain ⟨rfl, rfl⟩ := e
      -- elsewhere
      have fits : ∀ y : Int → Bool, (cutS (tx n y) (some (g : Int)) none).length + (cutS (tx n y) none (some (g : Int))).length ≤ sizeLine := fun y => by
        have h1 := Nat.le_trans (cutS_length (tx n y) (some (g : Int)) none) (Nat.le_of_eq tx_len)
        have h2 := Nat.le_trans (cutS_length (tx n y) none (some (g : Int))) (Nat.le_of_eq tx_len)
        exact le_line (by omega)
      let y : Int → Bool := shf (g : Int) x
      have hy : Per n y := hP.shf _
      have yt : ∀ t, its y t = shf (g : Int) (its x t) := its_shf _ _
      have yf : ∀ t, flw n (its y t) = flw n (its x t) := fun t => by rw [yt, flw_shf (hP.its t)]
      have ym : most n y = most n x := most_shf hP _
      refine seq_cut (fun σ' H' => σ' = [some (.ref a), some (.str (tx n x)), some (.int (n : Int)), some (.str (tx n z)), y4, some (.int ns.sum), some (.int (t : Int)), some (.int (g : Int)), some (.str (tx n y)), none] ∧ H15 = H')
        (fun D' k => ⟨_, rfl, _, rfl, _, rfl, _, rfl, tx_fits hn2, _, rfl, _, rfl, _, rfl, _, rfl, tx_fits hn2, _, _, rfl, rfl, fits x, k _ _ ⟨by rw [tx_turn hP (by omega) (by omega)]; rfl, rfl⟩⟩) (fun σ' H' e => ?_)
      obtain ⟨rfl, rfl⟩ := e
      -- now
      refine ⟨_, rfl, _, rfl, n, x, t, rfl, hP, hpos, hn2, fun H16 s16 => ?_⟩
      refine ⟨_, rfl, _, rfl, n, y, t, rfl, hy, hpos, hn2, fun H17 s17 => ?_⟩
      refine ⟨_, rfl, _, rfl, _, rfl, _, rfl, tx_fits hn2, _, rfl, _, rfl, _, rfl, _, rfl, tx_fits hn2, _, _, rfl, rfl, fits (its x t), rfl, _, rfl, ite2 (fun _ => ?_) (fun e => ?_)⟩
      · refine ⟨_, rfl, n, y, rfl, hy, hpos, hn2, fun k1 H18 s18 _ m1 l1 => ⟨_, rfl, n, x, rfl, hP, hpos, hn2, fun k2 H19 s19 _ m2 l2 => ⟨rfl, ?_⟩⟩⟩
        show Q (.bl (decide (V.int (k1 : Int) = V.int (k2 : Int)))) _
        rw [least_one yf ym m1 l1 m2 l2, decide_eq_true rfl]
        exact q _
      · have e : ¬ decide (V.str (tx n (its y t)) = V.str (cutS (tx n (its x t)) (some (g : Int)) none ++ cutS (tx n (its x t)) none (some (g : Int)))) = true := e
        rw [tx_turn (hP.its t) (by omega) (by omega), yt, decide_eq_true rfl] at e
        exact absurd rfl e
end
end JR

/-! ### what the top has written; the head -/
namespace JR
open PySem PySem.Spec PyProof.Rows L2
theorem all_mk {l : PySem.W.OpenLaw} {w : World} {K : PySem.W.Frag} {h : Heap} {mg : Str → Option Value} {fa : Addr} (X : K.In h) (G : h.Ns mainGlobals mg) (hfa : mg "law" = some (.ref fa))
    {f0 : Addr} {od0 an0 : Option Addr} {sl0 : Array (Option Value)} {oc0 kV0 dc0 pm0 cd0 ct0 : Value}
    (a0 : PySem.W.nsIn K mainGlobals "_law_ring" = some (some (.ref f0)))
    (l0 : K.lookup f0 = some ⟨oc0, od0, .func (PySem.W.fnOf "_law_ring" "_law_ring" (defArgs s__law_ring) (defBody s__law_ring) (defScope s__law_ring) .none kV0 dc0 pm0 an0 cd0 ct0), sl0⟩)
    (c0 : PySem.W.codeIn K cd0 "_law_ring" = true)
    (k0 : PySem.W.keepIn K (.ref f0) = true)
    {f1 : Addr} {od1 an1 : Option Addr} {sl1 : Array (Option Value)} {oc1 kV1 dc1 pm1 cd1 ct1 : Value}
    (a1 : PySem.W.nsIn K mainGlobals "_law_around" = some (some (.ref f1)))
    (l1 : K.lookup f1 = some ⟨oc1, od1, .func (PySem.W.fnOf "_law_around" "_law_around" (defArgs s__law_around) (defBody s__law_around) (defScope s__law_around) .none kV1 dc1 pm1 an1 cd1 ct1), sl1⟩)
    (c1 : PySem.W.codeIn K cd1 "_law_around" = true)
    (k1 : PySem.W.keepIn K (.ref f1) = true)
    {f2 : Addr} {od2 an2 : Option Addr} {sl2 : Array (Option Value)} {oc2 kV2 dc2 pm2 cd2 ct2 : Value}
    (a2 : PySem.W.nsIn K mainGlobals "asked_ring" = some (some (.ref f2)))
    (l2 : K.lookup f2 = some ⟨oc2, od2, .func (PySem.W.fnOf "asked_ring" "asked_ring" (defArgs s_asked_ring) (defBody s_asked_ring) (defScope s_asked_ring) .none kV2 dc2 pm2 an2 cd2 ct2), sl2⟩)
    (c2 : PySem.W.codeIn K cd2 "asked_ring" = true)
    (k2 : PySem.W.keepIn K (.ref f2) = true)
    {f3 : Addr} {od3 an3 : Option Addr} {sl3 : Array (Option Value)} {oc3 kV3 dc3 pm3 cd3 ct3 : Value}
    (a3 : PySem.W.nsIn K mainGlobals "is_number" = some (some (.ref f3)))
    (l3 : K.lookup f3 = some ⟨oc3, od3, .func (PySem.W.fnOf "is_number" "is_number" (defArgs s_is_number) (defBody s_is_number) (defScope s_is_number) .none kV3 dc3 pm3 an3 cd3 ct3), sl3⟩)
    (c3 : PySem.W.codeIn K cd3 "is_number" = true)
    (k3 : PySem.W.keepIn K (.ref f3) = true)
    {f4 : Addr} {od4 an4 : Option Addr} {sl4 : Array (Option Value)} {oc4 kV4 dc4 pm4 cd4 ct4 : Value}
    (a4 : PySem.W.nsIn K mainGlobals "asked_steps" = some (some (.ref f4)))
    (l4 : K.lookup f4 = some ⟨oc4, od4, .func (PySem.W.fnOf "asked_steps" "asked_steps" (defArgs s_asked_steps) (defBody s_asked_steps) (defScope s_asked_steps) .none kV4 dc4 pm4 an4 cd4 ct4), sl4⟩)
    (c4 : PySem.W.codeIn K cd4 "asked_steps" = true)
    (k4 : PySem.W.keepIn K (.ref f4) = true)
    {f5 : Addr} {od5 an5 : Option Addr} {sl5 : Array (Option Value)} {oc5 kV5 dc5 pm5 cd5 ct5 : Value}
    (a5 : PySem.W.nsIn K mainGlobals "moved" = some (some (.ref f5)))
    (l5 : K.lookup f5 = some ⟨oc5, od5, .func (PySem.W.fnOf "moved" "moved" (defArgs s_moved) (defBody s_moved) (defScope s_moved) .none kV5 dc5 pm5 an5 cd5 ct5), sl5⟩)
    (c5 : PySem.W.codeIn K cd5 "moved" = true)
    (k5 : PySem.W.keepIn K (.ref f5) = true)
    {f6 : Addr} {od6 an6 : Option Addr} {sl6 : Array (Option Value)} {oc6 kV6 dc6 pm6 cd6 ct6 : Value}
    (a6 : PySem.W.nsIn K mainGlobals "turned" = some (some (.ref f6)))
    (l6 : K.lookup f6 = some ⟨oc6, od6, .func (PySem.W.fnOf "turned" "turned" (defArgs s_turned) (defBody s_turned) (defScope s_turned) .none kV6 dc6 pm6 an6 cd6 ct6), sl6⟩)
    (c6 : PySem.W.codeIn K cd6 "turned" = true)
    (k6 : PySem.W.keepIn K (.ref f6) = true)
    {f7 : Addr} {od7 an7 : Option Addr} {sl7 : Array (Option Value)} {oc7 kV7 dc7 pm7 cd7 ct7 : Value}
    (a7 : PySem.W.nsIn K mainGlobals "around_after" = some (some (.ref f7)))
    (l7 : K.lookup f7 = some ⟨oc7, od7, .func (PySem.W.fnOf "around_after" "around_after" (defArgs s_around_after) (defBody s_around_after) (defScope s_around_after) .none kV7 dc7 pm7 an7 cd7 ct7), sl7⟩)
    (c7 : PySem.W.codeIn K cd7 "around_after" = true)
    (k7 : PySem.W.keepIn K (.ref f7) = true)
    {f8 : Addr} {od8 an8 : Option Addr} {sl8 : Array (Option Value)} {oc8 kV8 dc8 pm8 cd8 ct8 : Value}
    (a8 : PySem.W.nsIn K mainGlobals "around" = some (some (.ref f8)))
    (l8 : K.lookup f8 = some ⟨oc8, od8, .func (PySem.W.fnOf "around" "around" (defArgs s_around) (defBody s_around) (defScope s_around) .none kV8 dc8 pm8 an8 cd8 ct8), sl8⟩)
    (c8 : PySem.W.codeIn K cd8 "around" = true)
    (k8 : PySem.W.keepIn K (.ref f8) = true)
    {f9 : Addr} {od9 an9 : Option Addr} {sl9 : Array (Option Value)} {oc9 kV9 dc9 pm9 cd9 ct9 : Value}
    (a9 : PySem.W.nsIn K mainGlobals "flow_of" = some (some (.ref f9)))
    (l9 : K.lookup f9 = some ⟨oc9, od9, .func (PySem.W.fnOf "flow_of" "flow_of" (defArgs s_flow_of) (defBody s_flow_of) (defScope s_flow_of) .none kV9 dc9 pm9 an9 cd9 ct9), sl9⟩)
    (c9 : PySem.W.codeIn K cd9 "flow_of" = true)
    (k9 : PySem.W.keepIn K (.ref f9) = true)
    {f10 : Addr} {od10 an10 : Option Addr} {sl10 : Array (Option Value)} {oc10 kV10 dc10 pm10 cd10 ct10 : Value}
    (a10 : PySem.W.nsIn K mainGlobals "flow" = some (some (.ref f10)))
    (l10 : K.lookup f10 = some ⟨oc10, od10, .func (PySem.W.fnOf "flow" "flow" (defArgs s_flow) (defBody s_flow) (defScope s_flow) .none kV10 dc10 pm10 an10 cd10 ct10), sl10⟩)
    (c10 : PySem.W.codeIn K cd10 "flow" = true)
    (k10 : PySem.W.keepIn K (.ref f10) = true)
    {f11 : Addr} {od11 an11 : Option Addr} {sl11 : Array (Option Value)} {oc11 kV11 dc11 pm11 cd11 ct11 : Value}
    (a11 : PySem.W.nsIn K mainGlobals "settled" = some (some (.ref f11)))
    (l11 : K.lookup f11 = some ⟨oc11, od11, .func (PySem.W.fnOf "settled" "settled" (defArgs s_settled) (defBody s_settled) (defScope s_settled) .none kV11 dc11 pm11 an11 cd11 ct11), sl11⟩)
    (c11 : PySem.W.codeIn K cd11 "settled" = true)
    (k11 : PySem.W.keepIn K (.ref f11) = true)
    {f12 : Addr} {od12 an12 : Option Addr} {sl12 : Array (Option Value)} {oc12 kV12 dc12 pm12 cd12 ct12 : Value}
    (a12 : PySem.W.nsIn K mainGlobals "exchanged" = some (some (.ref f12)))
    (l12 : K.lookup f12 = some ⟨oc12, od12, .func (PySem.W.fnOf "exchanged" "exchanged" (defArgs s_exchanged) (defBody s_exchanged) (defScope s_exchanged) .none kV12 dc12 pm12 an12 cd12 ct12), sl12⟩)
    (c12 : PySem.W.codeIn K cd12 "exchanged" = true)
    (k12 : PySem.W.keepIn K (.ref f12) = true)
    {f13 : Addr} {od13 an13 : Option Addr} {sl13 : Array (Option Value)} {oc13 kV13 dc13 pm13 cd13 ct13 : Value}
    (a13 : PySem.W.nsIn K mainGlobals "law" = some (some (.ref f13)))
    (l13 : K.lookup f13 = some ⟨oc13, od13, .func (PySem.W.fnOf "law" "law" (defArgs s_law) (defBody s_law) (defScope s_law) .none kV13 dc13 pm13 an13 cd13 ct13), sl13⟩)
    (c13 : PySem.W.codeIn K cd13 "law" = true)
    (k13 : PySem.W.keepIn K (.ref f13) = true)
    (z_len : PySem.W.nsIn K mainGlobals "len" = some none)
    (z_isinstance : PySem.W.nsIn K mainGlobals "isinstance" = some none)
    (z_int : PySem.W.nsIn K mainGlobals "int" = some none)
    (z_bool : PySem.W.nsIn K mainGlobals "bool" = some none)
    (z_list : PySem.W.nsIn K mainGlobals "list" = some none)
    (z_str : PySem.W.nsIn K mainGlobals "str" = some none)
    (z_all : PySem.W.nsIn K mainGlobals "all" = some none)
    (z_any : PySem.W.nsIn K mainGlobals "any" = some none)
    (z_sum : PySem.W.nsIn K mainGlobals "sum" = some none)
    (z_min : PySem.W.nsIn K mainGlobals "min" = some none)
    (z_max : PySem.W.nsIn K mainGlobals "max" = some none)
    (z_range : PySem.W.nsIn K mainGlobals "range" = some none)
    (z_enumerate : PySem.W.nsIn K mainGlobals "enumerate" = some none)
    (z_reversed : PySem.W.nsIn K mainGlobals "reversed" = some none)
    (z_sorted : PySem.W.nsIn K mainGlobals "sorted" = some none)
    : ∃ fd : FuncData, (∀ (s : Shared) (v : Value), BindsTo s fd ⟨[v], []⟩ [("_law_script", v)]) ∧ ∀ base : Heap, K.In base → base.Ns mainGlobals mg → FnOk l.prog w K mg base CX0 5 fa fd ["_law_script"] (spLaw K) := by
  have e := hfa.symm.trans (PySem.W.mg_of X G a13)
  cases e
  have B : Blt mg := ⟨PySem.W.mg_none_of X G z_len, PySem.W.mg_none_of X G z_isinstance, PySem.W.mg_none_of X G z_int, PySem.W.mg_none_of X G z_bool, PySem.W.mg_none_of X G z_list, PySem.W.mg_none_of X G z_str, PySem.W.mg_none_of X G z_all, PySem.W.mg_none_of X G z_any, PySem.W.mg_none_of X G z_sum, PySem.W.mg_none_of X G z_min, PySem.W.mg_none_of X G z_max, PySem.W.mg_none_of X G z_range, PySem.W.mg_none_of X G z_enumerate, PySem.W.mg_none_of X G z_reversed, PySem.W.mg_none_of X G z_sorted⟩
  refine ⟨PySem.W.fnOf "law" "law" (defArgs s_law) (defBody s_law) (defScope s_law) .none kV13 dc13 pm13 an13 cd13 ct13, fun s v => .of_eq rfl, fun base _ _ => ?_⟩
  have c__law_ring := cal__law_ring (P := l.prog) (w := w) (base := base) (fun_mk (st := s__law_ring) l0 c0 k0) (PySem.W.mg_of X G a0) B
  have c__law_around := cal__law_around (P := l.prog) (w := w) (base := base) (fun_mk (st := s__law_around) l1 c1 k1) (PySem.W.mg_of X G a1) B
  have c_asked_ring := cal_asked_ring (P := l.prog) (w := w) (base := base) (fun_mk (st := s_asked_ring) l2 c2 k2) (PySem.W.mg_of X G a2) B
  have c_is_number := cal_is_number (P := l.prog) (w := w) (base := base) (fun_mk (st := s_is_number) l3 c3 k3) (PySem.W.mg_of X G a3) B
  have c_asked_steps := cal_asked_steps (P := l.prog) (w := w) (base := base) (fun_mk (st := s_asked_steps) l4 c4 k4) (PySem.W.mg_of X G a4) B c_is_number
  have c_moved := cal_moved (P := l.prog) (w := w) (base := base) (fun_mk (st := s_moved) l5 c5 k5) (PySem.W.mg_of X G a5) B
  have c_turned := cal_turned (P := l.prog) (w := w) (base := base) (fun_mk (st := s_turned) l6 c6 k6) (PySem.W.mg_of X G a6) B
  have c_around_after := cal_around_after (P := l.prog) (w := w) (base := base) (fun_mk (st := s_around_after) l7 c7 k7) (PySem.W.mg_of X G a7) B c_asked_ring c_asked_steps c_moved c_turned
  have c_around := cal_around (P := l.prog) (w := w) (base := base) (fun_mk (st := s_around) l8 c8 k8) (PySem.W.mg_of X G a8) B c_asked_ring c_moved
  have c_flow_of := cal_flow_of (P := l.prog) (w := w) (base := base) (fun_mk (st := s_flow_of) l9 c9 k9) (PySem.W.mg_of X G a9) B
  have c_flow := cal_flow (P := l.prog) (w := w) (base := base) (fun_mk (st := s_flow) l10 c10 k10) (PySem.W.mg_of X G a10) B c_around_after c_flow_of
  have c_settled := cal_settled (P := l.prog) (w := w) (base := base) (fun_mk (st := s_settled) l11 c11 k11) (PySem.W.mg_of X G a11) B c_asked_ring c_flow_of c_moved
  have c_exchanged := cal_exchanged (P := l.prog) (w := w) (base := base) (fun_mk (st := s_exchanged) l12 c12 k12) (PySem.W.mg_of X G a12) B c_asked_ring
  exact ok_law (fun_mk (st := s_law) l13 c13 k13) B c__law_ring c__law_around c_around_after c_around c_flow c_settled c_exchanged
end JR
open PySem PySem.W PyProof.Rows
set_option maxHeartbeats 0 in
theorem PySem.Challenge.cw_jamroad_k07_whole_exchanged_holds : PySem.Challenge.rw_jamroad_k07_whole_exchanged.Holds := by
  w_on; o_law; k_head; (case hw => w_witness2)
  k_fill
  refine L2.walk_of (l := PySem.Challenge.rw_jamroad_k07_whole_exchanged) (n := 63) (k := 5) (x := "_law_script") (CX := fun _ => L2.CX0) (sp := fun w => JR.spLaw _) rfl (by decide) rfl ⟨rfl, by decide, by decide⟩ (fun w h Y => PySem.W.kIn_of Y) ?F (fun _ _ a ns hl _ hS => ⟨a, ns, rfl, hS, hl, fun _ => rfl⟩) (fun _ _ _ _ _ h => h)
  case F =>
    intro w mg fa h KX G hmg
    refine' JR.all_mk KX G hmg ?a0 ?l0 ?c0 ?k0 ?a1 ?l1 ?c1 ?k1 ?a2 ?l2 ?c2 ?k2 ?a3 ?l3 ?c3 ?k3 ?a4 ?l4 ?c4 ?k4 ?a5 ?l5 ?c5 ?k5 ?a6 ?l6 ?c6 ?k6 ?a7 ?l7 ?c7 ?k7 ?a8 ?l8 ?c8 ?k8 ?a9 ?l9 ?c9 ?k9 ?a10 ?l10 ?c10 ?k10 ?a11 ?l11 ?c11 ?k11 ?a12 ?l12 ?c12 ?k12 ?a13 ?l13 ?c13 ?k13 ?z_len ?z_isinstance ?z_int ?z_bool ?z_list ?z_str ?z_all ?z_any ?z_sum ?z_min ?z_max ?z_range ?z_enumerate ?z_reversed ?z_sorted
    (case a0 => k_is); (case l0 => k_is); (case c0 => k_is); (case k0 => k_is); (case a1 => k_is); (case l1 => k_is); (case c1 => k_is); (case k1 => k_is); (case a2 => k_is); (case l2 => k_is); (case c2 => k_is); (case k2 => k_is); (case a3 => k_is); (case l3 => k_is); (case c3 => k_is); (case k3 => k_is); (case a4 => k_is); (case l4 => k_is); (case c4 => k_is); (case k4 => k_is); (case a5 => k_is); (case l5 => k_is); (case c5 => k_is); (case k5 => k_is); (case a6 => k_is); (case l6 => k_is); (case c6 => k_is); (case k6 => k_is); (case a7 => k_is); (case l7 => k_is); (case c7 => k_is); (case k7 => k_is); (case a8 => k_is); (case l8 => k_is); (case c8 => k_is); (case k8 => k_is); (case a9 => k_is); (case l9 => k_is); (case c9 => k_is); (case k9 => k_is); (case a10 => k_is); (case l10 => k_is); (case c10 => k_is); (case k10 => k_is); (case a11 => k_is); (case l11 => k_is); (case c11 => k_is); (case k11 => k_is); (case a12 => k_is); (case l12 => k_is); (case c12 => k_is); (case k12 => k_is); (case a13 => k_is); (case l13 => k_is); (case c13 => k_is); (case k13 => k_is); (case z_len => k_is); (case z_isinstance => k_is); (case z_int => k_is); (case z_bool => k_is); (case z_list => k_is); (case z_str => k_is); (case z_all => k_is); (case z_any => k_is); (case z_sum => k_is); (case z_min => k_is); (case z_max => k_is); (case z_range => k_is); (case z_enumerate => k_is); (case z_reversed => k_is); (case z_sorted => k_is)
