import PyProof.Rows.All
import Wide.All
import OpenK.AllK
import Wide.FinOn
import HandS.ForMost
import HandS.IsInst
import HandS.RevRange
import HandS.Style
import HandS.Walk
import HandS.StrMore
import PySem.Challenge.RW_jamroad_k08_answers_by_hand
set_option Elab.async false
set_option linter.all false
set_option maxRecDepth 100000
set_option maxHeartbeats 4000000

/-! MathRoad: cars on a road, in plain Lean. -/
namespace JR

/-- a step of car i of n -/
def stepF (n : Nat) (c : Nat → Int) (i : Nat) : Int := if i + 1 < n ∧ c (i + 1) = c i + 1 then c i else c i + 1
/-- the cars after t steps -/
def stt (n : Nat) (c : Nat → Int) : Nat → Nat → Int
  | 0 => c
  | t + 1 => stepF n (stt n c t)
def Rising (n : Nat) (c : Nat → Int) : Prop := ∀ i, i + 1 < n → c i + 1 ≤ c (i + 1)
def lean (c : Nat → Int) (i : Nat) : Int := c i - 2 * (i : Int)

theorem stepF_ge (n : Nat) (c : Nat → Int) (i : Nat) : c i ≤ stepF n c i := by
  unfold stepF; split <;> omega
theorem stepF_le (n : Nat) (c : Nat → Int) (i : Nat) : stepF n c i ≤ c i + 1 := by
  unfold stepF; split <;> omega
theorem stepF_cases (n : Nat) (c : Nat → Int) (i : Nat) : stepF n c i = c i ∨ stepF n c i = c i + 1 := by
  unfold stepF; split <;> omega
theorem Rising.step {n : Nat} {c : Nat → Int} (h : Rising n c) : Rising n (stepF n c) := by
  intro i hi
  have h1 := h i hi
  have h2 := stepF_ge n c (i + 1)
  have h3 : stepF n c i ≤ c (i + 1) - 1 := by
    unfold stepF; split <;> omega
  omega
theorem Rising.stt {n : Nat} {c : Nat → Int} (h : Rising n c) : ∀ t, Rising n (stt n c t)
  | 0 => h
  | t + 1 => (h.stt t).step
theorem Rising.lt {n : Nat} {c : Nat → Int} (h : Rising n c) : ∀ {j i : Nat}, i < j → j < n → c i < c j
  | 0, i, hij, _ => absurd hij (Nat.not_lt_zero i)
  | j + 1, i, hij, hj => by
    have h1 := h j hj
    by_cases e : i = j
    · subst e; omega
    · have h2 := h.lt (j := j) (i := i) (by omega) (by omega)
      omega
theorem Rising.inj {n : Nat} {c : Nat → Int} (h : Rising n c) {i j : Nat} (hi : i < n) (hj : j < n) (e : c i = c j) : i = j := by
  by_cases h1 : i < j
  · have := h.lt h1 hj; omega
  · by_cases h2 : j < i
    · have := h.lt h2 hi; omega
    · omega
/-- the place ahead is taken just if the next car stands there -/
theorem Rising.next {n : Nat} {c : Nat → Int} (h : Rising n c) {i : Nat} (hi : i < n) : (∃ j, j < n ∧ c j = c i + 1) ↔ (i + 1 < n ∧ c (i + 1) = c i + 1) := by
  constructor
  · rintro ⟨j, hj, e⟩
    have hij : i < j := by
      by_cases h1 : i < j
      · exact h1
      · by_cases h2 : i = j
        · subst h2; omega
        · have := h.lt (i := j) (j := i) (by omega) hi; omega
    have h1 : i + 1 < n := by omega
    refine ⟨h1, ?_⟩
    have h2 := h i h1
    by_cases e2 : i + 1 = j
    · subst e2; exact e
    · have := h.lt (i := i + 1) (j := j) (by omega) hj
      omega
  · rintro ⟨h1, e⟩
    exact ⟨i + 1, h1, e⟩

/-- m is the least of L over the places i .. i + t below n -/
def IsMin (n : Nat) (L : Nat → Int) (i t : Nat) (m : Int) : Prop :=
  (∃ j, i ≤ j ∧ j ≤ i + t ∧ j < n ∧ L j = m) ∧ ∀ j, i ≤ j → j ≤ i + t → j < n → m ≤ L j
theorem IsMin.eq {n : Nat} {L : Nat → Int} {i t : Nat} {m m' : Int} (a : IsMin n L i t m) (b : IsMin n L i t m') : m = m' := by
  obtain ⟨⟨j, h1, h2, h3, e⟩, f⟩ := a
  obtain ⟨⟨k, g1, g2, g3, e'⟩, f'⟩ := b
  have q1 := f k g1 g2 g3
  have q2 := f' j h1 h2 h3
  omega
theorem isMin_stt {n : Nat} {c : Nat → Int} (h : Rising n c) : ∀ t i, i < n → IsMin n (lean c) i t (stt n c t i - t - 2 * (i : Int))
  | 0, i, hi => by
    refine ⟨⟨i, Nat.le_refl _, Nat.le_refl _, hi, ?_⟩, fun j h1 h2 h3 => ?_⟩
    · show c i - 2 * (i : Int) = c i - ((0 : Nat) : Int) - 2 * (i : Int)
      omega
    · have e : j = i := by omega
      subst e
      show c j - ((0 : Nat) : Int) - 2 * (j : Int) ≤ c j - 2 * (j : Int)
      omega
  | t + 1, i, hi => by
    obtain ⟨⟨j, h1, h2, h3, e⟩, f⟩ := isMin_stt h t i hi
    have r := h.stt t
    show IsMin n (lean c) i (t + 1) (stepF n (JR.stt n c t) i - ((t + 1 : Nat) : Int) - 2 * (i : Int))
    by_cases hn : i + 1 < n
    · obtain ⟨⟨k, g1, g2, g3, e'⟩, f'⟩ := isMin_stt h t (i + 1) hn
      have r1 := r i hn
      have q : stepF n (JR.stt n c t) i = (if JR.stt n c t (i + 1) = JR.stt n c t i + 1 then JR.stt n c t i else JR.stt n c t i + 1) := by
        unfold stepF
        by_cases z : JR.stt n c t (i + 1) = JR.stt n c t i + 1
        · rw [if_pos ⟨hn, z⟩, if_pos z]
        · rw [if_neg (fun y => z y.2), if_neg z]
      rw [q]
      by_cases z : JR.stt n c t (i + 1) = JR.stt n c t i + 1
      · rw [if_pos z]
        refine ⟨⟨k, by omega, by omega, g3, by omega⟩, fun m m1 m2 m3 => ?_⟩
        by_cases e2 : m ≤ i + t
        · have := f m m1 e2 m3; omega
        · have := f' m (by omega) (by omega) m3; omega
      · rw [if_neg z]
        refine ⟨⟨j, by omega, by omega, h3, by omega⟩, fun m m1 m2 m3 => ?_⟩
        by_cases e2 : m ≤ i + t
        · have := f m m1 e2 m3; omega
        · have := f' m (by omega) (by omega) m3; omega
    · have q : stepF n (JR.stt n c t) i = JR.stt n c t i + 1 := by
        unfold stepF
        rw [if_neg (fun y => hn y.1)]
      rw [q]
      refine ⟨⟨j, by omega, by omega, h3, by omega⟩, fun m m1 m2 m3 => ?_⟩
      have := f m m1 (by omega) m3
      omega

/-- behind as many steps as cars each moves at each step -/
theorem stt_free {n : Nat} {c : Nat → Int} (h : Rising n c) {t i : Nat} (hi : i < n) (ht : n ≤ i + t + 1) : stt n c (t + 1) i = stt n c t i + 1 := by
  have a := isMin_stt h t i hi
  have b := isMin_stt h (t + 1) i hi
  have b' : IsMin n (lean c) i t (stt n c (t + 1) i - ((t + 1 : Nat) : Int) - 2 * (i : Int)) := by
    obtain ⟨⟨j, h1, h2, h3, e⟩, f⟩ := b
    exact ⟨⟨j, h1, by omega, h3, e⟩, fun m m1 m2 m3 => f m m1 (by omega) m3⟩
  have := a.eq b'
  omega
theorem stt_far {n : Nat} {c : Nat → Int} (h : Rising n c) {i : Nat} (hi : i < n) : ∀ k, stt n c (n + k) i = stt n c n i + k
  | 0 => by show stt n c n i = _; omega
  | k + 1 => by
    have e := stt_far h hi k
    have f := stt_free h (t := n + k) hi (by omega)
    rw [show n + (k + 1) = n + k + 1 by omega, f, e]
    omega
theorem stt_add (n : Nat) (c : Nat → Int) (a : Nat) : ∀ b, stt n (stt n c a) b = stt n c (a + b)
  | 0 => rfl
  | b + 1 => by
    show stepF n (stt n (stt n c a) b) = stepF n (stt n c (a + b))
    rw [stt_add n c a b]
theorem stt_succ (n : Nat) (c : Nat → Int) (t : Nat) : stt n c (t + 1) = stepF n (stt n c t) := rfl
theorem stepF_congr {n : Nat} {c d : Nat → Int} (h : ∀ i, i < n → c i = d i) {i : Nat} (hi : i < n) : stepF n c i = stepF n d i := by
  unfold stepF
  by_cases q : i + 1 < n
  · rw [h i hi, h (i + 1) q]
  · rw [if_neg (fun y => q y.1), if_neg (fun y => q y.1), h i hi]
theorem stt_congr {n : Nat} {c d : Nat → Int} (h : ∀ i, i < n → c i = d i) : ∀ t i, i < n → stt n c t i = stt n d t i
  | 0, i, hi => h i hi
  | t + 1, i, hi => stepF_congr (stt_congr h t) hi
theorem stt_ge {n : Nat} {c : Nat → Int} : ∀ t i, c i ≤ stt n c t i
  | 0, i => Int.le_refl _
  | t + 1, i => Int.le_trans (stt_ge t i) (stepF_ge n _ i)
theorem stt_le {n : Nat} {c : Nat → Int} : ∀ t i, stt n c t i ≤ c i + t
  | 0, i => by show c i ≤ _; omega
  | t + 1, i => by
    have h1 := stt_le (n := n) (c := c) t i
    have h2 := stepF_le n (stt n c t) i
    show stepF n (stt n c t) i ≤ _
    omega

/-- b holds car i up after t steps, the nearest of those that do most -/
def Hld (n : Nat) (L : Nat → Int) (t i b : Nat) : Prop :=
  i ≤ b ∧ b ≤ i + t ∧ b < n ∧ (∀ j, i ≤ j → j ≤ i + t → j < n → L b ≤ L j) ∧ ∀ j, i ≤ j → j < b → L b < L j
theorem Hld.isMin {n : Nat} {L : Nat → Int} {t i b : Nat} (h : Hld n L t i b) : IsMin n L i t (L b) :=
  ⟨⟨b, h.1, h.2.1, h.2.2.1, rfl⟩, h.2.2.2.1⟩
theorem Hld.place {n : Nat} {c : Nat → Int} {t i b : Nat} (r : Rising n c) (h : Hld n (lean c) t i b) : c b + t - 2 * ((b : Int) - i) = stt n c t i := by
  have hi : i < n := Nat.lt_of_le_of_lt h.1 h.2.2.1
  have e := (isMin_stt r t i hi).eq h.isMin
  have e2 : lean c b = c b - 2 * (b : Int) := rfl
  omega

/-- in how many steps car i stays -/
def dly (n : Nat) (c : Nat → Int) (i : Nat) : Int := c i + n - stt n c n i
theorem Hld.delay {n : Nat} {c : Nat → Int} {i b : Nat} (r : Rising n c) (h : Hld n (lean c) n i b) : lean c i - lean c b = dly n c i := by
  have e := h.place r
  have e2 : lean c b = c b - 2 * (b : Int) := rfl
  have e3 : lean c i = c i - 2 * (i : Int) := rfl
  unfold dly
  omega
/-- the stays counted one by one -/
def stays (n : Nat) (c : Nat → Int) (i : Nat) : Nat → Int
  | 0 => 0
  | t + 1 => if stt n c (t + 1) i = stt n c t i then stays n c i t + 1 else stays n c i t
theorem stays_eq (n : Nat) (c : Nat → Int) (i : Nat) : ∀ t, stays n c i t = c i + t - stt n c t i
  | 0 => by
    show (0 : Int) = c i + ((0 : Nat) : Int) - c i
    omega
  | t + 1 => by
    have ih := stays_eq n c i t
    show (if stt n c (t + 1) i = stt n c t i then stays n c i t + 1 else stays n c i t) = _
    rcases stepF_cases n (stt n c t) i with h | h
    · rw [if_pos (show stt n c (t + 1) i = stt n c t i from h), ih]
      have : stt n c (t + 1) i = stt n c t i := h
      omega
    · have q : stt n c (t + 1) i = stt n c t i + 1 := h
      rw [if_neg (by omega), ih]
      omega
theorem stays_dly (n : Nat) (c : Nat → Int) (i : Nat) : stays n c i n = dly n c i := stays_eq n c i n
/-- the last step at which it stays, and one more -/
def fre (n : Nat) (c : Nat → Int) (i : Nat) : Nat → Nat
  | 0 => 0
  | t + 1 => if stt n c (t + 1) i = stt n c t i then t + 1 else fre n c i t
theorem Hld.free {n : Nat} {c : Nat → Int} {i b : Nat} (r : Rising n c) (h : Hld n (lean c) n i b) : ∀ t, b - i ≤ t → fre n c i t = b - i := by
  obtain ⟨h1, h2, h3, h4, h5⟩ := h
  have hi : i < n := Nat.lt_of_le_of_lt h1 h3
  -- behind b - i the least is that of b
  have mb : ∀ t, b - i ≤ t → stt n c t i - t - 2 * (i : Int) = lean c b := by
    intro t ht
    refine (isMin_stt r t i hi).eq ⟨⟨b, h1, by omega, h3, rfl⟩, fun j j1 j2 j3 => h4 j j1 (by omega) j3⟩
  have go : ∀ k, fre n c i (b - i + k) = b - i := by
    intro k
    induction k with
    | zero =>
      show fre n c i (b - i) = b - i
      by_cases e : b = i
      · subst e
        rw [Nat.sub_self]
        rfl
      · obtain ⟨t, ht⟩ : ∃ t, b - i = t + 1 := ⟨b - i - 1, by omega⟩
        rw [ht]
        have m1 := mb (t + 1) (by omega)
        obtain ⟨⟨j, g1, g2, g3, g4⟩, _⟩ := isMin_stt r t i hi
        have m2 := h5 j g1 (by omega)
        show (if stt n c (t + 1) i = stt n c t i then t + 1 else fre n c i t) = t + 1
        rcases stepF_cases n (stt n c t) i with z | z
        · rw [if_pos (show stt n c (t + 1) i = stt n c t i from z)]
        · have z' : stt n c (t + 1) i = stt n c t i + 1 := z
          omega
    | succ k ih =>
      have m1 := mb (b - i + k) (by omega)
      have m2 := mb (b - i + k + 1) (by omega)
      show (if stt n c (b - i + k + 1) i = stt n c (b - i + k) i then b - i + k + 1 else fre n c i (b - i + k)) = b - i
      rw [if_neg (by omega), ih]
  intro t ht
  have := go (t - (b - i))
  rw [show b - i + (t - (b - i)) = t by omega] at this
  exact this
theorem Hld.freeN {n : Nat} {c : Nat → Int} {i b : Nat} (r : Rising n c) (h : Hld n (lean c) n i b) : ((b : Int) - (i : Int)) = ((fre n c i n : Nat) : Int) := by
  have e := h.free r n (by have := h.2.2.1; omega)
  rw [e]
  have := h.1
  omega
/-- a step on each delay is one less for those that stayed -/
theorem dly_step {n : Nat} {c : Nat → Int} (r : Rising n c) {i : Nat} (hi : i < n) : dly n (stepF n c) i = (if stepF n c i = c i then dly n c i - 1 else dly n c i) := by
  have e1 : stt n (stepF n c) n i = stt n c (1 + n) i := by
    rw [← stt_add n c 1 n]
    rfl
  have e2 := stt_far r hi 1
  rw [Nat.add_comm n 1] at e2
  unfold dly
  rw [e1, e2]
  rcases stepF_cases n c i with z | z
  · rw [if_pos z]; omega
  · rw [if_neg (by omega)]; omega
theorem fre_zero {n : Nat} {c : Nat → Int} (r : Rising n c) {i : Nat} (hi : i < n) : ∀ t, fre n (stt n c n) i t = 0
  | 0 => rfl
  | t + 1 => by
    show (if stt n (stt n c n) (t + 1) i = stt n (stt n c n) t i then t + 1 else fre n (stt n c n) i t) = 0
    rw [stt_add, stt_add]
    have e := stt_free r (t := n + t) hi (by omega)
    rw [show n + (t + 1) = n + t + 1 by omega, if_neg (by omega)]
    exact fre_zero r hi t

/-! ### a car and the next one -/
def gap (n : Nat) (c : Nat → Int) (i t : Nat) : Int := stt n c t (i + 1) - stt n c t i
theorem gap_pos {n : Nat} {c : Nat → Int} (r : Rising n c) {i : Nat} (hi : i + 1 < n) (t : Nat) : 1 ≤ gap n c i t := by
  have := r.stt t i hi
  unfold gap
  omega
theorem gap_far {n : Nat} {c : Nat → Int} (r : Rising n c) {i : Nat} (hi : i + 1 < n) (k : Nat) : gap n c i (n + k) = gap n c i n := by
  have h1 := stt_far r hi k
  have h2 := stt_far r (show i < n by omega) k
  unfold gap
  omega
theorem gap_last {n : Nat} {c : Nat → Int} (i : Nat) : gap n c i n = c (i + 1) - c i - dly n c (i + 1) + dly n c i := by
  unfold gap dly
  omega
/-- it stays at a step just if it stands right behind -/
theorem stay_gap {n : Nat} {c : Nat → Int} {i : Nat} (hi : i + 1 < n) (t : Nat) : stt n c (t + 1) i = stt n c t i ↔ gap n c i t = 1 := by
  show stepF n (stt n c t) i = stt n c t i ↔ stt n c t (i + 1) - stt n c t i = 1
  unfold stepF
  constructor
  · intro h
    split at h
    · rename_i q; omega
    · omega
  · intro h
    rw [if_pos ⟨hi, by omega⟩]
theorem dly_nonneg {n : Nat} {c : Nat → Int} (i : Nat) : 0 ≤ dly n c i := by
  have := stt_le (n := n) (c := c) n i
  unfold dly
  omega
theorem stt_lip {n : Nat} {c : Nat → Int} (i : Nat) : ∀ k t, stt n c (t + k) i ≤ stt n c t i + k
  | 0, t => by show stt n c t i ≤ _; omega
  | k + 1, t => by
    have h1 := stt_lip (n := n) (c := c) i k t
    have h2 := stepF_le n (stt n c (t + k)) i
    show stepF n (stt n c (t + k)) i ≤ _
    omega
/-- never held up -/
theorem dly_zero {n : Nat} {c : Nat → Int} {i : Nat} (h : dly n c i = 0) {t : Nat} (ht : t ≤ n) : stt n c t i = c i + t := by
  have h1 := stt_le (n := n) (c := c) t i
  have h2 := stt_lip (n := n) (c := c) i (n - t) t
  rw [show t + (n - t) = n by omega] at h2
  unfold dly at h
  omega
theorem dly_zero_gap {n : Nat} {c : Nat → Int} {i : Nat} (h : dly n c i = 0) (hi : i + 1 < n) {t : Nat} (ht : t ≤ n) : gap n c i n ≤ gap n c i t := by
  have h1 := dly_zero h ht
  have h2 := dly_zero h (Nat.le_refl n)
  have h3 := stt_lip (n := n) (c := c) (i + 1) (n - t) t
  rw [show t + (n - t) = n by omega] at h3
  unfold gap
  omega
/-- held up: it stood right behind the next one -/
theorem dly_touch {n : Nat} {c : Nat → Int} {i : Nat} (h : dly n c i ≠ 0) (hi : i + 1 < n) : ∃ t, t < n ∧ gap n c i t = 1 := by
  rw [← stays_dly] at h
  have go : ∀ t, stays n c i t ≠ 0 → ∃ k, k < t ∧ gap n c i k = 1 := by
    intro t
    induction t with
    | zero => intro z; exact absurd rfl z
    | succ t ih =>
      intro z
      by_cases q : stt n c (t + 1) i = stt n c t i
      · exact ⟨t, Nat.lt_succ_self t, (stay_gap hi t).mp q⟩
      · have e : stays n c i (t + 1) = stays n c i t := by
          show (if stt n c (t + 1) i = stt n c t i then stays n c i t + 1 else stays n c i t) = _
          rw [if_neg q]
        rw [e] at z
        obtain ⟨k, k1, k2⟩ := ih z
        exact ⟨k, by omega, k2⟩
  exact go n h
/-- touches tells a count: there is one -/
theorem touch_ex {n : Nat} {c : Nat → Int} {i : Nat} (r : Rising n c) (hi : i + 1 < n) (h : ¬ (dly n c i = 0 ∧ c (i + 1) - c i - dly n c (i + 1) > 1)) : ∃ t, t ≤ n ∧ gap n c i t = 1 := by
  by_cases z : dly n c i = 0
  · have e := gap_last (n := n) (c := c) i
    have p := gap_pos r hi n
    exact ⟨n, Nat.le_refl n, by omega⟩
  · obtain ⟨t, h1, h2⟩ := dly_touch z hi
    exact ⟨t, by omega, h2⟩
/-- clear: the distance is that at the end, and more than one -/
theorem clear_iff {n : Nat} {c : Nat → Int} {i : Nat} (r : Rising n c) (hi : i + 1 < n) (g : Int) :
    (dly n c i = 0 ∧ g > 1 ∧ c (i + 1) - c i - dly n c (i + 1) = g) ↔ ((∀ t, t ≤ n → gap n c i t ≠ 1) ∧ (∃ t, t ≤ n ∧ gap n c i t = g) ∧ ∀ t, t ≤ n → g ≤ gap n c i t) := by
  have e := gap_last (n := n) (c := c) i
  constructor
  · rintro ⟨h1, h2, h3⟩
    have k : ∀ t, t ≤ n → g ≤ gap n c i t := fun t ht => by
      have := dly_zero_gap h1 hi ht
      omega
    refine ⟨fun t ht z => ?_, ⟨n, Nat.le_refl n, by omega⟩, k⟩
    have := k t ht
    omega
  · rintro ⟨h1, ⟨t, ht, h2⟩, h3⟩
    have z : dly n c i = 0 := Classical.byContradiction fun z => by
      obtain ⟨t, g1, g2⟩ := dly_touch z hi
      exact h1 t (by omega) g2
    have q1 := dly_zero_gap z hi ht
    have q2 := h3 n (Nat.le_refl n)
    have q3 := gap_pos r hi t
    have q4 := h1 t ht
    exact ⟨z, by omega, by omega⟩
end JR

/-! MathHold: the row of waiting cars (the places at which the least is met, from behind), in plain Lean. -/
namespace JR
/-- the places of W fall, their values rise -/
def Ord (L : Nat → Int) (W : List Nat) : Prop := W.Pairwise fun x y => y < x ∧ L x < L y
theorem Ord.len {L : Nat → Int} : ∀ {W : List Nat} {n : Nat}, Ord L W → (∀ k, k ∈ W → k < n) → W.length ≤ n
  | [], n, _, _ => Nat.zero_le n
  | x :: W, n, h, hn => by
    have h1 := List.pairwise_cons.mp h
    have h2 := hn x (List.mem_cons_self ..)
    have h3 := Ord.len (W := W) (n := x) h1.2 fun k hk => (h1.1 k hk).1
    show W.length + 1 ≤ n
    omega
/-- ahead of car m (all of those behind it done; some of the row's end thrown away) -/
structure Wa (n : Nat) (L : Nat → Int) (t m : Nat) (W : List Nat) : Prop where
  inr : ∀ k, k ∈ W → m + 1 ≤ k ∧ k < n
  ord : Ord L W
  cov : ∀ j, m + 1 ≤ j → j ≤ m + t → j < n → (∃ k, k ∈ W ∧ k ≤ j ∧ L k ≤ L j) ∨ L m ≤ L j
/-- car m stands in the row -/
structure Wb (n : Nat) (L : Nat → Int) (t m : Nat) (W : List Nat) : Prop where
  inr : ∀ k, k ∈ W → m ≤ k ∧ k < n
  ord : Ord L W
  cov : ∀ j, m ≤ j → j ≤ m + t → j < n → ∃ k, k ∈ W ∧ k ≤ j ∧ L k ≤ L j
theorem Wb.none {n : Nat} {L : Nat → Int} {t : Nat} : Wb n L t n [] :=
  ⟨fun k h => absurd h (by simp), List.Pairwise.nil, fun j h1 _ h3 => absurd h3 (by omega)⟩
theorem Wb.next {n : Nat} {L : Nat → Int} {t m : Nat} {W : List Nat} (h : Wb n L t (m + 1) W) : Wa n L t m W :=
  ⟨h.inr, h.ord, fun j h1 h2 h3 => .inl (h.cov j h1 (by omega) h3)⟩
theorem Ord.init {L : Nat → Int} {W : List Nat} {x : Nat} (h : Ord L (W ++ [x])) : Ord L W := (List.pairwise_append.mp h).1
/-- the last one thrown away -/
theorem Wa.pop {n : Nat} {L : Nat → Int} {t m x : Nat} {W : List Nat} (h : Wa n L t m (W ++ [x])) (hx : L m ≤ L x) : Wa n L t m W := by
  refine ⟨fun k hk => h.inr k (List.mem_append_left _ hk), h.ord.init, fun j h1 h2 h3 => ?_⟩
  rcases h.cov j h1 h2 h3 with ⟨k, k1, k2, k3⟩ | z
  · rcases List.mem_append.mp k1 with q | q
    · exact .inl ⟨k, q, k2, k3⟩
    · have e : k = x := List.mem_singleton.mp q
      subst e
      exact .inr (by omega)
  · exact .inr z
/-- car m is put at the end -/
theorem Wa.put {n : Nat} {L : Nat → Int} {t m : Nat} {W : List Nat} (hm : m < n) (h : Wa n L t m W) (hl : ∀ W0 x, W = W0 ++ [x] → L x < L m) : Wb n L t m (W ++ [m]) := by
  have all : ∀ y, y ∈ W → L y < L m := by
    intro y hy
    rcases List.eq_nil_or_concat W with e | ⟨W0, x, e⟩
    · rw [e] at hy
      exact absurd hy (by simp)
    · rw [List.concat_eq_append] at e
      have hx := hl W0 x e
      rw [e] at hy
      rcases List.mem_append.mp hy with q | q
      · have o := h.ord
        rw [e] at o
        have := (List.pairwise_append.mp o).2.2 y q x (List.mem_singleton.mpr rfl)
        omega
      · have e2 : y = x := List.mem_singleton.mp q
        subst e2
        exact hx
  refine ⟨fun k hk => ?_, ?_, fun j h1 h2 h3 => ?_⟩
  · rcases List.mem_append.mp hk with q | q
    · have := h.inr k q
      omega
    · have e : k = m := List.mem_singleton.mp q
      omega
  · refine List.pairwise_append.mpr ⟨h.ord, List.pairwise_singleton _ _, fun x hx y hy => ?_⟩
    have e : y = m := List.mem_singleton.mp hy
    subst e
    have := h.inr x hx
    exact ⟨by omega, all x hx⟩
  · by_cases e : j = m
    · subst e
      exact ⟨j, List.mem_append_right _ (List.mem_singleton.mpr rfl), Nat.le_refl _, Int.le_refl _⟩
    · rcases h.cov j (by omega) h2 h3 with ⟨k, k1, k2, k3⟩ | z
      · exact ⟨k, List.mem_append_left _ k1, k2, k3⟩
      · exact ⟨m, List.mem_append_right _ (List.mem_singleton.mpr rfl), by omega, z⟩
/-- the first one is too far -/
theorem Wb.drop {n : Nat} {L : Nat → Int} {t m f : Nat} {W : List Nat} (h : Wb n L t m (f :: W)) (hf : m + t < f) : Wb n L t m W := by
  refine ⟨fun k hk => h.inr k (List.mem_cons_of_mem _ hk), (List.pairwise_cons.mp h.ord).2, fun j h1 h2 h3 => ?_⟩
  obtain ⟨k, k1, k2, k3⟩ := h.cov j h1 h2 h3
  rcases List.mem_cons.mp k1 with q | q
  · omega
  · exact ⟨k, q, k2, k3⟩
theorem Wb.ne {n : Nat} {L : Nat → Int} {t m : Nat} {W : List Nat} (hm : m < n) (h : Wb n L t m W) : W ≠ [] := by
  obtain ⟨k, k1, _⟩ := h.cov m (Nat.le_refl _) (by omega) hm
  intro e
  rw [e] at k1
  exact absurd k1 (by simp)
/-- the first one holds car m up -/
theorem Wb.hld {n : Nat} {L : Nat → Int} {t m f : Nat} {W : List Nat} (h : Wb n L t m (f :: W)) (hf : f ≤ m + t) : Hld n L t m f := by
  have r := h.inr f (List.mem_cons_self ..)
  have o := (List.pairwise_cons.mp h.ord).1
  refine ⟨r.1, hf, r.2, fun j h1 h2 h3 => ?_, fun j h1 h2 => ?_⟩
  · obtain ⟨k, k1, k2, k3⟩ := h.cov j h1 h2 h3
    rcases List.mem_cons.mp k1 with q | q
    · subst q; exact k3
    · have := o k q
      omega
  · obtain ⟨k, k1, k2, k3⟩ := h.cov j h1 (by omega) (by omega)
    rcases List.mem_cons.mp k1 with q | q
    · omega
    · have := o k q
      omega
end JR

namespace JR
open PySem PySem.Spec PyProof.Rows L2

/-! ### the text; built-in names -/
def topS (i : Nat) : Stmt := PySem.Challenge.pw_jamroad_k08_answers_by_hand.main.body.getD i (.Pass ⟨0, 0, 0, 0⟩)
/-- built-in names that the module does not bind -/
structure Blt (mg : Str → Option Value) : Prop where
  len : mg "len" = none
  isinstance : mg "isinstance" = none
  int : mg "int" = none
  bool : mg "bool" = none
  list : mg "list" = none
  str : mg "str" = none
  all : mg "all" = none
  any : mg "any" = none
  sum : mg "sum" = none
  min : mg "min" = none
  max : mg "max" = none
  range : mg "range" = none
  enumerate : mg "enumerate" = none
  reversed : mg "reversed" = none
  sorted : mg "sorted" = none
theorem bt_len : bootBuiltins "len" = some (.builtin "len") := PySem.boot_len
theorem bt_isinstance : bootBuiltins "isinstance" = some (.builtin "isinstance") := by decide +kernel
theorem bt_int : bootBuiltins "int" = some (.type "int") := by decide +kernel
theorem bt_bool : bootBuiltins "bool" = some (.type "bool") := by decide +kernel
theorem bt_list : bootBuiltins "list" = some (.type "list") := by decide +kernel
theorem bt_str : bootBuiltins "str" = some (.type "str") := by decide +kernel
theorem bt_all : bootBuiltins "all" = some (.builtin "all") := by decide +kernel
theorem bt_any : bootBuiltins "any" = some (.builtin "any") := by decide +kernel
theorem bt_sum : bootBuiltins "sum" = some (.builtin "sum") := by decide +kernel
theorem bt_min : bootBuiltins "min" = some (.builtin "min") := by decide +kernel
theorem bt_max : bootBuiltins "max" = some (.builtin "max") := by decide +kernel
theorem bt_sorted : bootBuiltins "sorted" = some (.builtin "sorted") := by decide +kernel
section
variable {X : Cx} {x : Str} {pos : Pos}
theorem pe_ty {T : String} (hg : Gl X x) (hm : X.mg x = none) (hv : bootBuiltins x = some (.type T)) (hn : x ≠ "__name__" := by decide) (hd : (x == ("__debug__" : Str)) = false := by decide) : PE X (.Name x pos) (tC (.ty T)) :=
  pe_bltn hg hm hv rfl hn hd
theorem pe_cls {C : Addr} (hg : Gl X x) (hm : X.mg x = some (.ref C)) (hd : (x == ("__debug__" : Str)) = false := by decide) : PE X (.Name x pos) (tC (.ref C)) := pe_glob hg hm rfl hd
end

/-! ### defs that may be called by their names (nothing raises) -/
structure Cal (P : Program) (w : World) (K : PySem.W.Frag) (mg : Str → Option Value) (base : Heap) (k : Nat) (x : Str) (sp : Sp) : Prop where
  ex : ∃ (f : Addr) (fd : FuncData) (ps : List Str), FnOk P w K mg base CX0 k f fd ps sp ∧ mg x = some (.ref f) ∧ PySem.W.keepIn K (.ref f) = true ∧ Binds K fd ps []
theorem pe_c {X : Cx} {k j : Nat} {x : Str} {sp : Sp} {p pos : Pos} {e : Expr} {es : List Expr} {t : TA} (c : Cal X.prog X.w X.K X.mg X.base k x sp) (hr : Room j X.A) (hk : k ≤ j) (hg : Gl X x) (ha : PA X (e :: es) t)
    (hdb : (x == ("__debug__" : Str)) = false := by decide) (he : starEach (e :: es) X.env = (false, eval e X.env) :: starEach es X.env := by rfl) (hpl : (backTo pos (starEach es X.env)).any (·.1) = false := by rfl) :
    PE X (.Call (.Name x p) (e :: es) [] pos) (tCall sp [] E0 t) := by
  obtain ⟨f, fd, ps, F, hm, kp, b⟩ := c.ex
  exact pe_call F (hr.mono hk) hg hm kp b .nil pass0 ha hdb he hpl

/-! ### the rules, the written part named -/
theorem ixlK (K : PySem.W.Frag) {X : Cx} (h : X.K = K := by rfl) : IxR X (rIxL K) := h ▸ ix_list
theorem ixtK (K : PySem.W.Frag) {X : Cx} (h : X.K = K := by rfl) : IxR X (rIxT K) := h ▸ ix_tup
theorem eqK (K : PySem.W.Frag) {X : Cx} (hu : X.A.units + 64 < cLine) (h : X.K = K := by rfl) : OpR X (compareOp .Eq) (rEqD K) := h ▸ op_eqD hu
theorem neK (K : PySem.W.Frag) {X : Cx} (hu : X.A.units + 64 < cLine) (h : X.K = K := by rfl) : OpR X (compareOp .NotEq) (rNeD K) := h ▸ op_neD hu
theorem inK (K : PySem.W.Frag) {X : Cx} (h : X.K = K := by rfl) : OpR X (compareOp .In) (rIn K false) := h ▸ op_in_seq
theorem notInK (K : PySem.W.Frag) {X : Cx} (h : X.K = K := by rfl) : OpR X (compareOp .NotIn) (rIn K true) := h ▸ op_notIn_seq
theorem isiK (K : PySem.W.Frag) {X : Cx} (h : X.K = K := by rfl) : CallR X (.builtin "isinstance") (rIsi K) := h ▸ call_isi
def rLenK (K : PySem.W.Frag) : List V → Hp → VK → Prop := fun xs H Q => ∃ p ys, xs = [.ref p] ∧ (SqL K H p ys ∨ SqT K H p ys) ∧ Q (.int ys.length) H
theorem lenK (K : PySem.W.Frag) {X : Cx} (h : X.K = K := by rfl) : CallR X (.builtin "len") (rLenK K) := by subst h; exact call_len_seq
def rListK (K : PySem.W.Frag) : List V → Hp → VK → Prop := fun xs H Q => ∃ p ys, xs = [.ref p] ∧ (SqL K H p ys ∨ SqT K H p ys) ∧ ∀ l, H l = none → Q (.ref l) (upd H l (.lst ys))
theorem listK (K : PySem.W.Frag) {X : Cx} (h : X.K = K := by rfl) : CallR X (.type "list") (rListK K) := by subst h; exact call_list_of
theorem allK (K : PySem.W.Frag) {X : Cx} (hc : X.calm = true) (h : X.K = K := by rfl) : CallR X (.builtin "all") (rAll K) := h ▸ cr_all hc
theorem anyK (K : PySem.W.Frag) {X : Cx} (hc : X.calm = true) (h : X.K = K := by rfl) : CallR X (.builtin "any") (rAny K) := h ▸ cr_any hc
theorem sumK (K : PySem.W.Frag) {X : Cx} (hc : X.calm = true) (h : X.K = K := by rfl) : CallR X (.builtin "sum") (rSum K) := h ▸ cr_sum hc
theorem minK (K : PySem.W.Frag) {X : Cx} (hc : X.calm = true) (h : X.K = K := by rfl) : CallR X (.builtin "min") (rMin K) := h ▸ cr_min hc
theorem maxK (K : PySem.W.Frag) {X : Cx} (hc : X.calm = true) (h : X.K = K := by rfl) : CallR X (.builtin "max") (rMax K) := h ▸ cr_max hc

/-! ### heaps -/
theorem same_new {H : Hp} {p : Addr} {o : HO} (h : H p = none) : Same H (upd H p o) := fun b x e => by
  rw [upd_ne (ne_of_none e h)]
  exact e
/-- what H does not know may change -/
theorem same_mut {H H' : Hp} {p : Addr} {o : HO} (s : Same H H') (h : H p = none) : Same H (upd H' p o) := fun b x e => by
  rw [upd_ne (ne_of_none e h)]
  exact s b x e
theorem Same.sqT {K : PySem.W.Frag} {H H' : Hp} {a : Addr} {xs : List V} (e : Same H H') (h : SqT K H a xs) : SqT K H' a xs := by
  rcases h with (h | ⟨o, h⟩) | h
  · exact .inl (.inl (e _ _ h))
  · exact .inl (.inr ⟨o, e _ _ h⟩)
  · exact .inr h
theorem lt_line {n : Nat} (h : n ≤ 100000) : n < sizeLine := Nat.lt_of_le_of_lt h (by decide)
theorem le_line {n : Nat} (h : n ≤ 100000) : n ≤ sizeLine := Nat.le_of_lt (lt_line h)
/-- what a list is -/
theorem ty_list {K : PySem.W.Frag} {H : Hp} {a : Addr} {xs : List V} (h : SqL K H a xs) : TyX K H (.ref a) (.type "list") := by
  rcases h with (h | ⟨o, h⟩) | ⟨o, its, n, hk, hc, _⟩
  · exact .base (.lst h)
  · exact .base (.frz h)
  · exact .kList hk hc

/-! ### lists of whole numbers by their items -/
def iL (n : Nat) (c : Nat → Int) : List V := (List.range n).map fun i => V.int (c i)
theorem iL_len (n : Nat) (c : Nat → Int) : (iL n c).length = n := by unfold iL; rw [List.length_map, List.length_range]
theorem iL_get {n : Nat} {c : Nat → Int} {i : Nat} (h : i < n) : (iL n c)[i]? = some (.int (c i)) := by
  unfold iL
  rw [List.getElem?_map, List.getElem?_range h]
  rfl
theorem iL_at {n : Nat} {c : Nat → Int} {i : Nat} {z : Int} (e : z = (i : Int)) (h : i < n) : atI (iL n c) z = some (.int (c i)) := at_of e (iL_get h)
theorem iL_lt {n : Nat} {c : Nat → Int} {i : Nat} {x : V} (h : (iL n c)[i]? = some x) : i < n ∧ x = .int (c i) := by
  have q := (List.getElem?_eq_some_iff.mp h).1
  rw [iL_len] at q
  rw [iL_get q] at h
  exact ⟨q, (Option.some.inj h).symm⟩
theorem iL_succ (n : Nat) (c : Nat → Int) : iL (n + 1) c = iL n c ++ [.int (c n)] := by
  unfold iL
  rw [List.range_succ, List.map_append]
  rfl
theorem iL_congr {n : Nat} {c d : Nat → Int} (h : ∀ i, i < n → c i = d i) : iL n c = iL n d := by
  unfold iL
  refine List.map_congr_left fun i hi => ?_
  rw [h i (List.mem_range.mp hi)]
theorem iL_inj {n : Nat} {c d : Nat → Int} (h : iL n c = iL n d) : ∀ i, i < n → c i = d i := fun i hi => by
  have e : (iL n c)[i]? = (iL n d)[i]? := by rw [h]
  rw [iL_get hi, iL_get hi] at e
  exact V.int.inj (Option.some.inj e)
/-- any list of whole numbers so -/
theorem iL_of (ns : List Int) : ns.map V.int = iL ns.length fun i => ns.getD i 0 := by
  refine List.ext_getElem? fun i => ?_
  rw [List.getElem?_map]
  by_cases h : i < ns.length
  · rw [iL_get h, List.getElem?_eq_getElem h, List.getD_eq_getElem?_getD, List.getElem?_eq_getElem h]
    rfl
  · rw [List.getElem?_eq_none (by omega), List.getElem?_eq_none (by rw [iL_len]; omega)]
    rfl
def toInts (n : Nat) (c : Nat → Int) : List Int := (List.range n).map c
theorem iL_toInts (n : Nat) (c : Nat → Int) : iL n c = (toInts n c).map V.int := by
  unfold iL toInts
  rw [List.map_map]
  rfl
theorem toInts_len (n : Nat) (c : Nat → Int) : (toInts n c).length = n := by unfold toInts; rw [List.length_map, List.length_range]

/-! ### == of lists of whole numbers -/
def dats (ns : List Int) : PyData := .list (ns.map .int)
theorem eqvAll_ints : ∀ xs ys : List Int, PyData.eqvAll (xs.map .int) (ys.map .int) = decide (xs = ys)
  | [], [] => rfl
  | [], y :: ys => rfl
  | x :: xs, [] => rfl
  | x :: xs, y :: ys => by
    have ih := eqvAll_ints xs ys
    show PyData.eqvAll (.int x :: xs.map .int) (.int y :: ys.map .int) = _
    rw [PyData.eqvAll, PyData.eqv, ih]
    by_cases e : x = y
    · subst e
      by_cases e2 : xs = ys
      · subst e2; simp
      · simp [e2]
    · simp [e]
theorem eqv_dats (xs ys : List Int) : PyData.eqv (dats xs) (dats ys) = decide (xs = ys) := by
  unfold dats
  rw [PyData.eqv]
  exact eqvAll_ints xs ys
theorem canLay_ints : ∀ xs : List Int, PyData.canLayAll0 (xs.map .int) = true
  | [] => rfl
  | x :: xs => by
    show (PyData.canLay0 (.int x) && PyData.canLayAll0 (xs.map .int)) = true
    rw [canLay_ints xs]
    rfl
theorem depth_ints : ∀ xs : List Int, PyData.depthAll (xs.map .int) = 0
  | [] => rfl
  | x :: xs => by
    show max (PyData.depth (.int x)) (PyData.depthAll (xs.map .int)) = 0
    rw [depth_ints xs]
    rfl
theorem shaped_dats (xs : List Int) : SeqAt.shaped (dats xs) = true := by
  unfold SeqAt.shaped dats
  rw [Bool.and_eq_true]
  refine ⟨canLay_ints xs, decide_eq_true ?_⟩
  show PyData.depthAll (xs.map .int) + 1 ≤ 64
  rw [depth_ints]
  decide
theorem dp_all {K : PySem.W.Frag} {H : Hp} : ∀ xs : List Int, DpAll K H (xs.map V.int) (xs.map PyData.int)
  | [] => .nil
  | x :: xs => .cons (.int x) (dp_all xs)
theorem dp_ints {K : PySem.W.Frag} {H : Hp} {a : Addr} {xs : List Int} (h : SqL K H a (xs.map V.int)) : Dp K H (.ref a) (dats xs) := .lst h (dp_all xs)
theorem eq_lists {K : PySem.W.Frag} {H : Hp} {a b : Addr} {xs ys : List Int} {Q : VK} (ha : SqL K H a (xs.map V.int)) (hb : SqL K H b (ys.map V.int)) (q : Q (.bl (decide (xs = ys))) H) : rEqD K (.ref a) (.ref b) H Q :=
  ⟨dats xs, dats ys, dp_ints ha, dp_ints hb, shaped_dats xs, shaped_dats ys, by rw [eqv_dats]; exact q⟩
theorem ne_lists {K : PySem.W.Frag} {H : Hp} {a b : Addr} {xs ys : List Int} {Q : VK} (ha : SqL K H a (xs.map V.int)) (hb : SqL K H b (ys.map V.int)) (q : Q (.bl (!decide (xs = ys))) H) : rNeD K (.ref a) (.ref b) H Q :=
  ⟨dats xs, dats ys, dp_ints ha, dp_ints hb, shaped_dats xs, shaped_dats ys, by rw [eqv_dats]; exact q⟩
/-- as many, by their items -/
theorem toInts_eq {n : Nat} {c d : Nat → Int} : toInts n c = toInts n d ↔ ∀ i, i < n → c i = d i := by
  constructor
  · intro h
    exact iL_inj (by rw [iL_toInts, iL_toInts, h])
  · intro h
    unfold toInts
    exact List.map_congr_left fun i hi => h i (List.mem_range.mp hi)
/-- equal lists of whole numbers: the two words -/
theorem iL_eq {K : PySem.W.Frag} {H : Hp} {a b : Addr} {n : Nat} {c d : Nat → Int} {Q : VK} (ha : SqL K H a (iL n c)) (hb : SqL K H b (iL n d)) (e : ∀ i, i < n → c i = d i) (q : Q (.bl true) H) : rEqD K (.ref a) (.ref b) H Q := by
  rw [iL_toInts] at ha hb
  refine eq_lists ha hb ?_
  rw [decide_eq_true (toInts_eq.mpr e)]
  exact q
theorem iL_ne {K : PySem.W.Frag} {H : Hp} {a b : Addr} {n : Nat} {c d : Nat → Int} {Q : VK} (ha : SqL K H a (iL n c)) (hb : SqL K H b (iL n d)) (e : ∀ i, i < n → c i = d i) (q : Q (.bl false) H) : rNeD K (.ref a) (.ref b) H Q := by
  rw [iL_toInts] at ha hb
  refine ne_lists ha hb ?_
  rw [decide_eq_true (toInts_eq.mpr e)]
  exact q

/-! ### rests -/
theorem fmod_rng (m : Int) {q : Nat} (hq : 0 < q) : ∃ k : Nat, k < q ∧ m.fmod (q : Int) = (k : Int) := by
  have h0 := Int.fmod_nonneg_of_pos m (show (0 : Int) < (q : Int) by omega)
  have h1 := Int.fmod_lt_of_pos m (show (0 : Int) < (q : Int) by omega)
  exact ⟨(m.fmod (q : Int)).toNat, by omega, by omega⟩
/-- an item of a written row at a rest -/
theorem at_rest (xs : List Int) (m : Int) (q : Nat) (hq : xs.length = q) (h0 : 0 < q) : ∃ v, v ∈ xs ∧ atI (xs.map V.int) (m.fmod (q : Int)) = some (.int v) := by
  obtain ⟨k, hk, e⟩ := fmod_rng m h0
  have hk' : k < xs.length := by omega
  refine ⟨xs[k], List.getElem_mem hk', ?_⟩
  refine at_of e ?_
  rw [List.getElem?_map, List.getElem?_eq_getElem hk']
  rfl
/-- % by a number above nought hands on a letter -/
theorem rd_mod {i j : Int} {q : Nat} {H : Hp} {Q : VK} (e : j = (q : Int)) (h : 0 < q) (k : ∀ r : Nat, r < q → i.fmod (q : Int) = (r : Int) → Q (.int (r : Int)) H) : rI (fun _ j => j ≠ 0) (fun i j => .int (i.fmod j)) (.int i) (.int j) H Q := by
  obtain ⟨r, h1, h2⟩ := fmod_rng i h
  subst e
  refine ⟨i, (q : Int), rfl, rfl, by omega, ?_⟩
  have := k r h1 h2
  rw [← h2] at this
  exact this

/-! ### a comprehension over a walk whose element is a value of the turn -/
theorem lc_fun {J : It} {n : Nat} {G : Hp → Prop} {Y : Nat → Hp → V → Hp → Prop} (w : Walk J n G Y) {g : TG} {tt : TT} {te : TE} {vs : List Nat} {σ : L2.St} {H1 : Hp} {D : Addr} {Qd : Hp → Prop} (f : Nat → V) (hn : n ≤ 100000) (hD : H1 D = none)
    (hG : ∀ H, Same H1 H → G H)
    (hs : ∀ (i : Nat) (x : V) (H H' : Hp), i < n → Same H1 H → Y i H x H' → ∀ (Q : VK) (R : Hp → Prop), (∀ H4, Same H H4 → Q (f i) H4) →
      g x (wipe σ vs) H' fun σ2 H2 => wipe σ2 vs = wipe σ vs ∧ tt σ2 H2 fun b H3 => if b = true then te σ2 H3 Q else R H3)
    (hd : ∀ H, Same H1 H → H D = some (.lst ((List.range n).map f)) → Qd H) :
    ∃ W : Nat → Nat → Hp → Prop, (∃ m, W 0 m (upd H1 D (.lst []))) ∧ ∀ i m H, W i m H →
      (J.stop i H ∧ Qd H) ∨ (J.go i H ∧ ∃ Nx : Hp → Prop, (∀ H', Nx H' → ∃ m', m' < m ∧ W (i + 1) m' H') ∧ ∀ x H', J.yld i H x H' → g x (wipe σ vs) H' fun σ2 H2 => wipe σ2 vs = wipe σ vs ∧ tt σ2 H2 fun b H3 =>
        if b = true then te σ2 H3 fun y H4 => ∃ acc, H4 D = some (.lst acc) ∧ acc.length < sizeLine ∧ Nx (upd H4 D (.lst (acc ++ [y]))) else Nx H3) := by
  refine lc_it w (fun i H => Same H1 H ∧ H D = some (.lst ((List.range i).map f))) ⟨same_new hD, upd_same⟩ (fun i H _ p => hG H p.1) (fun i x H H' hi p y => ?_) (fun H p => hd H p.1 p.2)
  refine hs i x H H' hi p.1 y _ _ fun H4 s4 => ?_
  refine ⟨_, s4 _ _ p.2, ?_, same_mut (p.1.trans s4) hD, ?_⟩
  · rw [List.length_map, List.length_range]
    exact lt_line (by omega)
  · rw [upd_same, List.range_succ, List.map_append]
    rfl
/-- .. with a test -/
def kept (n : Nat) (p : Nat → Bool) (f : Nat → V) : List V := ((List.range n).filter p).map f
theorem kept_succ (n : Nat) (p : Nat → Bool) (f : Nat → V) : kept (n + 1) p f = kept n p f ++ (if p n = true then [f n] else []) := by
  unfold kept
  rw [List.range_succ, List.filter_append, List.map_append]
  cases h : p n <;> simp [h]
theorem kept_len (n : Nat) (p : Nat → Bool) (f : Nat → V) : (kept n p f).length ≤ n := by
  unfold kept
  rw [List.length_map]
  have := List.length_filter_le p (List.range n)
  rw [List.length_range] at this
  exact this
theorem lc_if {J : It} {n : Nat} {G : Hp → Prop} {Y : Nat → Hp → V → Hp → Prop} (w : Walk J n G Y) {g : TG} {tt : TT} {te : TE} {vs : List Nat} {σ : L2.St} {H1 : Hp} {D : Addr} {Qd : Hp → Prop} (p : Nat → Bool) (f : Nat → V) (hn : n ≤ 100000) (hD : H1 D = none)
    (hG : ∀ H, Same H1 H → G H)
    (hs : ∀ (i : Nat) (x : V) (H H' : Hp), i < n → Same H1 H → Y i H x H' → ∀ (Q : VK) (R : Hp → Prop), (p i = true → ∀ H4, Same H H4 → Q (f i) H4) → (p i = false → ∀ H4, Same H H4 → R H4) →
      g x (wipe σ vs) H' fun σ2 H2 => wipe σ2 vs = wipe σ vs ∧ tt σ2 H2 fun b H3 => if b = true then te σ2 H3 Q else R H3)
    (hd : ∀ H, Same H1 H → H D = some (.lst (kept n p f)) → Qd H) :
    ∃ W : Nat → Nat → Hp → Prop, (∃ m, W 0 m (upd H1 D (.lst []))) ∧ ∀ i m H, W i m H →
      (J.stop i H ∧ Qd H) ∨ (J.go i H ∧ ∃ Nx : Hp → Prop, (∀ H', Nx H' → ∃ m', m' < m ∧ W (i + 1) m' H') ∧ ∀ x H', J.yld i H x H' → g x (wipe σ vs) H' fun σ2 H2 => wipe σ2 vs = wipe σ vs ∧ tt σ2 H2 fun b H3 =>
        if b = true then te σ2 H3 fun y H4 => ∃ acc, H4 D = some (.lst acc) ∧ acc.length < sizeLine ∧ Nx (upd H4 D (.lst (acc ++ [y]))) else Nx H3) := by
  refine lc_it w (fun i H => Same H1 H ∧ H D = some (.lst (kept i p f))) ⟨same_new hD, upd_same⟩ (fun i H _ q => hG H q.1) (fun i x H H' hi q y => ?_) (fun H q => hd H q.1 q.2)
  refine hs i x H H' hi q.1 y _ _ (fun hp H4 s4 => ?_) (fun hp H4 s4 => ?_)
  · refine ⟨_, s4 _ _ q.2, lt_line (Nat.le_trans (kept_len i p f) (by omega)), same_mut (q.1.trans s4) hD, ?_⟩
    rw [upd_same, kept_succ, if_pos hp]
  · refine ⟨q.1.trans s4, ?_⟩
    rw [s4 _ _ q.2, kept_succ, if_neg (by rw [hp]; decide), List.append_nil]
end JR

namespace JR
open PySem PySem.Spec PyProof.Rows L2
/-! ### xs[a::b], a and b written: some of the items -/
theorem pick_vals {xs : List V} {us : List Value} (r : Vals xs us) : ∀ l : List Nat, Vals (l.filterMap (xs[·]?)) (l.filterMap (us[·]?))
  | [] => .nil
  | i :: l => by
    have ih := pick_vals r l
    rw [List.filterMap_cons, List.filterMap_cons]
    cases h : xs[i]? with
    | none =>
      rw [r.none_of h]
      exact ih
    | some x =>
      obtain ⟨u, h1, h2⟩ := r.get h
      rw [h1]
      exact .cons h2 ih
def tSkip (K : PySem.W.Frag) (te : TE) : TE := fun σ H Q => te σ H fun x H1 => ∃ a xs, x = .ref a ∧ SqL K H1 a xs ∧ ∀ ys p, (∀ y, y ∈ ys → y ∈ xs) → ys.length ≤ xs.length → H1 p = none → Q (.ref p) (upd H1 p (.lst ys))
theorem pe_skip {X : Cx} {e : Expr} {te : TE} {i j : Int} {k1 k2 : Nat} {p1 p2 p3 pos : Pos} (he : PE X e te) (hj : j ≠ 0 := by decide) : PE X (.Subscript e (.Slice (some (.Constant (.int i) k1 p1)) none (some (.Constant (.int j) k2 p2)) p3) pos) (tSkip X.K te) := by
  refine ⟨fun pins s σ H Q I h => ?_⟩
  refine Subscript_ (thn (he.run pins s σ H _ I h) fun v s1 ⟨x, H1, I1, r1, q1⟩ => ?_)
  obtain ⟨a, xs, ex, hx, q⟩ := q1
  subst ex
  cases r1
  have hlo : PO X (some (.Constant (.int i) k1 p1)) (tPart (tC (.int i))) := po_some pe_int
  have hst : PO X (some (.Constant (.int j) k2 p2)) (tPart (tC (.int j))) := po_some pe_int
  refine wpAny_Slice (thn (hlo.run pins s1 σ H1 (fun o H2 => o = some i ∧ H2 = H1) I1 ⟨i, rfl, rfl, rfl⟩) fun vl s2 ⟨l, H2, I2, pl, el, e2⟩ => ?_)
  subst el e2
  refine thn (po_none.run pins s2 σ H2 (fun o H3 => o = none ∧ H3 = H2) I2 ⟨rfl, rfl⟩) fun vu s3 ⟨u, H3, I3, pu, eu, e3⟩ => ?_
  subst eu e3
  refine thn (hst.run pins s3 σ H3 (fun o H4 => o = some j ∧ H4 = H3) I3 ⟨j, rfl, rfl, rfl⟩) fun vs s4 ⟨o, H4, I4, ps, eo, e4⟩ => ?_
  subst eo e4
  have I5 : Inv X pins σ H4 { s4 with heap := s4.heap.push { cls := .type "slice", data := .fields #[vl, vu, vs] } } := I4.kept (t' := s4.toks) fun b ob q => Heap.get?_push_of_some _ q
  obtain ⟨its, r, ht, hz⟩ := I5.list hx
  have hlen := r.length
  show wpAny (model X.prog X.w) X.A (subscriptTail e (.Slice (some (.Constant (.int i) k1 p1)) none (some (.Constant (.int j) k2 p2)) p3) (.ref a) (.ref s4.heap.objs.size)) (EP X pins σ Q) X.xe { s4 with heap := s4.heap.push { cls := .type "slice", data := .fields #[vl, vu, vs] } }
  refine tail_any (ops := [.ref a, .ref s4.heap.objs.size]) ht.isList.typeIs (PySem.slot_list_getitem.lookup) ?_ (by with_unfolding_all rfl)
  refine wpAny_getItem_list_slice ht.isList (Heap.IsSliceOf.new _ vl vu vs) pl pu ps (fun z => hj (Option.some.inj z)) ?_ (by rw [List.size_toArray]; omega)
  have hle := slicePick_size_le its.toArray (some i) none (some j)
  let idx := sliceRange (sliceBounds (some i) none (some j) its.toArray.size).1 (sliceBounds (some i) none (some j) its.toArray.size).2.1 (sliceBounds (some i) none (some j) its.toArray.size).2.2
  have epick : slicePick its.toArray (some i) none (some j) = (idx.filterMap (its[·]?)).toArray := by
    unfold slicePick
    refine congrArg List.toArray (congrArg (fun f => idx.filterMap f) (funext fun k => ?_))
    exact List.getElem?_toArray ..
  rw [epick] at hle ⊢
  have rv := pick_vals r idx
  have hl2 := rv.length
  have hle : (idx.filterMap (its[·]?)).length ≤ its.length := by simpa using hle
  refine ⟨.ref _, _, I5.laid (t' := s4.toks) (o := .lst (idx.filterMap (xs[·]?))) (fun b ob q => Heap.get?_push_of_some _ q) (Nat.le_refl _) ?_, rfl, q _ _ (fun y hy => ?_) (by omega) (I5.hok.fresh (Nat.le_refl _))⟩
  · exact ⟨by omega, _, 0, rv, Heap.get?_push_size _ rfl⟩
  · obtain ⟨k, _, hk⟩ := List.mem_filterMap.mp hy
    exact List.mem_of_getElem? hk
/-- lists whose items are whole numbers -/
theorem ints_from {ns : List Int} : ∀ {ys : List V}, (∀ y, y ∈ ys → y ∈ ns.map V.int) → ∃ ms : List Int, ys = ms.map V.int
  | [], _ => ⟨[], rfl⟩
  | y :: ys, h => by
    obtain ⟨ms, e⟩ := ints_from (ys := ys) fun z hz => h z (List.mem_cons_of_mem _ hz)
    obtain ⟨m, _, em⟩ := List.mem_map.mp (h y (List.mem_cons_self ..))
    exact ⟨m :: ms, by rw [e, ← em]; rfl⟩
end JR

namespace JR
open PySem PySem.Spec PyProof.Rows L2
section
variable {P : Program} {w : World} {K : PySem.W.Frag} {mg : Str → Option Value} {base : Heap}

/-! ### walks of lists of whole numbers -/
theorem walk_iL {a : Addr} {n : Nat} {c : Nat → Int} : Walk (Itl K a) n (fun H => SqL K H a (iL n c)) (fun i H x H' => H' = H ∧ x = .int (c i)) := by
  have w := (walk_list (K := K) (a := a) (xs := iL n c)).mono (G' := fun H => SqL K H a (iL n c)) (Y' := fun i H x H' => H' = H ∧ x = .int (c i)) (fun H h => h) (fun i H x H' hi _ y => ⟨y.1, (iL_lt y.2).2⟩)
  rw [iL_len] at w
  exact w
theorem walk_enumI {a : Addr} {n : Nat} {c : Nat → Int} : Walk (Ite K a) n (fun H => SqL K H a (iL n c)) (fun i H v H' => ∃ T, v = .ref T ∧ H T = none ∧ H' = upd H T (.tup [.int (i : Nat), .int (c i)])) := by
  have w := (walk_enum (K := K) (a := a) (xs := iL n c)).mono (G' := fun H => SqL K H a (iL n c)) (Y' := fun i H v H' => ∃ T, v = .ref T ∧ H T = none ∧ H' = upd H T (.tup [.int (i : Nat), .int (c i)])) (fun H h => h)
    (fun i H x H' hi _ y => by
      obtain ⟨T, x1, x2, h1, h2, h3, h4, h5⟩ := y
      cases h4
      obtain ⟨_, rfl⟩ := iL_lt h5
      exact ⟨T, h1, h2, h3⟩)
  rw [iL_len] at w
  exact w
/-- lists of truth values by their items -/
def bls (n : Nat) (b : Nat → Bool) : List Bool := (List.range n).map b
theorem bls_V (n : Nat) (b : Nat → Bool) : (bls n b).map V.bl = (List.range n).map fun i => V.bl (b i) := by
  unfold bls
  rw [List.map_map]
  rfl
theorem bls_all {n : Nat} {b : Nat → Bool} (h : ∀ i, i < n → b i = true) : (bls n b).all id = true := by
  refine List.all_eq_true.mpr fun x hx => ?_
  obtain ⟨i, hi, e⟩ := List.mem_map.mp hx
  rw [← e]
  exact h i (List.mem_range.mp hi)
theorem bls_any {n : Nat} {b : Nat → Bool} (h : ∀ i, i < n → b i = false) : (bls n b).any id = false := by
  cases q : (bls n b).any id with
  | false => rfl
  | true =>
    obtain ⟨x, hx, e⟩ := List.any_eq_true.mp q
    obtain ⟨i, hi, e2⟩ := List.mem_map.mp hx
    rw [← e2] at e
    have := h i (List.mem_range.mp hi)
    rw [show id (b i) = b i from rfl, this] at e
    cases e

/-! ### is_number -/
abbrev s_is_number : Stmt := topS 6
theorem sc_is_number : FnScope ["thing"] ["thing"] (defScope s_is_number) := ⟨rfl, rfl, rfl, by decide +kernel, rfl, by decide +kernel, by decide +kernel⟩
def numT : List String := ["int", "bool", "NoneType", "str", "list", "tuple"]
theorem kit_int {T : String} (h : T ∈ numT) : PySem.W.kitOne K (.type T) (.type "int") = some (decide (T = "int") || decide (T = "bool")) := by
  simp only [numT, List.mem_cons, List.not_mem_nil, or_false] at h
  rcases h with h | h | h | h | h | h <;> (subst h; exact kit_ty (by decide +kernel))
theorem kit_bool {T : String} (h : T ∈ numT) : PySem.W.kitOne K (.type T) (.type "bool") = some (decide (T = "bool")) := by
  simp only [numT, List.mem_cons, List.not_mem_nil, or_false] at h
  rcases h with h | h | h | h | h | h <;> (subst h; exact kit_ty (by decide +kernel))
def spIsNumber (K : PySem.W.Frag) : Sp := fun vs H Q _ => ∃ (x : V) (T : String), vs = [x] ∧ TyX K H x (.type T) ∧ T ∈ numT ∧ Q (.bl (decide (T = "int"))) H
theorem cal_is_number {f : Addr} {fd : FuncData} (F : Fun K "is_number" "is_number" s_is_number f fd) (g : mg "is_number" = some (.ref f)) (B : Blt mg) : Cal P w K mg base 1 "is_number" (spIsNumber K) := by
  refine ⟨f, fd, ["thing"], F.ok sc_is_number (fun vs H Q E h => ?_) (fun cdv A outer s H vs Q E hr h => ?_), g, F.kp, F.binds fun _ _ _ _ _ _ us hl => match us, hl with | [_], _ => rfl⟩
  · obtain ⟨x, T, rfl, _⟩ := h
    rfl
  · obtain ⟨x, T, rfl, hx, hT, q⟩ := h
    refine ⟨_, (pss_one (ps_ret (pe_and (pe_callB (isiK K) (by rfl) B.isinstance bt_isinstance (pa_cons (pv 0) (pa_cons (pe_ty (by rfl) B.int bt_int) pa_nil))) (pe_one (pe_not (pe_callB (isiK K) (by rfl) B.isinstance bt_isinstance (pa_cons (pv 0) (pa_cons (pe_ty (by rfl) B.bool bt_bool) pa_nil)))))))), ?_⟩
    refine ⟨x, rfl, x, .ty "int", .type T, .type "int", _, rfl, .ty _, hx, kit_int hT, _, rfl, ?_⟩
    refine ite2 (fun e => ?_) (fun e => ?_)
    · refine ⟨x, rfl, x, .ty "bool", .type T, .type "bool", _, rfl, .ty _, hx, kit_bool hT, _, rfl, ?_⟩
      show Q (.bl (!decide (T = "bool"))) H
      have e2 : (!decide (T = "bool")) = decide (T = "int") := by
        simp only [numT, List.mem_cons, List.not_mem_nil, or_false] at hT
        rcases hT with h | h | h | h | h | h <;> (subst h; first | decide | exact absurd e (by decide))
      rw [e2]
      exact q
    · have e2 : decide (T = "int") = false := by
        simp only [numT, List.mem_cons, List.not_mem_nil, or_false] at hT
        rcases hT with h | h | h | h | h | h <;> (subst h; first | decide | exact absurd (by decide) e)
      rw [e2] at q
      exact q
theorem num_int {H : Hp} {Q : VK} {E : XK} (i : Int) (q : Q (.bl true) H) : spIsNumber K [.int i] H Q E := ⟨.int i, "int", rfl, .base (.int i), by decide, q⟩

/-! ### asked_cars, what are cars -/
abbrev s_asked_cars : Stmt := topS 7
theorem sc_asked_cars : FnScope ["cars", "car", "at"] ["cars"] (defScope s_asked_cars) := ⟨rfl, rfl, rfl, by decide +kernel, rfl, by decide +kernel, by decide +kernel⟩
def spAskedCars (K : PySem.W.Frag) : Sp := fun vs H Q _ => ∃ (a : Addr) (n : Nat) (c : Nat → Int), vs = [.ref a] ∧ SqL K H a (iL n c) ∧ Rising n c ∧ n ≤ 1000 ∧ ∀ H', Same H H' → Q .non H'
theorem cal_asked_cars {f : Addr} {fd : FuncData} (F : Fun K "asked_cars" "asked_cars" s_asked_cars f fd) (g : mg "asked_cars" = some (.ref f)) (B : Blt mg) (c_is_number : Cal P w K mg base 1 "is_number" (spIsNumber K)) : Cal P w K mg base 2 "asked_cars" (spAskedCars K) := by
  refine ⟨f, fd, ["cars"], F.ok sc_asked_cars (fun vs H Q E h => ?_) (fun cdv A outer s H vs Q E hr h => ?_), g, F.kp, F.binds fun _ _ _ _ _ _ us hl => match us, hl with | [_], _ => rfl⟩
  · obtain ⟨a, n, c, rfl, _⟩ := h
    rfl
  · obtain ⟨a, n, c, rfl, hS, hR, hn, q⟩ := h
    refine ⟨_, (pss_cons (ps_if (PW.pt (pw_or (pt_not (pt_val (pe_callB (isiK K) (by rfl) B.isinstance bt_isinstance (pa_cons (pv 0) (pa_cons (pe_ty (by rfl) B.list bt_list) pa_nil))))) (pw_or1 (pt_not (pt_val (pe_callB (allK K rfl) (by rfl) B.all bt_all (pa_cons (pe_lc (own := [("car", 1)]) (g := gName 1) (tt := tYes) rfl sc_asked_cars.nd (pi_list (pv 0)) (blkOk_by (own := [("car", 1)]) (N := ["cars", "car", "at"]) (sc := defScope s_asked_cars) (by decide +kernel)) (fun _ _ _ _ _ => (pg_name (i := 1) sc_asked_cars.nd rfl (Or.inl rfl))) (fun _ _ _ _ _ => pts_nil) (fun _ _ _ _ _ => (pe_c c_is_number hr (by decide) (by rfl) (pa_cons (pv 1) pa_nil)))) pa_nil))))))) pss_never pss_nil) (pss_one (ps_if (pt_val (pe_callB (anyK K rfl) (by rfl) B.any bt_any (pa_cons (pe_lc (own := [("at", 2)]) (g := gName 2) (tt := tYes) rfl sc_asked_cars.nd (pi_range1 rfl B.range (pa_cons (pe_op op_sub (pe_callB (lenK K) (by rfl) B.len bt_len (pa_cons (pv 0) pa_nil)) pe_int) pa_nil)) (blkOk_by (own := [("at", 2)]) (N := ["cars", "car", "at"]) (sc := defScope s_asked_cars) (by decide +kernel)) (fun _ _ _ _ _ => (pg_name (i := 2) sc_asked_cars.nd rfl (Or.inl rfl))) (fun _ _ _ _ _ => pts_nil) (fun _ _ _ _ _ => (pe_cmpR op_ge (pe_ix (ixlK K) (pv 0) (pv 2) (fun _ _ => rfl)) (pe_ix (ixlK K) (pv 0) (pe_op op_add (pv 2) pe_int) (fun _ _ => rfl)) rfl))) pa_nil))) pss_never pss_nil))), ?_⟩
    -- not isinstance(cars, list)
    refine ⟨.ref a, rfl, .ref a, .ty "list", .type "list", .type "list", true, rfl, .ty _, ty_list hS, kit_ty (by decide +kernel), true, rfl, iteF ?_⟩
    -- not all([is_number(car) for car in cars])
    refine ⟨.ref a, rfl, a, rfl, ⟨_, hS⟩, fun D hD => lc_fun (walk_iL (n := n) (c := c)) (fun _ => V.bl true) (by omega) hD (fun H s => s.seq hS) (fun i x H1 H2 hi s y Q' R' q' => ?_) (fun H1 s1 e1 => ?_)⟩
    · obtain ⟨rfl, rfl⟩ := y
      exact ⟨rfl, _, rfl, .int (c i), "int", rfl, .base (.int (c i)), by decide, q' _ (Same.refl _)⟩
    · refine ⟨D, bls n fun _ => true, rfl, SqL.of (by rw [e1, bls_V]), _, rfl, ?_⟩
      rw [bls_all fun _ _ => rfl]
      refine iteF ?_
      -- any([cars[at] >= cars[at + 1] ..])
      have hS1 := s1.seq hS
      refine ⟨.ref a, rfl, a, iL n c, rfl, .inl hS1, _, _, rfl, rfl, (n : Int) - 1, by rw [iL_len], by omega, by omega, fun D2 hD2 => lc_fun walk_range (fun i => V.bl (decide (c (i + 1) ≤ c i))) (by omega) hD2 (fun _ _ => trivial) (fun i x H2 H3 hi s y Q' R' q' => ?_) (fun H2 s2 e2 => ?_)⟩
      · obtain ⟨rfl, rfl⟩ := y
        have hS2 := s.seq hS1
        have h1 : i + 1 < n := by omega
        exact ⟨rfl, _, rfl, _, rfl, _, _, _, _, rfl, rfl, hS2, iL_at (i := i) (by omega) (by omega), _, rfl, _, rfl, _, _, rfl, rfl, _, _, _, _, rfl, rfl, hS2, iL_at (i := i + 1) (by omega) h1, _, _, rfl, rfl, q' _ (Same.refl _)⟩
      · refine ⟨D2, bls ((n : Int) - 1).toNat fun i => decide (c (i + 1) ≤ c i), rfl, SqL.of (by rw [e2, bls_V]), _, rfl, ?_⟩
        rw [bls_any fun i hi => decide_eq_false (by have := hR i (by omega); omega)]
        exact iteF (q _ (s1.trans s2))

/-! ### asked_steps, a count of steps -/
abbrev s_asked_steps : Stmt := topS 8
theorem sc_asked_steps : FnScope ["steps"] ["steps"] (defScope s_asked_steps) := ⟨rfl, rfl, rfl, by decide +kernel, rfl, by decide +kernel, by decide +kernel⟩
def spAskedSteps : Sp := fun vs H Q _ => ∃ t : Int, vs = [.int t] ∧ 0 ≤ t ∧ Q .non H
theorem cal_asked_steps {f : Addr} {fd : FuncData} (F : Fun K "asked_steps" "asked_steps" s_asked_steps f fd) (g : mg "asked_steps" = some (.ref f)) (B : Blt mg) (c_is_number : Cal P w K mg base 1 "is_number" (spIsNumber K)) : Cal P w K mg base 2 "asked_steps" spAskedSteps := by
  refine ⟨f, fd, ["steps"], F.ok sc_asked_steps (fun vs H Q E h => ?_) (fun cdv A outer s H vs Q E hr h => ?_), g, F.kp, F.binds fun _ _ _ _ _ _ us hl => match us, hl with | [_], _ => rfl⟩
  · obtain ⟨t, rfl, _⟩ := h
    rfl
  · obtain ⟨t, rfl, ht, q⟩ := h
    refine ⟨_, (pss_one (ps_if (PW.pt (pw_or (pt_not (pt_val (pe_c c_is_number hr (by decide) (by rfl) (pa_cons (pv 0) pa_nil)))) (pw_or1 (pt_cmpR op_lt (pv 0) pe_int rfl)))) pss_never pss_nil)), ?_⟩
    refine ⟨_, rfl, .int t, "int", rfl, .base (.int t), by decide, _, rfl, iteF ⟨_, rfl, _, _, rfl, rfl, _, rfl, ?_⟩⟩
    rw [decide_eq_false (show ¬ t < 0 by omega)]
    exact iteF q

end
end JR

namespace JR
open PySem PySem.Spec PyProof.Rows L2
section
variable {P : Program} {w : World} {K : PySem.W.Frag} {mg : Str → Option Value} {base : Heap}

/-! ### lists of places (natural numbers) -/
def nL (W : List Nat) : List V := W.map fun (k : Nat) => V.int (k : Int)
theorem nL_len (W : List Nat) : (nL W).length = W.length := by unfold nL; rw [List.length_map]
theorem nL_snoc (W : List Nat) (x : Nat) : nL (W ++ [x]) = nL W ++ [.int (x : Int)] := by unfold nL; rw [List.map_append]; rfl
theorem nL_int (W : List Nat) : nL W = (W.map fun (k : Nat) => (k : Int)).map V.int := by unfold nL; rw [List.map_map]; rfl
theorem nL_last (W : List Nat) (x : Nat) : atI (nL (W ++ [x])) (-1) = some (.int (x : Int)) := by rw [nL_snoc]; exact atI_last _ _
theorem nL_first (W : List Nat) (f : Nat) : atI (nL (f :: W)) 0 = some (.int (f : Int)) := by
  show atI (.int (f : Int) :: nL W) ((0 : Nat) : Int) = _
  exact atI_nat rfl
theorem seq0 (f : Nat) (W : List Nat) : seqIndex? 0 (nL (f :: W)).length = some 0 := by
  rw [nL_len]
  unfold seqIndex?
  simp
theorem iL_rev (n : Nat) (c : Nat → Int) : (iL n c).reverse = iL n fun i => c (n - 1 - i) := by
  refine List.ext_getElem? fun i => ?_
  by_cases h : i < n
  · rw [List.getElem?_reverse (by rw [iL_len]; exact h), iL_len, iL_get (by omega), iL_get h]
  · rw [List.getElem?_eq_none (by rw [List.length_reverse, iL_len]; omega), List.getElem?_eq_none (by rw [iL_len]; omega)]

/-! ### leans -/
abbrev s_leans : Stmt := topS 10
theorem sc_leans : FnScope ["cars", "at", "car"] ["cars"] (defScope s_leans) := ⟨rfl, rfl, rfl, by decide +kernel, rfl, by decide +kernel, by decide +kernel⟩
def spLeans (K : PySem.W.Frag) : Sp := fun vs H Q _ => ∃ (a : Addr) (n : Nat) (c : Nat → Int), vs = [.ref a] ∧ SqL K H a (iL n c) ∧ n ≤ 1000 ∧ ∀ H' p, Same H H' → H p = none → H' p = some (.lst (iL n (lean c))) → Q (.ref p) H'
theorem cal_leans {f : Addr} {fd : FuncData} (F : Fun K "leans" "leans" s_leans f fd) (g : mg "leans" = some (.ref f)) (B : Blt mg) : Cal P w K mg base 1 "leans" (spLeans K) := by
  refine ⟨f, fd, ["cars"], F.ok sc_leans (fun vs H Q E h => ?_) (fun cdv A outer s H vs Q E hr h => ?_), g, F.kp, F.binds fun _ _ _ _ _ _ us hl => match us, hl with | [_], _ => rfl⟩
  · obtain ⟨a, n, c, rfl, _⟩ := h
    rfl
  · obtain ⟨a, n, c, rfl, hS, hn, q⟩ := h
    refine ⟨_, (pss_one (ps_ret (pe_lc (own := [("at", 1), ("car", 2)]) (g := gTup K 2 (gCons (gName 1) (gCons (gName 2) gNil))) (tt := tYes) rfl sc_leans.nd (pi_enum rfl B.enumerate (pa_cons (pv 0) pa_nil)) (blkOk_by (own := [("at", 1), ("car", 2)]) (N := ["cars", "at", "car"]) (sc := defScope s_leans) (by decide +kernel)) (fun _ _ _ _ _ => (pg_tup (n := 2) rfl (pgs_cons (pg_name (i := 1) sc_leans.nd rfl (Or.inl rfl)) (pgs_cons (pg_name (i := 2) sc_leans.nd rfl (Or.inl rfl)) pgs_nil)))) (fun _ _ _ _ _ => pts_nil) (fun _ _ _ _ _ => (pe_op op_sub (pv 2) (pe_op op_mul pe_int (pv 1))))))), ?_⟩
    refine ⟨_, rfl, a, iL n c, rfl, hS, fun D hD => lc_fun (walk_enumI (n := n) (c := c)) (fun i => V.int (lean c i)) (by omega) hD (fun H s => s.seq hS) (fun i x H1 H2 hi s y Q' R' q' => ?_) (fun H1 s1 e1 => q H1 D s1 hD e1)⟩
    obtain ⟨T, rfl, nT, rfl⟩ := y
    refine ⟨T, _, rfl, SqT.of upd_same, rfl, _, _, rfl, _, _, rfl, rfl, rfl, ?_⟩
    exact ⟨_, rfl, _, rfl, _, _, rfl, rfl, .inl ⟨by decide, by decide⟩, _, _, rfl, rfl, q' _ (same_new nT)⟩

/-! ### holders -/
abbrev s_holders : Stmt := topS 11
theorem sc_holders : FnScope ["cars", "steps", "told", "waiting", "found", "at"] ["cars", "steps"] (defScope s_holders) := ⟨rfl, rfl, rfl, by decide +kernel, rfl, by decide +kernel, by decide +kernel⟩
def spHolders (K : PySem.W.Frag) : Sp := fun vs H Q _ => ∃ (a : Addr) (n : Nat) (c : Nat → Int) (t : Nat), vs = [.ref a, .int (t : Int)] ∧ SqL K H a (iL n c) ∧ n ≤ 1000 ∧
  ∀ H' p (b : Nat → Nat), Same H H' → H p = none → H' p = some (.lst (iL n fun i => (b i : Int))) → (∀ i, i < n → Hld n (lean c) t i (b i)) → Q (.ref p) H'
theorem cal_holders {f : Addr} {fd : FuncData} (F : Fun K "holders" "holders" s_holders f fd) (g : mg "holders" = some (.ref f)) (B : Blt mg) (c_leans : Cal P w K mg base 1 "leans" (spLeans K)) : Cal P w K mg base 2 "holders" (spHolders K) := by
  refine ⟨f, fd, ["cars", "steps"], F.ok sc_holders (fun vs H Q E h => ?_) (fun cdv A outer s H vs Q E hr h => ?_), g, F.kp, F.binds fun _ _ _ _ _ _ us hl => match us, hl with | [_, _], _ => rfl⟩
  · obtain ⟨a, n, c, t, rfl, _⟩ := h
    rfl
  · obtain ⟨a, n, c, t, rfl, hS, hn, q⟩ := h
    refine ⟨_, (pss_cons (ps_set (i := 2) sc_holders.nd rfl (Or.inl rfl) (pe_c c_leans hr (by decide) (by rfl) (pa_cons (pv 0) pa_nil))) (pss_cons (ps_set (i := 3) sc_holders.nd rfl (Or.inl rfl) (pe_lst pa_nil)) (pss_cons (ps_set (i := 4) sc_holders.nd rfl (Or.inl rfl) (pe_lst pa_nil)) (pss_cons (ps_for PassesOwn.never rfl (pi_revR rfl B.reversed (prg_1 rfl B.range (pe_callB (lenK K) (by rfl) B.len bt_len (pa_cons (pv 0) pa_nil)))) (pg_name (i := 5) sc_holders.nd rfl (Or.inl rfl)) (pss_cons (ps_while PassesOwn.never (PW.pt (pw_and (pt_cmpR (neK K hr.units) (pv 3) (pe_lst pa_nil) rfl) (pw_and1 (pt_cmpR op_ge (pe_ix (ixlK K) (pv 2) (pe_ix (ixlK K) (pv 3) (pe_un un_neg pe_int) (fun _ _ => rfl)) (fun _ _ => rfl)) (pe_ix (ixlK K) (pv 2) (pv 5) (fun _ _ => rfl)) rfl)))) (pss_one (ps_expr (pe_bm0 PySem.F.plainAttrs_list PySem.F.slot_list_pop PySem.F.type_list_pop mt_pop (pv 3))))) (pss_cons (ps_expr (pe_bm PySem.F.plainAttrs_list PySem.F.slot_list_append PySem.F.type_list_append mt_append (pv 3) (pa_cons (pv 5) pa_nil))) (pss_cons (ps_while PassesOwn.never (pt_cmpR op_gt (pe_ix (ixlK K) (pv 3) pe_int (fun _ _ => rfl)) (pe_op op_add (pv 5) (pv 1)) rfl) (pss_one (ps_expr (pe_bm PySem.F.plainAttrs_list PySem.F.slot_list_pop PySem.F.type_list_pop mt_popAt (pv 3) (pa_cons pe_int pa_nil))))) (pss_one (ps_expr (pe_bm PySem.F.plainAttrs_list PySem.F.slot_list_append PySem.F.type_list_append mt_append (pv 4) (pa_cons (pe_ix (ixlK K) (pv 3) pe_int (fun _ _ => rfl)) pa_nil)))))))) (pss_one (ps_ret (pe_revL (pv 4)))))))), ?_⟩
    -- told = leans(cars); waiting = []; found = []
    refine ⟨_, rfl, a, n, c, rfl, hS, hn, fun H1 p s1 np ep => ?_⟩
    refine ⟨Nat.zero_le _, fun wt nw => ?_⟩
    refine ⟨Nat.zero_le _, fun fo nf => ?_⟩
    have sw := same_new (o := .lst []) nw
    have sf := same_new (o := .lst []) nf
    have hp0 : upd (upd H1 wt (.lst [])) fo (.lst []) p = some (.lst (iL n (lean c))) := sf _ _ (sw _ _ ep)
    have hw0 : upd (upd H1 wt (.lst [])) fo (.lst []) wt = some (.lst []) := sf _ _ upd_same
    have nfw : fo ≠ wt := (ne_of_none upd_same nf).symm
    have npw : p ≠ wt := ne_of_none ep nw
    have npf : p ≠ fo := ne_of_none (sw _ _ ep) nf
    have s3 := s1.trans (sw.trans sf)
    have Hw : H wt = none := s1.free nw
    have Hf : H fo = none := s1.free (sw.free nf)
    -- what holds of the heap
    let G : Hp → List Nat → Nat → (Nat → Nat) → Prop := fun H' W i b => Same H H' ∧ H' p = some (.lst (iL n (lean c))) ∧ H' wt = some (.lst (nL W)) ∧ H' fo = some (.lst (iL i fun k => (b k : Int)))
    have gW : ∀ {H' : Hp} {W W' : List Nat} {i : Nat} {b : Nat → Nat}, G H' W i b → G (upd H' wt (.lst (nL W'))) W' i b := fun g => ⟨same_mut g.1 Hw, by rw [upd_ne npw]; exact g.2.1, upd_same, by rw [upd_ne nfw]; exact g.2.2.2⟩
    have gS : ∀ {H' H'' : Hp} {W : List Nat} {i : Nat} {b : Nat → Nat}, G H' W i b → Same H' H'' → G H'' W i b := fun g s => ⟨g.1.trans s, s _ _ g.2.1, s _ _ g.2.2.1, s _ _ g.2.2.2⟩
    -- for at in reversed(range(len(cars)))
    refine ⟨_, rfl, a, iL n c, rfl, .inl (s3.seq hS), (n : Int), by rw [iL_len], by omega, by omega, by omega, by omega,
      for_it (walk_rangeC (n := ((n : Int) - 0).toNat)) (fun i σ H' => i ≤ n ∧ ∃ y5 W b, σ = [some (.ref a), some (.int (t : Int)), some (.ref p), some (.ref wt), some (.ref fo), y5] ∧ G H' W i b ∧ Wb n (lean c) t (n - i) W ∧ ∀ k, k < i → Hld n (lean c) t (n - 1 - k) (b k))
        ⟨Nat.zero_le _, none, [], fun _ => 0, rfl, ⟨s3, hp0, hw0, upd_same⟩, Wb.none, fun k hk => absurd hk (Nat.not_lt_zero k)⟩ (fun _ _ _ _ _ => trivial) (fun i x σ H2 H3 hi pv y => ?_) (fun σ H2 pv => ?_)⟩
    · obtain ⟨_, y5, W, b, rfl, hG, hW, hB⟩ := pv
      obtain ⟨rfl, ex⟩ := y
      have hin : i < n := by omega
      obtain ⟨m, hm⟩ : ∃ m, m = n - 1 - i := ⟨_, rfl⟩
      have em : (0 : Int) + ((((n : Int) - 0).toNat : Nat) : Int) - 1 + ((i : Nat) : Int) * (-1) = (m : Int) := by omega
      have ex : x = .int (m : Int) := by
        rw [ex]
        show V.int (0 + ((((n : Int) - 0).toNat : Nat) : Int) - 1 + ((i : Nat) : Int) * (-1)) = _
        rw [em]
      subst ex
      have hmn : m < n := by omega
      have hA : Wa n (lean c) t m W := by
        rw [show n - i = m + 1 by omega] at hW
        exact hW.next
      -- while waiting != [] and told[waiting[-1]] >= told[at]
      refine ⟨fun z σ' H' => ∃ W, z = W.length ∧ σ' = [some (.ref a), some (.int (t : Int)), some (.ref p), some (.ref wt), some (.ref fo), some (.int (m : Int))] ∧ G H' W i b ∧ Wa n (lean c) t m W, ⟨_, W, rfl, rfl, hG, hA⟩, fun z σ' H' hz => ?_⟩
      obtain ⟨W, rfl, rfl, hG, hA⟩ := hz
      refine ⟨_, rfl, Nat.zero_le _, fun e ne => ?_⟩
      have hGe := gS hG (same_new (o := .lst []) ne)
      refine ne_lists (xs := W.map fun (k : Nat) => (k : Int)) (ys := []) (SqL.of (by rw [← nL_int]; exact hGe.2.2.1)) (SqL.of upd_same) ⟨_, rfl, ?_⟩
      -- behind the first while
      have rest : ∀ (H' : Hp) (W : List Nat), G H' W i b → Wa n (lean c) t m W → (∀ W0 x, W = W0 ++ [x] → lean c x < lean c m) →
          (tSeq (tDrop (tBM K "list" rAppend (tVar 3) (tCons (tVar 5) tNil))) (tSeq (tWhile (tTest (tOp (rI0 fun i j => .bl (decide (j < i))) (tOp (rIxL K) (tVar 3) (tC (.int 0))) (tOp (rI0 fun i j => .int (i + j)) (tVar 5) (tVar 1)))) (tDrop (tBM K "list" rPopAt (tVar 3) (tCons (tC (.int 0)) tNil))))
            (tDrop (tBM K "list" rAppend (tVar 4) (tCons (tOp (rIxL K) (tVar 3) (tC (.int 0))) tNil))))) { nx := fun σ' H' => i + 1 ≤ n ∧ ∃ y5 W b, σ' = [some (.ref a), some (.int (t : Int)), some (.ref p), some (.ref wt), some (.ref fo), y5] ∧ G H' W (i + 1) b ∧ Wb n (lean c) t (n - (i + 1)) W ∧ ∀ k, k < i + 1 → Hld n (lean c) t (n - 1 - k) (b k), rt := Q } [some (.ref a), some (.int (t : Int)), some (.ref p), some (.ref wt), some (.ref fo), some (.int (m : Int))] H' := by
        intro H' W hG hA hl
        have hlen : W.length ≤ 1000 := by
          have := hA.ord.len fun k hk => (hA.inr k hk).2
          omega
        have hB2 := hA.put hmn hl
        -- waiting.append(at)
        refine ⟨_, rfl, .inl ⟨rfl, _, SqL.of hG.2.2.1⟩, _, rfl, wt, _, _, rfl, rfl, hG.2.2.1, by rw [nL_len]; exact lt_line (by omega), ?_⟩
        have hG2 := gW (W' := W ++ [m]) hG
        rw [nL_snoc] at hG2
        -- while waiting[0] > at + steps
        refine ⟨fun z σ' H' => ∃ W, z = W.length ∧ σ' = [some (.ref a), some (.int (t : Int)), some (.ref p), some (.ref wt), some (.ref fo), some (.int (m : Int))] ∧ G H' W i b ∧ Wb n (lean c) t m W, ⟨_, W ++ [m], rfl, rfl, hG2, hB2⟩, fun z σ' H' hz => ?_⟩
        obtain ⟨W, rfl, rfl, hG, hB2⟩ := hz
        obtain ⟨f0, W, rfl⟩ := List.exists_cons_of_ne_nil (hB2.ne hmn)
        refine ⟨_, rfl, _, _, _, _, rfl, rfl, SqL.of hG.2.2.1, nL_first _ _, _, rfl, _, rfl, _, _, rfl, rfl, _, _, rfl, rfl, _, rfl, ?_⟩
        refine ite2 (fun e => ?_) (fun e => ?_)
        · have e' : m + t < f0 := by
            have := of_decide_eq_true e
            omega
          refine ⟨fun σ' H' => ∃ W', W'.length < (f0 :: W).length ∧ σ' = [some (.ref a), some (.int (t : Int)), some (.ref p), some (.ref wt), some (.ref fo), some (.int (m : Int))] ∧ G H' W' i b ∧ Wb n (lean c) t m W', fun σ' H' h => by
            obtain ⟨W', h1, h2⟩ := h
            exact ⟨W'.length, h1, W', rfl, h2⟩, ?_⟩
          refine ⟨_, rfl, .inl ⟨rfl, _, SqL.of hG.2.2.1⟩, wt, _, _, 0, _, rfl, rfl, hG.2.2.1, by decide, by decide, seq0 _ _, rfl, W, Nat.lt_succ_self _, rfl, gW (W' := W) hG, hB2.drop e'⟩
        · have e' : f0 ≤ m + t := by
            have : ¬ ((m : Int) + t < f0) := fun z => e (decide_eq_true z)
            omega
          -- found.append(waiting[0])
          refine ⟨_, rfl, .inl ⟨rfl, _, SqL.of hG.2.2.2⟩, _, rfl, _, _, _, _, rfl, rfl, SqL.of hG.2.2.1, nL_first _ _, fo, _, _, rfl, rfl, hG.2.2.2, by rw [iL_len]; exact lt_line (by omega), ?_⟩
          refine ⟨hin, _, f0 :: W, fun k => if k = i then f0 else b k, rfl, ⟨same_mut hG.1 Hf, by rw [upd_ne npf]; exact hG.2.1, by rw [upd_ne nfw.symm]; exact hG.2.2.1, ?_⟩, ?_, fun k hk => ?_⟩
          · have e1 : ((if i = i then f0 else b i : Nat) : Int) = (f0 : Int) := by rw [if_pos rfl]
            rw [upd_same, iL_succ]
            show _ = some (HO.lst (iL i (fun k => ((if k = i then f0 else b k : Nat) : Int)) ++ [V.int ((if i = i then f0 else b i : Nat) : Int)]))
            rw [e1]
            have ec : iL i (fun k => (b k : Int)) = iL i fun k => ((if k = i then f0 else b k : Nat) : Int) := iL_congr fun k hk => by rw [if_neg (by omega)]
            rw [ec]
          · rw [show n - (i + 1) = m by omega]
            exact hB2
          · show Hld n (lean c) t (n - 1 - k) (if k = i then f0 else b k)
            by_cases ek : k = i
            · rw [if_pos ek, show n - 1 - k = m by omega]
              exact hB2.hld e'
            · rw [if_neg ek]
              exact hB k (by omega)
      rcases List.eq_nil_or_concat W with eW | ⟨W0, x, eW⟩
      · subst eW
        refine iteF ?_
        exact rest _ _ hGe hA fun W0 x z => absurd z.symm (by simp)
      · rw [List.concat_eq_append] at eW
        subst eW
        have nn : (!decide ((W0 ++ [x]).map (fun (k : Nat) => (k : Int)) = [])) = true := by simp
        rw [nn]
        have hx := hA.inr x (List.mem_append_right _ (List.mem_singleton.mpr rfl))
        have hSp : SqL K (upd H' e (.lst [])) p (iL n (lean c)) := SqL.of hGe.2.1
        refine ⟨_, rfl, _, rfl, _, rfl, _, _, _, _, rfl, rfl, SqL.of hGe.2.2.1, nL_last _ _, p, _, _, _, rfl, rfl, hSp, iL_at (i := x) rfl hx.2, _, rfl, _, rfl, p, _, _, _, rfl, rfl, hSp, iL_at (i := m) rfl hmn, _, _, rfl, rfl, _, rfl, ?_⟩
        refine ite2 (fun e2 => ?_) (fun e2 => ?_)
        · have e' := of_decide_eq_true e2
          refine ⟨fun σ' H' => ∃ W', W'.length < (W0 ++ [x]).length ∧ σ' = [some (.ref a), some (.int (t : Int)), some (.ref p), some (.ref wt), some (.ref fo), some (.int (m : Int))] ∧ G H' W' i b ∧ Wa n (lean c) t m W', fun σ' H' h => by
            obtain ⟨W', h1, h2⟩ := h
            exact ⟨W'.length, h1, W', rfl, h2⟩, ?_⟩
          refine ⟨_, rfl, .inl ⟨rfl, _, SqL.of hGe.2.2.1⟩, wt, _, .int (x : Int), rfl, rfl, hGe.2.2.1, ?_, W0, ?_, rfl, ?_, hA.pop e'⟩
          · rw [nL_snoc, List.length_append]
            simp
          · rw [List.length_append]
            exact Nat.lt_succ_self _
          · have g2 := gW (W' := W0) hGe
            rw [nL_snoc, List.dropLast_concat]
            exact g2
        · have e' : ¬ lean c m ≤ lean c x := fun z => e2 (decide_eq_true z)
          refine rest _ _ hGe hA fun W1 y z => ?_
          have : y = x := by
            have := List.append_inj_right' z rfl
            exact (List.cons.inj this).1.symm
          rw [this]
          omega
    · obtain ⟨_, y5, W, b, rfl, hG, hW, hB⟩ := pv
      have en : ((n : Int) - 0).toNat = n := by omega
      rw [en] at hG hB
      -- return found[::-1]
      refine ⟨_, rfl, fo, _, rfl, SqL.of hG.2.2.2, fun r nr => q _ r (fun i => b (n - 1 - i)) (hG.1.trans (same_new nr)) (hG.1.free nr) (by rw [upd_same, iL_rev]) fun i hi => ?_⟩
      have := hB (n - 1 - i) (by omega)
      rw [show n - 1 - (n - 1 - i) = i by omega] at this
      exact this

/-! ### after -/
abbrev s_after : Stmt := topS 12
theorem sc_after : FnScope ["cars", "steps", "at", "by"] ["cars", "steps"] (defScope s_after) := ⟨rfl, rfl, rfl, by decide +kernel, rfl, by decide +kernel, by decide +kernel⟩
def spAfter (K : PySem.W.Frag) : Sp := fun vs H Q _ => ∃ (a : Addr) (n : Nat) (c : Nat → Int) (t : Nat), vs = [.ref a, .int (t : Int)] ∧ SqL K H a (iL n c) ∧ Rising n c ∧ n ≤ 1000 ∧ ∀ H' p, Same H H' → H p = none → H' p = some (.lst (iL n (stt n c t))) → Q (.ref p) H'
theorem cal_after {f : Addr} {fd : FuncData} (F : Fun K "after" "after" s_after f fd) (g : mg "after" = some (.ref f)) (B : Blt mg) (c_asked_cars : Cal P w K mg base 2 "asked_cars" (spAskedCars K)) (c_asked_steps : Cal P w K mg base 2 "asked_steps" spAskedSteps) (c_holders : Cal P w K mg base 2 "holders" (spHolders K)) : Cal P w K mg base 3 "after" (spAfter K) := by
  refine ⟨f, fd, ["cars", "steps"], F.ok sc_after (fun vs H Q E h => ?_) (fun cdv A outer s H vs Q E hr h => ?_), g, F.kp, F.binds fun _ _ _ _ _ _ us hl => match us, hl with | [_, _], _ => rfl⟩
  · obtain ⟨a, n, c, t, rfl, _⟩ := h
    rfl
  · obtain ⟨a, n, c, t, rfl, hS, hR, hn, q⟩ := h
    refine ⟨_, (pss_cons (ps_expr (pe_c c_asked_cars hr (by decide) (by rfl) (pa_cons (pv 0) pa_nil))) (pss_cons (ps_expr (pe_c c_asked_steps hr (by decide) (by rfl) (pa_cons (pv 1) pa_nil))) (pss_one (ps_ret (pe_lc (own := [("at", 2), ("by", 3)]) (g := gTup K 2 (gCons (gName 2) (gCons (gName 3) gNil))) (tt := tYes) rfl sc_after.nd (pi_enum rfl B.enumerate (pa_cons (pe_c c_holders hr (by decide) (by rfl) (pa_cons (pv 0) (pa_cons (pv 1) pa_nil))) pa_nil)) (blkOk_by (own := [("at", 2), ("by", 3)]) (N := ["cars", "steps", "at", "by"]) (sc := defScope s_after) (by decide +kernel)) (fun _ _ _ _ _ => (pg_tup (n := 2) rfl (pgs_cons (pg_name (i := 2) sc_after.nd rfl (Or.inl rfl)) (pgs_cons (pg_name (i := 3) sc_after.nd rfl (Or.inl rfl)) pgs_nil)))) (fun _ _ _ _ _ => pts_nil) (fun _ _ _ _ _ => (pe_op op_sub (pe_op op_add (pe_ix (ixlK K) (pv 0) (pv 3) (fun _ _ => rfl)) (pv 1)) (pe_op op_mul pe_int (pe_op op_sub (pv 3) (pv 2)))))))))), ?_⟩
    refine ⟨_, rfl, a, n, c, rfl, hS, hR, hn, fun H1 s1 => ?_⟩
    refine ⟨_, rfl, (t : Int), rfl, by omega, ?_⟩
    refine ⟨_, rfl, _, rfl, a, n, c, t, rfl, s1.seq hS, hn, fun H2 p b s2 np ep hb => ?_⟩
    have hS2 := s2.seq (s1.seq hS)
    refine ⟨p, iL n fun i => (b i : Int), rfl, SqL.of ep, fun D hD => lc_fun (walk_enumI (n := n) (c := fun i => (b i : Int))) (fun i => V.int (c (b i) + (t : Int) - 2 * ((b i : Int) - (i : Int)))) (by omega) hD (fun H s => s.seq (SqL.of ep)) (fun i x H3 H4 hi s y Q' R' q' => ?_) (fun H3 s3 e3 => q H3 D (s1.trans (s2.trans s3)) ((s1.trans s2).free hD) ?_)⟩
    · obtain ⟨T, rfl, nT, rfl⟩ := y
      have sT := same_new (o := .tup [.int (i : Nat), .int (b i : Int)]) nT
      refine ⟨T, _, rfl, SqT.of upd_same, rfl, _, _, rfl, _, _, rfl, rfl, rfl, ?_⟩
      exact ⟨_, rfl, _, rfl, _, _, _, _, rfl, rfl, (s.trans sT).seq hS2, iL_at (i := b i) rfl (hb i hi).2.2.1, _, rfl, _, _, rfl, rfl, _, rfl, _, rfl, _, _, rfl, rfl, _, _, rfl, rfl, .inl ⟨by decide, by decide⟩, _, _, rfl, rfl, q' _ sT⟩
    · rw [e3]
      refine congrArg (fun z => some (HO.lst z)) (iL_congr fun i hi => (hb i hi).place hR)

/-! ### delays -/
abbrev s_delays : Stmt := topS 13
theorem sc_delays : FnScope ["cars", "told", "at", "by"] ["cars"] (defScope s_delays) := ⟨rfl, rfl, rfl, by decide +kernel, rfl, by decide +kernel, by decide +kernel⟩
def spDelays (K : PySem.W.Frag) : Sp := fun vs H Q _ => ∃ (a : Addr) (n : Nat) (c : Nat → Int), vs = [.ref a] ∧ SqL K H a (iL n c) ∧ Rising n c ∧ n ≤ 1000 ∧ ∀ H' p, Same H H' → H p = none → H' p = some (.lst (iL n (dly n c))) → Q (.ref p) H'
theorem cal_delays {f : Addr} {fd : FuncData} (F : Fun K "delays" "delays" s_delays f fd) (g : mg "delays" = some (.ref f)) (B : Blt mg) (c_asked_cars : Cal P w K mg base 2 "asked_cars" (spAskedCars K)) (c_leans : Cal P w K mg base 1 "leans" (spLeans K)) (c_holders : Cal P w K mg base 2 "holders" (spHolders K)) : Cal P w K mg base 3 "delays" (spDelays K) := by
  refine ⟨f, fd, ["cars"], F.ok sc_delays (fun vs H Q E h => ?_) (fun cdv A outer s H vs Q E hr h => ?_), g, F.kp, F.binds fun _ _ _ _ _ _ us hl => match us, hl with | [_], _ => rfl⟩
  · obtain ⟨a, n, c, rfl, _⟩ := h
    rfl
  · obtain ⟨a, n, c, rfl, hS, hR, hn, q⟩ := h
    refine ⟨_, (pss_cons (ps_expr (pe_c c_asked_cars hr (by decide) (by rfl) (pa_cons (pv 0) pa_nil))) (pss_cons (ps_set (i := 1) sc_delays.nd rfl (Or.inr rfl) (pe_c c_leans hr (by decide) (by rfl) (pa_cons (pv 0) pa_nil))) (pss_one (ps_ret (pe_lc (own := [("at", 2), ("by", 3)]) (g := gTup K 2 (gCons (gName 2) (gCons (gName 3) gNil))) (tt := tYes) rfl sc_delays.nd (pi_enum rfl B.enumerate (pa_cons (pe_c c_holders hr (by decide) (by rfl) (pa_cons (pv 0) (pa_cons (pe_callB (lenK K) (by rfl) B.len bt_len (pa_cons (pv 0) pa_nil)) pa_nil))) pa_nil)) (blkOk_by (own := [("at", 2), ("by", 3)]) (N := ["cars", "told", "at", "by"]) (sc := defScope s_delays) (by decide +kernel)) (fun _ _ _ _ _ => (pg_tup (n := 2) rfl (pgs_cons (pg_name (i := 2) sc_delays.nd rfl (Or.inl rfl)) (pgs_cons (pg_name (i := 3) sc_delays.nd rfl (Or.inl rfl)) pgs_nil)))) (fun _ _ _ _ _ => pts_nil) (fun _ _ _ _ _ => (pe_op op_sub (pe_ix (ixlK K) (pv 1) (pv 2) (fun _ _ => rfl)) (pe_ix (ixlK K) (pv 1) (pv 3) (fun _ _ => rfl))))))))), ?_⟩
    refine ⟨_, rfl, a, n, c, rfl, hS, hR, hn, fun H1 s1 => ?_⟩
    refine ⟨_, rfl, a, n, c, rfl, s1.seq hS, hn, fun H2 td s2 nt et => ?_⟩
    have hS2 := s2.seq (s1.seq hS)
    refine ⟨_, rfl, _, rfl, a, iL n c, rfl, .inl hS2, a, n, c, n, by rw [iL_len]; rfl, hS2, hn, fun H3 p b s3 np ep hb => ?_⟩
    have et3 := s3 _ _ et
    refine ⟨p, iL n fun i => (b i : Int), rfl, SqL.of ep, fun D hD => lc_fun (walk_enumI (n := n) (c := fun i => (b i : Int))) (fun i => V.int (lean c i - lean c (b i))) (by omega) hD (fun H s => s.seq (SqL.of ep)) (fun i x H4 H5 hi s y Q' R' q' => ?_) (fun H4 s4 e4 => q H4 D (s1.trans (s2.trans (s3.trans s4))) ((s1.trans (s2.trans s3)).free hD) ?_)⟩
    · obtain ⟨T, rfl, nT, rfl⟩ := y
      have sT := same_new (o := .tup [.int (i : Nat), .int (b i : Int)]) nT
      have hT := (s.trans sT).seq (SqL.of (K := K) et3)
      refine ⟨T, _, rfl, SqT.of upd_same, rfl, _, _, rfl, _, _, rfl, rfl, rfl, ?_⟩
      exact ⟨_, rfl, _, rfl, _, _, _, _, rfl, rfl, hT, iL_at (i := i) rfl hi, _, rfl, _, rfl, _, _, _, _, rfl, rfl, hT, iL_at (i := b i) rfl (hb i hi).2.2.1, _, _, rfl, rfl, q' _ sT⟩
    · rw [e4]
      refine congrArg (fun z => some (HO.lst z)) (iL_congr fun i hi => (hb i hi).delay hR)

end
end JR

namespace JR
open PySem PySem.Spec PyProof.Rows L2
section
variable {P : Program} {w : World} {K : PySem.W.Frag} {mg : Str → Option Value} {base : Heap}

/-! ### _law_cars: some cars on a road, as many as the script has cells -/
abbrev s__law_cars : Stmt := topS 22
theorem sc__law_cars : FnScope ["_law_script", "_law_mixed", "_law_wide", "_law_place", "_law_found", "_law_at", "_law_cell"] ["_law_script"] (defScope s__law_cars) := ⟨rfl, rfl, rfl, by decide +kernel, rfl, by decide +kernel, by decide +kernel⟩
def spLawCars (K : PySem.W.Frag) : Sp := fun vs H Q _ => ∃ (a : Addr) (ns : List Int), vs = [.ref a] ∧ SqL K H a (ns.map V.int) ∧ ns.length ≤ 63 ∧ ∀ H' p c, Rising ns.length c → Same H H' → H p = none → H' p = some (.lst (iL ns.length c)) → Q (.ref p) H'
theorem cal__law_cars {f : Addr} {fd : FuncData} (F : Fun K "_law_cars" "_law_cars" s__law_cars f fd) (g : mg "_law_cars" = some (.ref f)) (B : Blt mg) : Cal P w K mg base 1 "_law_cars" (spLawCars K) := by
  refine ⟨f, fd, ["_law_script"], F.ok sc__law_cars (fun vs H Q E h => ?_) (fun cdv A outer s H vs Q E hr h => ?_), g, F.kp, F.binds fun _ _ _ _ _ _ us hl => match us, hl with | [_], _ => rfl⟩
  · obtain ⟨a, ns, rfl, _⟩ := h
    rfl
  · obtain ⟨a, ns, rfl, hS, hn, q⟩ := h
    refine ⟨_, (pss_cons (ps_set (i := 1) sc__law_cars.nd rfl (Or.inl rfl) (pe_callB (sumK K rfl) (by rfl) B.sum bt_sum (pa_cons (pv 0) pa_nil))) (pss_cons (ps_set (i := 2) sc__law_cars.nd rfl (Or.inl rfl) (pe_ix (ixtK K) (pe_tup (pa_cons pe_int (pa_cons pe_int (pa_cons pe_int (pa_cons pe_int pa_nil))))) (pe_op op_modN (pv 1) pe_int) (fun _ _ => rfl))) (pss_cons (ps_set (i := 3) sc__law_cars.nd rfl (Or.inl rfl) (pe_op op_add (pe_op op_sub (pe_op op_modN (pv 1) pe_int) pe_int) (pe_ix (ixtK K) (pe_tup (pa_cons pe_int (pa_cons pe_int (pa_cons (pe_op op_pow pe_int pe_int) (pa_cons (pe_un un_neg (pe_op op_pow pe_int pe_int)) pa_nil))))) (pe_op op_modN (pe_op op_fdivN (pv 1) pe_int) pe_int) (fun _ _ => rfl)))) (pss_cons (ps_set (i := 4) sc__law_cars.nd rfl (Or.inl rfl) (pe_lst pa_nil)) (pss_cons (ps_for PassesOwn.never rfl (pi_enum rfl B.enumerate (pa_cons (pv 0) pa_nil)) (pg_tup rfl (pgs_cons (pg_name (i := 5) sc__law_cars.nd rfl (Or.inl rfl)) (pgs_cons (pg_name (i := 6) sc__law_cars.nd rfl (Or.inl rfl)) pgs_nil))) (pss_cons (ps_set (i := 3) sc__law_cars.nd rfl (Or.inl rfl) (pe_op op_add (pe_op op_add (pv 3) pe_int) (pe_op op_modN (pv 6) (pv 2)))) (pss_cons (ps_if (PW.pt (pw_and (pt_cmpR op_eq (pe_op op_modN (pe_op op_fdivN (pv 1) pe_int) pe_int) pe_int rfl) (pw_and1 (pt_cmpR op_eq (pe_op op_modN (pv 5) pe_int) pe_int rfl)))) (pss_one (ps_set (i := 3) sc__law_cars.nd rfl (Or.inl rfl) (pe_op op_add (pv 3) (pe_op op_pow pe_int pe_int)))) pss_nil) (pss_one (ps_expr (pe_bm PySem.F.plainAttrs_list PySem.F.slot_list_append PySem.F.type_list_append mt_append (pv 4) (pa_cons (pv 3) pa_nil))))))) (pss_one (ps_ret (pv 4)))))))), ?_⟩
    refine ⟨_, rfl, a, ns, rfl, hS, ?_⟩
    -- the width
    refine ⟨by decide, fun T1 n1 => ?_⟩
    obtain ⟨wd, hw, ew⟩ := at_rest [2, 3, 6, 40] ns.sum 4 rfl (by decide)
    have hw0 : 0 < wd := by
      simp only [List.mem_cons, List.not_mem_nil, or_false] at hw
      omega
    refine ⟨_, rfl, _, _, rfl, rfl, (show (4 : Int) ≠ 0 by decide), T1, _, _, _, rfl, rfl, SqT.of upd_same, ew, ?_⟩
    -- the first place
    refine ⟨_, rfl, _, _, rfl, rfl, (show (41 : Int) ≠ 0 by decide), _, _, rfl, rfl, _, _, rfl, rfl, ⟨by decide, by decide, by decide⟩, _, _, rfl, rfl, ⟨by decide, by decide, by decide⟩, _, rfl, by decide, fun T2 n2 => ?_⟩
    obtain ⟨pl, _, ep⟩ := at_rest [0, 0, 10 ^ (12 : Int).toNat, -10 ^ (30 : Int).toNat] (ns.sum.fdiv 4) 4 rfl (by decide)
    refine ⟨_, rfl, _, _, rfl, rfl, ⟨by decide, by decide⟩, _, _, rfl, rfl, (show (4 : Int) ≠ 0 by decide), T2, _, _, _, rfl, rfl, SqT.of upd_same, ep, _, _, rfl, rfl, ?_⟩
    -- found = []
    refine ⟨Nat.zero_le _, fun o no => ?_⟩
    have s2 := (same_new (o := .tup [.int 2, .int 3, .int 6, .int 40]) n1).trans (same_new (o := .tup [.int 0, .int 0, .int (10 ^ (12 : Int).toNat), .int (-10 ^ (30 : Int).toNat)]) n2)
    have Ho : H o = none := s2.free no
    have s3 := s2.trans (same_new (o := .lst []) no)
    rw [iL_of] at hS
    refine ⟨_, rfl, a, _, rfl, s3.seq hS, for_it (walk_enumI (n := ns.length) (c := fun i => ns.getD i 0)) (fun i σ H' => ∃ (z : Int) (d : Nat → Int) (y5 y6 : Option V), σ = [some (.ref a), some (.int ns.sum), some (.int wd), some (.int z), some (.ref o), y5, y6] ∧ Same H H' ∧ H' o = some (.lst (iL i d)) ∧ Rising i d ∧ ∀ k, k < i → d k ≤ z)
      ⟨ns.sum.fmod 41 - 20 + pl, fun _ => 0, none, none, rfl, s3, upd_same, fun i hi => absurd hi (Nat.not_lt_zero _), fun k hk => absurd hk (Nat.not_lt_zero _)⟩ (fun i σ H' _ p => ?_) (fun i x σ H2 H3 hi p y => ?_) (fun σ H2 p => ?_)⟩
    · obtain ⟨_, _, _, _, _, sm, _⟩ := p
      exact sm.seq hS
    · obtain ⟨z, d, y5, y6, rfl, sm, eo, hR, hd⟩ := p
      obtain ⟨T, rfl, nT, rfl⟩ := y
      have sT := same_new (o := .tup [.int (i : Nat), .int (ns.getD i 0)]) nT
      have eo3 := sT _ _ eo
      have h0 := Int.fmod_nonneg_of_pos (ns.getD i 0) hw0
      refine ⟨T, _, rfl, SqT.of upd_same, rfl, _, _, rfl, _, _, rfl, rfl, ?_⟩
      refine ⟨_, rfl, _, _, rfl, rfl, _, rfl, _, rfl, _, _, rfl, rfl, by omega, _, _, rfl, rfl, ?_⟩
      -- what the end of the turn asks
      have put : ∀ z' : Int, z + 1 ≤ z' → (tDrop (tBM K "list" rAppend (tVar 4) (tCons (tVar 3) tNil))) { nx := fun σ H' => ∃ (z : Int) (d : Nat → Int) (y5 y6 : Option V), σ = [some (.ref a), some (.int ns.sum), some (.int wd), some (.int z), some (.ref o), y5, y6] ∧ Same H H' ∧ H' o = some (.lst (iL (i + 1) d)) ∧ Rising (i + 1) d ∧ ∀ k, k < i + 1 → d k ≤ z, rt := Q }
          [some (.ref a), some (.int ns.sum), some (.int wd), some (.int z'), some (.ref o), some (.int (i : Nat)), some (.int (ns.getD i 0))] (upd H2 T (.tup [.int (i : Nat), .int (ns.getD i 0)])) := fun z' hz => by
        refine ⟨_, rfl, .inl ⟨rfl, _, SqL.of eo3⟩, _, rfl, o, _, _, rfl, rfl, eo3, by rw [iL_len]; exact lt_line (by omega), ?_⟩
        refine ⟨z', fun k => if k = i then z' else d k, _, _, rfl, same_mut (sm.trans sT) Ho, ?_, fun k hk => ?_, fun k hk => ?_⟩
        · rw [upd_same, iL_succ]
          show _ = some (HO.lst (iL i (fun k => if k = i then z' else d k) ++ [V.int (if i = i then z' else d i)]))
          rw [if_pos rfl]
          have ec : iL i d = iL i fun k => if k = i then z' else d k := iL_congr fun k hk => by rw [if_neg (by omega)]
          rw [ec]
        · show (if k = i then z' else d k) + 1 ≤ if k + 1 = i then z' else d (k + 1)
          rw [if_neg (show ¬ k = i by omega)]
          by_cases e : k + 1 = i
          · rw [if_pos e]
            have := hd k (by omega)
            omega
          · rw [if_neg e]
            exact hR k (by omega)
        · show (if k = i then z' else d k) ≤ z'
          by_cases e : k = i
          · rw [if_pos e]
            exact Int.le_refl _
          · rw [if_neg e]
            have := hd k (by omega)
            omega
      -- if mixed // 16 % 3 == 0 and at % 7 == 5
      refine ⟨_, rfl, _, _, rfl, rfl, ⟨by decide, by decide⟩, _, _, rfl, rfl, (show (3 : Int) ≠ 0 by decide), rfl, _, rfl, ?_⟩
      refine ite2 (fun e => ?_) (fun e => ?_)
      · refine ⟨_, rfl, _, _, rfl, rfl, (show (7 : Int) ≠ 0 by decide), rfl, _, rfl, ?_⟩
        refine ite2 (fun e2 => ?_) (fun e2 => ?_)
        · refine ⟨_, rfl, _, _, rfl, rfl, ⟨by decide, by decide, by decide⟩, _, _, rfl, rfl, ?_⟩
          refine put _ ?_
          have : (0 : Int) ≤ 10 ^ (12 : Int).toNat := by decide
          omega
        · exact put _ (by omega)
      · refine iteF ?_
        exact put _ (by omega)
    · obtain ⟨z, d, y5, y6, rfl, sm, eo, hR, hd⟩ := p
      exact ⟨_, rfl, q H2 o d hR sm Ho eo⟩

/-! ### _law_step: the law's own step -/
abbrev s__law_step : Stmt := topS 23
theorem sc__law_step : FnScope ["_law_cars_here", "_law_there", "_law_car"] ["_law_cars_here"] (defScope s__law_step) := ⟨rfl, rfl, rfl, by decide +kernel, rfl, by decide +kernel, by decide +kernel⟩
/-- the places seen so far -/
def Seen (c : Nat → Int) (i : Nat) (kvs : List (Key × V)) : Prop := kvs.length ≤ i ∧ ∀ z : Int, (valV kvs (Sum.inl z : Key)).isSome = true ↔ ∃ k, k < i ∧ c k = z
theorem Seen.put {c : Nat → Int} {i : Nat} {kvs : List (Key × V)} (h : Seen c i kvs) : Seen c (i + 1) (putK kvs (Sum.inl (c i)) (.bl true)) := by
  refine ⟨?_, fun z => ?_⟩
  · have := h.1
    unfold putK
    split
    · rw [List.length_map]
      omega
    · rw [List.length_append]
      show kvs.length + 1 ≤ i + 1
      omega
  · rw [valV_put]
    by_cases e : (Sum.inl z : Key) = Sum.inl (c i)
    · rw [if_pos e]
      have e' : z = c i := Sum.inl.inj e
      exact ⟨fun _ => ⟨i, Nat.lt_succ_self i, e'.symm⟩, fun _ => rfl⟩
    · rw [if_neg e, h.2 z]
      constructor
      · rintro ⟨k, h1, h2⟩
        exact ⟨k, by omega, h2⟩
      · rintro ⟨k, h1, h2⟩
        by_cases ek : k = i
        · subst ek
          exact absurd (congrArg Sum.inl h2.symm) e
        · exact ⟨k, by omega, h2⟩
def spLawStep (K : PySem.W.Frag) : Sp := fun vs H Q _ => ∃ (a : Addr) (n : Nat) (c : Nat → Int), vs = [.ref a] ∧ SqL K H a (iL n c) ∧ Rising n c ∧ n ≤ 1000 ∧ ∀ H' p, Same H H' → H p = none → H' p = some (.lst (iL n (stepF n c))) → Q (.ref p) H'
theorem cal__law_step {f : Addr} {fd : FuncData} (F : Fun K "_law_step" "_law_step" s__law_step f fd) (g : mg "_law_step" = some (.ref f)) (B : Blt mg) : Cal P w K mg base 1 "_law_step" (spLawStep K) := by
  refine ⟨f, fd, ["_law_cars_here"], F.ok sc__law_step (fun vs H Q E h => ?_) (fun cdv A outer s H vs Q E hr h => ?_), g, F.kp, F.binds fun _ _ _ _ _ _ us hl => match us, hl with | [_], _ => rfl⟩
  · obtain ⟨a, n, c, rfl, _⟩ := h
    rfl
  · obtain ⟨a, n, c, rfl, hS, hR, hn, q⟩ := h
    refine ⟨_, (pss_cons (ps_set (i := 1) sc__law_step.nd rfl (Or.inr rfl) pe_dnewK) (pss_cons (ps_for PassesOwn.never rfl (pi_list (pv 0)) (pg_name (i := 2) sc__law_step.nd rfl (Or.inl rfl)) (pss_one (ps_dput (hu_of hr) (pv 1) (pv 2) pe_bl rfl))) (pss_one (ps_ret (pe_lc (own := [("_law_car", 2)]) (g := gName 2) (tt := tYes) rfl sc__law_step.nd (pi_list (pv 0)) (blkOk_by (own := [("_law_car", 2)]) (N := ["_law_cars_here", "_law_there", "_law_car"]) (sc := defScope s__law_step) (by decide +kernel)) (fun _ _ _ _ _ => (pg_name (i := 2) sc__law_step.nd rfl (Or.inl rfl))) (fun _ _ _ _ _ => pts_nil) (fun _ _ _ _ _ => (pe_ifExp (pt_cmp (pc_din (hu_of hr) (pe_op op_add (pv 2) pe_int) (pv 1)) rfl) (pv 2) (pe_op op_add (pv 2) pe_int)))))))), ?_⟩
    refine fun d nd => ?_
    have s1 := same_new (o := .dK []) nd
    refine ⟨_, rfl, a, rfl, ⟨_, s1.seq hS⟩, for_it (walk_iL (n := n) (c := c)) (fun i σ H' => ∃ kvs y2, σ = [some (.ref a), some (.ref d), y2] ∧ Same H H' ∧ H' d = some (.dK kvs) ∧ Seen c i kvs) ⟨[], none, rfl, s1, upd_same, Nat.zero_le _, fun z => ?_⟩ (fun i σ H' _ p => ?_) (fun i x σ H2 H3 hi p y => ?_) (fun σ H2 p => ?_)⟩
    · constructor
      · intro h
        cases h
      · rintro ⟨k, h1, _⟩
        exact absurd h1 (Nat.not_lt_zero k)
    · obtain ⟨_, _, _, sm, _⟩ := p
      exact sm.seq hS
    · obtain ⟨kvs, y2, rfl, sm, ed, hk⟩ := p
      obtain ⟨rfl, rfl⟩ := y
      refine ⟨_, rfl, _, rfl, d, _, rfl, DPut.k (k := Sum.inl (c i)) ed (lt_line (by have := hk.1; omega)), putK kvs (Sum.inl (c i)) (.bl true), some (.int (c i)), rfl, same_mut sm nd, upd_same, hk.put⟩
    · obtain ⟨kvs, y2, rfl, sm, ed, hk⟩ := p
      refine ⟨_, rfl, a, rfl, ⟨_, sm.seq hS⟩, fun D hD => lc_fun (walk_iL (n := n) (c := c)) (fun i => V.int (stepF n c i)) (by omega) hD (fun H s => (sm.trans s).seq hS) (fun i x H3 H4 hi s y Q' R' q' => ?_) (fun H3 s3 e3 => q H3 D (sm.trans s3) (sm.free hD) e3)⟩
      obtain ⟨rfl, rfl⟩ := y
      refine ⟨rfl, ?_⟩
      have key := (hk.2 (c i + 1)).trans (hR.next hi)
      refine ⟨_, rfl, _, _, rfl, rfl, _, rfl, d, _, rfl, DGet.k (k := Sum.inl (c i + 1)) (s _ _ ed), _, rfl, ?_⟩
      refine ite2 (fun e => ?_) (fun e => ?_)
      · refine ⟨_, rfl, ?_⟩
        have := q' _ (Same.refl H4)
        have e2 : stepF n c i = c i := by
          unfold stepF
          rw [if_pos (key.mp e)]
        rw [e2] at this
        exact this
      · refine ⟨_, rfl, _, _, rfl, rfl, ?_⟩
        have := q' _ (Same.refl H4)
        have e2 : stepF n c i = c i + 1 := by
          unfold stepF
          rw [if_neg fun z => e (key.mpr z)]
        rw [e2] at this
        exact this

end
end JR

namespace JR
open PySem PySem.Spec PyProof.Rows L2
/-! ### own classes, their methods -/
structure Met (P : Program) (w : World) (K : PySem.W.Frag) (mg : Str → Option Value) (base : Heap) (k : Nat) (C : Addr) (m : Str) (sp : Sp) : Prop where
  ex : ∃ (f : Addr) (fd : FuncData) (ps : List Str), Cls K C ∧ Meth K C m f ∧ FnOk P w K mg base CX0 k f fd ps sp ∧ Binds K fd ps []
structure Mak (P : Program) (w : World) (K : PySem.W.Frag) (mg : Str → Option Value) (base : Heap) (k : Nat) (x : Str) (C : Addr) (sp : Sp) : Prop where
  ex : ∃ (f : Addr) (fd : FuncData) (ps : List Str), Mk K C f ∧ FnOk P w K mg base CX0 k f fd ps sp ∧ mg x = some (.ref C) ∧ Binds K fd ps []
/-- what isinstance asks of an own class -/
structure AnsC (K : PySem.W.Frag) (C : Addr) : Prop where
  cl : Cls K C
  ha : PySem.W.findIn K (.ref C) "__class__" = some (some (.builtin "object.__class__"))
  hn : PySem.W.specialIn K (.builtin "object.__class__") "__get__" = some (some (.builtin "getset_descriptor.__get__"))
  htk : PySem.W.takesIn K (.builtin "object.__class__") = some true
  hm : PySem.W.mroIn K C (.type "object") = some true
theorem ty_ins {K : PySem.W.Frag} {H : Hp} {a C dx : Addr} {fs : List (Str × V)} (c : AnsC K C) (e : H a = some (.ins C dx fs)) : TyX K H (.ref a) (.ref C) := .base (.ins e c.cl c.ha c.hn c.htk c.hm)
theorem kit_facts {K : PySem.W.Frag} {C D : Addr} {b : Bool} (h1 : PySem.W.isClsIn K D = true) (h2 : PySem.W.typeIn K (.ref D) = some (.type "type")) (h3 : PySem.W.subIn K (.ref C) (.ref D) = some b) (h4 : PySem.W.subIn K (.ref C) (.ref C) = some true) : PySem.W.kitOne K (.ref C) (.ref D) = some b := by
  unfold PySem.W.kitOne
  by_cases e : (Value.ref C == Value.ref D) = true
  · have e2 : Value.ref C = Value.ref D := eq_of_beq e
    rw [if_pos e]
    rw [← e2, h4] at h3
    exact h3
  · rw [if_neg e]
    show (if ((PySem.W.clsIn K D).isSome && PySem.W.typeIn K (.ref D) == some (.type "type")) = true then PySem.W.subIn K (.ref C) (.ref D) else none) = some b
    have h1' : (PySem.W.clsIn K D).isSome = true := h1
    rw [h1', h2, if_pos (by decide +kernel)]
    exact h3
section
variable {X : Cx} {k j : Nat} {C : Addr} {x m : Str} {sp : Sp} {p pos apos : Pos} {e o : Expr} {es : List Expr} {ta : TE} {t : TA}
theorem pe_mk (c : Mak X.prog X.w X.K X.mg X.base k x C sp) (hr : Room j X.A) (hk : k + 1 ≤ j) (hg : Gl X x) (ha : PA X (e :: es) t)
    (hdb : (x == ("__debug__" : Str)) = false := by decide) (he : starEach (e :: es) X.env = (false, eval e X.env) :: starEach es X.env := by rfl) (hpl : (backTo pos (starEach es X.env)).any (·.1) = false := by rfl) :
    PE X (.Call (.Name x p) (e :: es) [] pos) (tMake C sp [] E0 t) := by
  obtain ⟨f, fd, ps, M, F, hm, b⟩ := c.ex
  exact pe_make M F (hr.mono hk) hg hm b .nil pass0 ha hdb he hpl
theorem pe_mt {pl : Sem Bool} (c : Met X.prog X.w X.K X.mg X.base k C m sp) (hr : Room j X.A) (hk : k ≤ j) (he : PE X o ta) (ha : PA X (e :: es) t)
    (hst : starEach (e :: es) X.env = (false, eval e X.env) :: starEach es X.env := by rfl) (hpl : (backTo pos (starEach es X.env)).any (·.1) = false := by rfl)
    (ht : eval (.Call (.Attribute o m apos) (e :: es) [] pos) X.env = (do
      let ov ← eval o X.env
      standAt apos.atName
      let (f, first) ← holding [ov] (getMethod ov m pl)
      callWith pos f first (backTo pos (starEach (e :: es) X.env)) (backToKw pos (keywordEach [] X.env))) := by rfl) :
    PE X (.Call (.Attribute o m apos) (e :: es) [] pos) (tMeth C m sp [] E0 ta t) := by
  obtain ⟨f, fd, ps, hc, hm, F, b⟩ := c.ex
  exact pe_meth (pl := pl) he hc hm F (hr.mono hk) b .nil pass0 ha hst hpl ht
/-- one reading or the other -/
theorem pe_or2 {e : Expr} {t u : TE} (h1 : PE X e t) (h2 : PE X e u) : PE X e (fun σ H Q => t σ H Q ∨ u σ H Q) :=
  ⟨fun pins s σ H Q I h => h.elim (fun h => h1.run pins s σ H Q I h) fun h => h2.run pins s σ H Q I h⟩
end
section
variable {P : Program} {w : World} {K : PySem.W.Frag} {mg : Str → Option Value} {base : Heap}

/-! ### asked_car -/
abbrev s_asked_car : Stmt := topS 9
theorem sc_asked_car : FnScope ["cars", "car", "least"] ["cars", "car", "least"] (defScope s_asked_car) := ⟨rfl, rfl, rfl, by decide +kernel, rfl, by decide +kernel, by decide +kernel⟩
def spAskedCar (K : PySem.W.Frag) : Sp := fun vs H Q _ => ∃ (a : Addr) (n : Nat) (c : Nat → Int) (i m : Int), vs = [.ref a, .int i, .int m] ∧ SqL K H a (iL n c) ∧ 0 ≤ i ∧ i < (n : Int) - m ∧ Q .non H
theorem cal_asked_car {f : Addr} {fd : FuncData} (F : Fun K "asked_car" "asked_car" s_asked_car f fd) (g : mg "asked_car" = some (.ref f)) (B : Blt mg) (c_is_number : Cal P w K mg base 1 "is_number" (spIsNumber K)) : Cal P w K mg base 2 "asked_car" (spAskedCar K) := by
  refine ⟨f, fd, ["cars", "car", "least"], F.ok sc_asked_car (fun vs H Q E h => ?_) (fun cdv A outer s H vs Q E hr h => ?_), g, F.kp, F.binds fun _ _ _ _ _ _ us hl => match us, hl with | [_, _, _], _ => rfl⟩
  · obtain ⟨a, n, c, i, m, rfl, _⟩ := h
    rfl
  · obtain ⟨a, n, c, i, m, rfl, hS, h0, h1, q⟩ := h
    refine ⟨_, (pss_one (ps_if (PW.pt (pw_or (pt_not (pt_val (pe_c c_is_number hr (by decide) (by rfl) (pa_cons (pv 1) pa_nil)))) (pw_or1 (pt_not (pt_chain op_le op_lt pe_int (pv 1) (pe_op op_sub (pe_callB (lenK K) (by rfl) B.len bt_len (pa_cons (pv 0) pa_nil)) (pv 2))))))) pss_never pss_nil)), ?_⟩
    refine ⟨_, rfl, .int i, "int", rfl, .base (.int i), by decide, _, rfl, iteF ?_⟩
    refine ⟨_, rfl, _, _, rfl, rfl, _, rfl, ?_⟩
    rw [decide_eq_true h0]
    refine ⟨_, rfl, a, _, rfl, .inl hS, _, rfl, _, _, rfl, rfl, _, _, rfl, rfl, _, rfl, ?_⟩
    rw [decide_eq_true (show i < ((iL n c).length : Int) - m by rw [iL_len]; exact h1)]
    exact q

/-! ### Held -/
abbrev s_Held___init__ : Stmt := inClass (topS 16) 0
theorem sc_Held___init__ : FnScope ["self", "place", "by"] ["self", "place", "by"] (defScope s_Held___init__) := ⟨rfl, rfl, rfl, by decide +kernel, rfl, by decide +kernel, by decide +kernel⟩
def spInitHeldC (CH : Addr) : Sp := fun vs H Q _ => ∃ (x dx : Addr) (v u : V), vs = [.ref x, v, u] ∧ H x = some (.ins CH dx []) ∧ ∀ H', (∀ b, b ≠ x → H' b = H b) → H' x = some (.ins CH dx [("place", v), ("by", u)]) → Q .non H'
theorem mk_Held {f CH : Addr} {fd : FuncData} (F : Fun K "__init__" "Held.__init__" s_Held___init__ f fd) (M : Mk K CH f) (g : mg "Held" = some (.ref CH)) (A0 : AnsC K CH) (np : NoAttr K CH "place") (nb : NoAttr K CH "by") : Mak P w K mg base 1 "Held" CH (spInitHeldC CH) := by
  refine ⟨f, fd, ["self", "place", "by"], M, F.ok sc_Held___init__ (fun vs H Q E h => ?_) (fun cdv A outer s H vs Q E hr h => ?_), g, F.binds fun _ _ _ _ _ _ us hl => match us, hl with | [_, _, _], _ => rfl⟩
  · obtain ⟨x, dx, v, u, rfl, _⟩ := h
    rfl
  · obtain ⟨x, dx, v, u, rfl, hx, q⟩ := h
    refine ⟨_, (pss_cons (ps_fld (pv 0) (pv 1) rfl) (pss_one (ps_fld (pv 0) (pv 2) rfl))), ?_⟩
    refine ⟨_, rfl, _, rfl, x, CH, dx, [], rfl, hx, A0.cl, np, by decide, ?_⟩
    refine ⟨_, rfl, _, rfl, x, CH, dx, _, rfl, upd_same, A0.cl, nb, (show 1 < 1000 by decide), ?_⟩
    exact q _ (fun b hb => by rw [upd_ne hb, upd_ne hb]) upd_same
/-! ### Touch, Clear: made -/
abbrev s_Touch___init__ : Stmt := inClass (topS 17) 0
theorem sc_Touch___init__ : FnScope ["self", "steps"] ["self", "steps"] (defScope s_Touch___init__) := ⟨rfl, rfl, rfl, by decide +kernel, rfl, by decide +kernel, by decide +kernel⟩
abbrev s_Clear___init__ : Stmt := inClass (topS 18) 0
theorem sc_Clear___init__ : FnScope ["self", "gap"] ["self", "gap"] (defScope s_Clear___init__) := ⟨rfl, rfl, rfl, by decide +kernel, rfl, by decide +kernel, by decide +kernel⟩
def spInit1 (CH : Addr) (fl : Str) : Sp := fun vs H Q _ => ∃ (x dx : Addr) (v : V), vs = [.ref x, v] ∧ H x = some (.ins CH dx []) ∧ ∀ H', (∀ b, b ≠ x → H' b = H b) → H' x = some (.ins CH dx [(fl, v)]) → Q .non H'
theorem mk_Touch {f CH : Addr} {fd : FuncData} (F : Fun K "__init__" "Touch.__init__" s_Touch___init__ f fd) (M : Mk K CH f) (g : mg "Touch" = some (.ref CH)) (A0 : AnsC K CH) (np : NoAttr K CH "steps") : Mak P w K mg base 1 "Touch" CH (spInit1 CH "steps") := by
  refine ⟨f, fd, ["self", "steps"], M, F.ok sc_Touch___init__ (fun vs H Q E h => ?_) (fun cdv A outer s H vs Q E hr h => ?_), g, F.binds fun _ _ _ _ _ _ us hl => match us, hl with | [_, _], _ => rfl⟩
  · obtain ⟨x, dx, v, rfl, _⟩ := h
    rfl
  · obtain ⟨x, dx, v, rfl, hx, q⟩ := h
    refine ⟨_, (pss_one (ps_fld (pv 0) (pv 1) rfl)), ?_⟩
    refine ⟨_, rfl, _, rfl, x, CH, dx, [], rfl, hx, A0.cl, np, by decide, ?_⟩
    exact q _ (fun b hb => by rw [upd_ne hb]) upd_same
theorem mk_Clear {f CH : Addr} {fd : FuncData} (F : Fun K "__init__" "Clear.__init__" s_Clear___init__ f fd) (M : Mk K CH f) (g : mg "Clear" = some (.ref CH)) (A0 : AnsC K CH) (np : NoAttr K CH "gap") : Mak P w K mg base 1 "Clear" CH (spInit1 CH "gap") := by
  refine ⟨f, fd, ["self", "gap"], M, F.ok sc_Clear___init__ (fun vs H Q E h => ?_) (fun cdv A outer s H vs Q E hr h => ?_), g, F.binds fun _ _ _ _ _ _ us hl => match us, hl with | [_, _], _ => rfl⟩
  · obtain ⟨x, dx, v, rfl, _⟩ := h
    rfl
  · obtain ⟨x, dx, v, rfl, hx, q⟩ := h
    refine ⟨_, (pss_one (ps_fld (pv 0) (pv 1) rfl)), ?_⟩
    refine ⟨_, rfl, _, rfl, x, CH, dx, [], rfl, hx, A0.cl, np, by decide, ?_⟩
    exact q _ (fun b hb => by rw [upd_ne hb]) upd_same
/-- a new instance: what stood stands -/
theorem same_made {H H' : Hp} {x dx C : Addr} {fs : List (Str × V)} (nx : H x = none) (nd : H dx = none) (k : ∀ b, b ≠ x → H' b = upd (upd H dx (.own x)) x (.ins C dx fs) b) : Same H H' := fun b o e => by
  have h1 := ne_of_none e nx
  have h2 := ne_of_none e nd
  rw [k b h1, upd_ne h1, upd_ne h2]
  exact e

/-! ### held -/
abbrev s_held : Stmt := topS 20
theorem sc_held : FnScope ["cars", "car", "steps", "by"] ["cars", "car", "steps"] (defScope s_held) := ⟨rfl, rfl, rfl, by decide +kernel, rfl, by decide +kernel, by decide +kernel⟩
def spHeld (K : PySem.W.Frag) (CH : Addr) : Sp := fun vs H Q _ => ∃ (a : Addr) (n : Nat) (c : Nat → Int) (i t : Nat), vs = [.ref a, .int (i : Int), .int (t : Int)] ∧ SqL K H a (iL n c) ∧ Rising n c ∧ n ≤ 1000 ∧ i < n ∧
  ∀ H' x dx (b : Nat), Same H H' → H x = none → Hld n (lean c) t i b → H' x = some (.ins CH dx [("place", .int (stt n c t i)), ("by", .int (b : Int))]) → Q (.ref x) H'
theorem cal_held {f CH : Addr} {fd : FuncData} (F : Fun K "held" "held" s_held f fd) (g : mg "held" = some (.ref f)) (B : Blt mg) (c_asked_cars : Cal P w K mg base 2 "asked_cars" (spAskedCars K)) (c_asked_car : Cal P w K mg base 2 "asked_car" (spAskedCar K)) (c_asked_steps : Cal P w K mg base 2 "asked_steps" spAskedSteps)
    (c_holders : Cal P w K mg base 2 "holders" (spHolders K)) (m_Held : Mak P w K mg base 1 "Held" CH (spInitHeldC CH)) : Cal P w K mg base 3 "held" (spHeld K CH) := by
  refine ⟨f, fd, ["cars", "car", "steps"], F.ok sc_held (fun vs H Q E h => ?_) (fun cdv A outer s H vs Q E hr h => ?_), g, F.kp, F.binds fun _ _ _ _ _ _ us hl => match us, hl with | [_, _, _], _ => rfl⟩
  · obtain ⟨a, n, c, i, t, rfl, _⟩ := h
    rfl
  · obtain ⟨a, n, c, i, t, rfl, hS, hR, hn, hi, q⟩ := h
    refine ⟨_, (pss_cons (ps_expr (pe_c c_asked_cars hr (by decide) (by rfl) (pa_cons (pv 0) pa_nil))) (pss_cons (ps_expr (pe_c c_asked_car hr (by decide) (by rfl) (pa_cons (pv 0) (pa_cons (pv 1) (pa_cons pe_int pa_nil))))) (pss_cons (ps_expr (pe_c c_asked_steps hr (by decide) (by rfl) (pa_cons (pv 2) pa_nil))) (pss_cons (ps_set (i := 3) sc_held.nd rfl (Or.inl rfl) (pe_ix (ixlK K) (pe_c c_holders hr (by decide) (by rfl) (pa_cons (pv 0) (pa_cons (pv 2) pa_nil))) (pv 1) (fun _ _ => rfl))) (pss_one (ps_ret (pe_mk m_Held hr (by decide) (by rfl) (pa_cons (pe_op op_sub (pe_op op_add (pe_ix (ixlK K) (pv 0) (pv 3) (fun _ _ => rfl)) (pv 2)) (pe_op op_mul pe_int (pe_op op_sub (pv 3) (pv 1)))) (pa_cons (pv 3) pa_nil))))))))), ?_⟩
    refine ⟨_, rfl, a, n, c, rfl, hS, hR, hn, fun H1 s1 => ?_⟩
    refine ⟨_, rfl, _, rfl, a, n, c, (i : Int), 0, rfl, s1.seq hS, by omega, by omega, ?_⟩
    refine ⟨_, rfl, (t : Int), rfl, by omega, ?_⟩
    refine ⟨_, rfl, _, rfl, a, n, c, t, rfl, s1.seq hS, hn, fun H2 p b s2 np ep hb => ?_⟩
    refine ⟨_, rfl, p, _, _, _, rfl, rfl, SqL.of ep, iL_at (i := i) rfl hi, ?_⟩
    have hS2 := s2.seq (s1.seq hS)
    have hbi := hb i hi
    refine ⟨_, rfl, _, rfl, _, _, _, _, rfl, rfl, hS2, iL_at (i := b i) rfl hbi.2.2.1, _, rfl, _, _, rfl, rfl, _, rfl, _, rfl, _, _, rfl, rfl, _, _, rfl, rfl, .inl ⟨by decide, by decide⟩, _, _, rfl, rfl, _, rfl, ?_⟩
    intro x dx nx nd ne
    refine ⟨x, dx, _, _, rfl, upd_same, fun H3 k3 e3 => ⟨rfl, q H3 x dx (b i) ((s1.trans s2).trans (same_made nx nd k3)) ((s1.trans s2).free nx) hbi ?_⟩⟩
    rw [← hbi.place hR]
    exact e3
end
end JR

namespace JR
open PySem PySem.Spec PyProof.Rows L2
section
variable {P : Program} {w : World} {K : PySem.W.Frag} {mg : Str → Option Value} {base : Heap}
theorem dec_V (u v : Int) : decide (V.int u = V.int v) = decide (u = v) := by
  by_cases e : u = v
  · subst e; simp
  · rw [decide_eq_false e, decide_eq_false fun z => e (V.int.inj z)]

/-! ### Held.shows -/
/-- the last car that may hold car i up -/
def lastI (n i t : Nat) : Int := if (i : Int) + (t : Int) < (n : Int) - 1 then (i : Int) + (t : Int) else (n : Int) - 1
def heldB (n : Nat) (c : Nat → Int) (i t : Nat) (p b : Int) : Bool := decide ((i : Int) ≤ b) && (decide (b ≤ lastI n i t) && (decide (c b.toNat + (t : Int) - 2 * (b - (i : Int)) = p) && decide (stt n c t i = p)))
abbrev s_Held_shows : Stmt := inClass (topS 16) 1
theorem sc_Held_shows : FnScope ["self", "cars", "car", "steps", "last", "lets", "one"] ["self", "cars", "car", "steps"] (defScope s_Held_shows) := ⟨rfl, rfl, rfl, by decide +kernel, rfl, by decide +kernel, by decide +kernel⟩
def spShowsHeld (K : PySem.W.Frag) (CH : Addr) : Sp := fun vs H Q _ => ∃ (x dx a : Addr) (n : Nat) (c : Nat → Int) (i t : Nat) (p b : Int), vs = [.ref x, .ref a, .int (i : Int), .int (t : Int)] ∧ H x = some (.ins CH dx [("place", .int p), ("by", .int b)]) ∧ SqL K H a (iL n c) ∧ Rising n c ∧ n ≤ 1000 ∧ i < n ∧
  ∀ H', Same H H' → Q (.bl (heldB n c i t p b)) H'
theorem met_Held_shows {f CH : Addr} {fd : FuncData} (F : Fun K "shows" "Held.shows" s_Held_shows f fd) (M : Meth K CH "shows" f) (B : Blt mg) (A0 : AnsC K CH) (np : NoAttr K CH "place") (nb : NoAttr K CH "by") : Met P w K mg base 1 CH "shows" (spShowsHeld K CH) := by
  refine ⟨f, fd, ["self", "cars", "car", "steps"], A0.cl, M, F.ok sc_Held_shows (fun vs H Q E h => ?_) (fun cdv A outer s H vs Q E hr h => ?_), F.binds fun _ _ _ _ _ _ us hl => match us, hl with | [_, _, _, _], _ => rfl⟩
  · obtain ⟨x, dx, a, n, c, i, t, p, b, rfl, _⟩ := h
    rfl
  · obtain ⟨x, dx, a, n, c, i, t, p, b, rfl, hx, hS, hR, hn, hi, q⟩ := h
    refine ⟨_, (pss_cons (ps_set (i := 4) sc_Held_shows.nd rfl (Or.inl rfl) (pe_callB (call_min2 rfl) (by rfl) B.min bt_min (pa_cons (pe_op op_sub (pe_callB (lenK K) (by rfl) B.len bt_len (pa_cons (pv 1) pa_nil)) pe_int) (pa_cons (pe_op op_add (pv 2) (pv 3)) pa_nil)))) (pss_cons (ps_if (pt_not (pt_chain op_le op_le (pv 2) (pe_fld (pv 0) rfl) (pv 4))) (pss_one (ps_ret pe_bl)) pss_nil) (pss_cons (ps_setLc (i := 5) (own := [("one", 6)]) (g := gName 6) (tt := tYes) rfl sc_Held_shows.nd rfl rfl (sw_true rfl rfl rfl (by decide +kernel)) (pi_range2 rfl B.range (pa_cons (pv 2) (pa_cons (pe_op op_add (pv 4) pe_int) pa_nil))) (blkOk_by (own := [("one", 6)]) (N := ["self", "cars", "car", "steps", "last", "lets", "one"]) (sc := defScope s_Held_shows) (by decide +kernel)) (fun _ _ _ _ _ => (pg_name (i := 6) sc_Held_shows.nd rfl (Or.inl rfl))) (fun _ _ _ _ _ => pts_nil) (fun _ _ _ _ _ => (pe_op op_sub (pe_op op_add (pe_ix (ixlK K) (pv 1) (pv 6) (fun _ _ => rfl)) (pv 3)) (pe_op op_mul pe_int (pe_op op_sub (pv 6) (pv 2)))))) (pss_one (ps_ret (pe_and (pe_cmpR op_eq (pe_ix (ixlK K) (pv 5) (pe_op op_sub (pe_fld (pv 0) rfl) (pv 2)) (fun _ _ => rfl)) (pe_fld (pv 0) rfl) rfl) (pe_one (pe_cmpR op_eq (pe_callB (minK K rfl) (by rfl) B.min bt_min (pa_cons (pv 5) pa_nil)) (pe_fld (pv 0) rfl) rfl)))))))), ?_⟩
    -- last
    refine ⟨_, rfl, a, _, rfl, .inl hS, _, _, rfl, rfl, _, rfl, _, rfl, _, _, rfl, rfl, _, _, rfl, ?_⟩
    have els : (if (i : Int) + (t : Int) < ((iL n c).length : Int) - 1 then (i : Int) + (t : Int) else ((iL n c).length : Int) - 1) = lastI n i t := by rw [iL_len]; rfl
    have hls : (i : Int) ≤ lastI n i t ∧ lastI n i t ≤ (n : Int) - 1 ∧ lastI n i t ≤ (i : Int) + (t : Int) ∧ (lastI n i t = (i : Int) + (t : Int) ∨ lastI n i t = (n : Int) - 1) := by
      unfold lastI
      split <;> omega
    -- not car <= self.by <= last
    refine ⟨_, rfl, _, rfl, x, CH, dx, _, _, rfl, hx, A0.cl, nb, rfl, _, _, rfl, rfl, _, rfl, ite2 (fun e => ?_) (fun e => ?_)⟩
    · have h1 := of_decide_eq_true e
      refine ⟨_, rfl, _, _, rfl, rfl, _, rfl, ?_⟩
      refine ite2 (fun e2 => ?_) (fun e2 => ?_)
      · have h2 : ¬ b ≤ lastI n i t := by
          intro z
          rw [els, decide_eq_true z] at e2
          exact absurd e2 (by decide)
        have := q _ (Same.refl _)
        unfold heldB at this
        rw [decide_eq_false h2, Bool.false_and, Bool.and_false] at this
        exact this
      · have h2 : b ≤ lastI n i t := by
          cases z : decide (b ≤ lastI n i t) with
          | true => exact of_decide_eq_true z
          | false =>
            rw [els, z] at e2
            exact absurd rfl e2
        obtain ⟨bn, hbn⟩ : ∃ bn : Nat, b = (bn : Int) := ⟨b.toNat, by omega⟩
        subst hbn
        -- lets
        let lf : Nat → Int := fun k => c (i + k) + (t : Int) - 2 * ((i : Int) + (k : Nat) - (i : Int))
        let m := (lastI n i t + 1 - (i : Int)).toNat
        refine ⟨_, rfl, _, rfl, _, _, rfl, rfl, (i : Int), lastI n i t + 1, by rw [els], by omega, fun D nD => lc_fun (walk_range (lo := (i : Int)) (n := m)) (fun k => V.int (lf k)) (by omega) nD (fun _ _ => trivial) (fun k z H2 H3 hk sm y Q' R' q' => ?_) (fun H2 s2 e3 => ?_)⟩
        · obtain ⟨rfl, rfl⟩ := y
          have hk' : i + k < n := by omega
          refine ⟨rfl, ?_⟩
          exact ⟨_, rfl, _, rfl, _, _, _, _, rfl, rfl, sm.seq hS, iL_at (i := i + k) (by omega) hk', _, rfl, _, _, rfl, rfl, _, rfl, _, rfl, _, _, rfl, rfl, _, _, rfl, rfl, .inl ⟨by decide, by decide⟩, _, _, rfl, rfl, q' _ (Same.refl _)⟩
        · have e3' : H2 D = some (.lst (iL m lf)) := e3
          have hx2 := s2 _ _ hx
          have hm0 : bn - i < m := by omega
          -- lets[self.by - car] == self.place
          refine ⟨_, rfl, _, rfl, x, CH, dx, _, _, rfl, hx2, A0.cl, nb, rfl, _, rfl, _, _, rfl, rfl, _, _, _, _, rfl, rfl, SqL.of e3', iL_at (i := bn - i) (by omega) hm0, _, rfl, x, CH, dx, _, _, rfl, hx2, A0.cl, np, rfl, rfl, _, rfl, ?_⟩
          have el : lf (bn - i) = c (Int.toNat (bn : Int)) + (t : Int) - 2 * ((bn : Int) - (i : Int)) := by
            show c (i + (bn - i)) + (t : Int) - 2 * ((i : Int) + ((bn - i : Nat) : Int) - (i : Int)) = _
            rw [show (i : Int) + ((bn - i : Nat) : Int) - (i : Int) = (bn : Int) - (i : Int) by omega, show i + (bn - i) = bn by omega, Int.toNat_natCast]
          have qq := q _ s2
          unfold heldB at qq
          rw [decide_eq_true h1, decide_eq_true h2, Bool.true_and, Bool.true_and, ← el, ← dec_V (lf (bn - i)) p] at qq
          refine ite2 (fun e4 => ?_) (fun e4 => ?_)
          · rw [e4, Bool.true_and] at qq
            -- min(lets) == self.place
            refine ⟨_, rfl, D, toInts m lf, rfl, by rw [← iL_toInts]; exact SqL.of e3', by rw [toInts_len]; omega, fun mn hmem hle => ?_⟩
            refine ⟨_, rfl, x, CH, dx, _, _, rfl, hx2, A0.cl, np, rfl, rfl, ?_⟩
            obtain ⟨k, hk, ek⟩ := List.mem_map.mp hmem
            have hk := List.mem_range.mp hk
            have isM : IsMin n (lean c) i t (mn - t - 2 * (i : Int)) := by
              refine ⟨⟨i + k, by omega, by omega, by omega, ?_⟩, fun j j1 j2 j3 => ?_⟩
              · have : c (i + k) + (t : Int) - 2 * ((i : Int) + (k : Nat) - (i : Int)) = mn := ek
                show c (i + k) - 2 * ((i + k : Nat) : Int) = _
                omega
              · have := hle (lf (j - i)) (List.mem_map.mpr ⟨j - i, List.mem_range.mpr (by omega), rfl⟩)
                have e6 : lf (j - i) = c j + (t : Int) - 2 * ((j : Int) - (i : Int)) := by
                  show c (i + (j - i)) + (t : Int) - 2 * ((i : Int) + ((j - i : Nat) : Int) - (i : Int)) = _
                  rw [show i + (j - i) = j by omega, show (i : Int) + ((j - i : Nat) : Int) - (i : Int) = (j : Int) - (i : Int) by omega]
                have e7 : lean c j = c j - 2 * (j : Int) := rfl
                omega
            have e8 := (isMin_stt hR t i hi).eq isM
            have e9 : stt n c t i = mn := by omega
            rw [dec_V, ← e9]
            exact qq
          · have e5 : decide (V.int (lf (bn - i)) = V.int p) = false := by
              cases z : decide (V.int (lf (bn - i)) = V.int p) with
              | true => exact absurd z e4
              | false => rfl
            rw [e5, Bool.false_and] at qq
            exact qq
    · have h1 : ¬ (i : Int) ≤ b := fun z => e (decide_eq_true z)
      have := q _ (Same.refl _)
      unfold heldB at this
      rw [decide_eq_false h1, Bool.false_and] at this
      exact ⟨_, rfl, this⟩

/-! ### Touch.shows -/
def touchB (n : Nat) (c : Nat → Int) (i : Nat) (z : Int) : Bool := decide (0 ≤ z) && decide (gap n c i z.toNat = 1)
abbrev s_Touch_shows : Stmt := inClass (topS 17) 1
theorem sc_Touch_shows : FnScope ["self", "cars", "car", "found"] ["self", "cars", "car"] (defScope s_Touch_shows) := ⟨rfl, rfl, rfl, by decide +kernel, rfl, by decide +kernel, by decide +kernel⟩
def spShowsTouch (K : PySem.W.Frag) (CT : Addr) : Sp := fun vs H Q _ => ∃ (x dx a : Addr) (n : Nat) (c : Nat → Int) (i : Nat) (z : Int), vs = [.ref x, .ref a, .int (i : Int)] ∧ H x = some (.ins CT dx [("steps", .int z)]) ∧ SqL K H a (iL n c) ∧ Rising n c ∧ n ≤ 1000 ∧ i + 1 < n ∧
  ∀ H', Same H H' → Q (.bl (touchB n c i z)) H'
theorem met_Touch_shows {f CT : Addr} {fd : FuncData} (F : Fun K "shows" "Touch.shows" s_Touch_shows f fd) (M : Meth K CT "shows" f) (B : Blt mg) (A0 : AnsC K CT) (np : NoAttr K CT "steps") (c_after : Cal P w K mg base 3 "after" (spAfter K)) : Met P w K mg base 4 CT "shows" (spShowsTouch K CT) := by
  refine ⟨f, fd, ["self", "cars", "car"], A0.cl, M, F.ok sc_Touch_shows (fun vs H Q E h => ?_) (fun cdv A outer s H vs Q E hr h => ?_), F.binds fun _ _ _ _ _ _ us hl => match us, hl with | [_, _, _], _ => rfl⟩
  · obtain ⟨x, dx, a, n, c, i, z, rfl, _⟩ := h
    rfl
  · obtain ⟨x, dx, a, n, c, i, z, rfl, hx, hS, hR, hn, hi, q⟩ := h
    refine ⟨_, (pss_cons (ps_if (pt_cmpR op_lt (pe_fld (pv 0) rfl) pe_int rfl) (pss_one (ps_ret pe_bl)) pss_nil) (pss_cons (ps_set (i := 3) sc_Touch_shows.nd rfl (Or.inl rfl) (pe_c c_after hr (by decide) (by rfl) (pa_cons (pv 1) (pa_cons (pe_fld (pv 0) rfl) pa_nil)))) (pss_one (ps_ret (pe_cmpR op_eq (pe_ix (ixlK K) (pv 3) (pe_op op_add (pv 2) pe_int) (fun _ _ => rfl)) (pe_op op_add (pe_ix (ixlK K) (pv 3) (pv 2) (fun _ _ => rfl)) pe_int) rfl))))), ?_⟩
    refine ⟨_, rfl, x, CT, dx, _, _, rfl, hx, A0.cl, np, rfl, _, _, rfl, rfl, _, rfl, ite2 (fun e => ?_) (fun e => ?_)⟩
    · have h1 : ¬ 0 ≤ z := by
        have := of_decide_eq_true e
        omega
      have := q _ (Same.refl _)
      unfold touchB at this
      rw [decide_eq_false h1, Bool.false_and] at this
      exact this
    · have h1 : 0 ≤ z := by
        have : ¬ z < 0 := fun y => e (decide_eq_true y)
        omega
      obtain ⟨t, ht⟩ : ∃ t : Nat, z = (t : Int) := ⟨z.toNat, by omega⟩
      subst ht
      refine ⟨_, rfl, _, rfl, x, CT, dx, _, _, rfl, hx, A0.cl, np, rfl, a, n, c, t, rfl, hS, hR, hn, fun H1 p s1 n1 e1 => ?_⟩
      refine ⟨_, rfl, _, rfl, _, _, rfl, rfl, _, _, _, _, rfl, rfl, SqL.of e1, iL_at (i := i + 1) (by omega) hi, _, rfl, _, rfl, _, _, _, _, rfl, rfl, SqL.of e1, iL_at (i := i) rfl (by omega), _, _, rfl, rfl, rfl, ?_⟩
      have := q _ s1
      unfold touchB at this
      rw [decide_eq_true h1, Bool.true_and, Int.toNat_natCast] at this
      rw [dec_V]
      have e2 : decide (stt n c t (i + 1) = stt n c t i + 1) = decide (gap n c i t = 1) := by
        unfold gap
        by_cases y : stt n c t (i + 1) = stt n c t i + 1
        · rw [decide_eq_true y, decide_eq_true (by omega)]
        · rw [decide_eq_false y, decide_eq_false (by omega)]
      rw [e2]
      exact this

/-! ### Clear.shows -/
def clearB (n : Nat) (c : Nat → Int) (i : Nat) (g : Int) : Bool := decide (dly n c i = 0) && (decide (1 < g) && decide (c (i + 1) - c i - dly n c (i + 1) = g))
abbrev s_Clear_shows : Stmt := inClass (topS 18) 1
theorem sc_Clear_shows : FnScope ["self", "cars", "car", "told"] ["self", "cars", "car"] (defScope s_Clear_shows) := ⟨rfl, rfl, rfl, by decide +kernel, rfl, by decide +kernel, by decide +kernel⟩
def spShowsClear (K : PySem.W.Frag) (CC : Addr) : Sp := fun vs H Q _ => ∃ (x dx a : Addr) (n : Nat) (c : Nat → Int) (i : Nat) (g : Int), vs = [.ref x, .ref a, .int (i : Int)] ∧ H x = some (.ins CC dx [("gap", .int g)]) ∧ SqL K H a (iL n c) ∧ Rising n c ∧ n ≤ 1000 ∧ i + 1 < n ∧
  ∀ H', Same H H' → Q (.bl (clearB n c i g)) H'
theorem met_Clear_shows {f CC : Addr} {fd : FuncData} (F : Fun K "shows" "Clear.shows" s_Clear_shows f fd) (M : Meth K CC "shows" f) (B : Blt mg) (A0 : AnsC K CC) (np : NoAttr K CC "gap") (c_delays : Cal P w K mg base 3 "delays" (spDelays K)) : Met P w K mg base 4 CC "shows" (spShowsClear K CC) := by
  refine ⟨f, fd, ["self", "cars", "car"], A0.cl, M, F.ok sc_Clear_shows (fun vs H Q E h => ?_) (fun cdv A outer s H vs Q E hr h => ?_), F.binds fun _ _ _ _ _ _ us hl => match us, hl with | [_, _, _], _ => rfl⟩
  · obtain ⟨x, dx, a, n, c, i, g, rfl, _⟩ := h
    rfl
  · obtain ⟨x, dx, a, n, c, i, g, rfl, hx, hS, hR, hn, hi, q⟩ := h
    refine ⟨_, (pss_cons (ps_set (i := 3) sc_Clear_shows.nd rfl (Or.inl rfl) (pe_c c_delays hr (by decide) (by rfl) (pa_cons (pv 1) pa_nil))) (pss_one (ps_ret (pe_and (pe_cmpR op_eq (pe_ix (ixlK K) (pv 3) (pv 2) (fun _ _ => rfl)) pe_int rfl) (pe_and (pe_cmpR op_gt (pe_fld (pv 0) rfl) pe_int rfl) (pe_one (pe_cmpR op_eq (pe_op op_sub (pe_op op_sub (pe_ix (ixlK K) (pv 1) (pe_op op_add (pv 2) pe_int) (fun _ _ => rfl)) (pe_ix (ixlK K) (pv 1) (pv 2) (fun _ _ => rfl))) (pe_ix (ixlK K) (pv 3) (pe_op op_add (pv 2) pe_int) (fun _ _ => rfl))) (pe_fld (pv 0) rfl) rfl))))))), ?_⟩
    refine ⟨_, rfl, a, n, c, rfl, hS, hR, hn, fun H1 td s1 n1 e1 => ?_⟩
    have qq := q _ s1
    unfold clearB at qq
    refine ⟨_, rfl, _, rfl, _, _, _, _, rfl, rfl, SqL.of e1, iL_at (i := i) rfl (by omega), rfl, _, rfl, ?_⟩
    rw [← dec_V (dly n c i) 0] at qq
    refine ite2 (fun e => ?_) (fun e => ?_)
    · rw [e, Bool.true_and] at qq
      refine ⟨_, rfl, x, CC, dx, _, _, rfl, s1 _ _ hx, A0.cl, np, rfl, _, _, rfl, rfl, _, rfl, ?_⟩
      refine ite2 (fun e2 => ?_) (fun e2 => ?_)
      · have e2 : decide (1 < g) = true := e2
        rw [e2, Bool.true_and] at qq
        have hS1 := s1.seq hS
        refine ⟨_, rfl, _, rfl, _, _, rfl, rfl, _, _, _, _, rfl, rfl, hS1, iL_at (i := i + 1) (by omega) hi, _, rfl, _, rfl, _, _, _, _, rfl, rfl, hS1, iL_at (i := i) rfl (by omega), _, _, rfl, rfl, _, rfl, _, rfl, _, _, rfl, rfl, _, _, _, _, rfl, rfl, SqL.of e1, iL_at (i := i + 1) (by omega) hi, _, _, rfl, rfl, _, rfl, x, CC, dx, _, _, rfl, s1 _ _ hx, A0.cl, np, rfl, rfl, ?_⟩
        rw [dec_V]
        exact qq
      · have e2 : decide (1 < g) = false := by
          cases y : decide (1 < g) with
          | true => exact absurd y e2
          | false => rfl
        rw [e2, Bool.false_and] at qq
        exact qq
    · have e2 : decide (V.int (dly n c i) = V.int 0) = false := by
        cases y : decide (V.int (dly n c i) = V.int 0) with
        | true => exact absurd y e
        | false => rfl
      rw [e2, Bool.false_and] at qq
      exact qq

end
end JR

namespace JR
open PySem PySem.Spec PyProof.Rows L2
section
variable {P : Program} {w : World} {K : PySem.W.Frag} {mg : Str → Option Value} {base : Heap}
/-! ### the ways: the cars at their start and after each step -/
def wL (n : Nat) (A : Nat → Addr) : List V := (List.range (n + 1)).map fun k => V.ref (A k)
theorem wL_len (n : Nat) (A : Nat → Addr) : (wL n A).length = n + 1 := by unfold wL; rw [List.length_map, List.length_range]
theorem wL_get {n : Nat} {A : Nat → Addr} {i : Nat} (h : i ≤ n) : (wL n A)[i]? = some (.ref (A i)) := by
  unfold wL
  rw [List.getElem?_map, List.getElem?_range (by omega)]
  rfl
theorem wL_at {n : Nat} {A : Nat → Addr} {i : Nat} {z : Int} (e : z = (i : Int)) (h : i ≤ n) : atI (wL n A) z = some (.ref (A i)) := at_of e (wL_get h)
theorem wL_last (n : Nat) (A : Nat → Addr) : atI (wL n A) (-1) = some (.ref (A n)) := by
  unfold wL
  rw [List.range_succ, List.map_append]
  exact atI_last _ _
/-- for .. in range(len(cars)): ways.append(_law_step(ways[-1])) -/
theorem ways_for {ic iw is n : Nat} {c : Nat → Int} {D : Ends} {σ : L2.St} {H H0 : Hp} {ca wy : Addr} (h1 : σ[ic]? = some (some (.ref ca))) (h2 : σ[iw]? = some (some (.ref wy))) (n1 : is ≠ ic) (n2 : is ≠ iw) (hσ : σ = σ.set is none)
    (hR : Rising n c) (hn : n ≤ 1000) (sm : Same H0 H) (nw : H0 wy = none) (ec : H0 ca = some (.lst (iL n c))) (ew : H wy = some (.lst [.ref ca]))
    (k : ∀ (A : Nat → Addr) (y : Option V) (H' : Hp), Same H0 H' → A 0 = ca → H' wy = some (.lst (wL n A)) → (∀ k, k ≤ n → H' (A k) = some (.lst (iL n (stt n c k)))) → D.nx (σ.set is y) H') :
    tFor (iRng1 (tCons (tCB (rLenK K) (tCons (tVar ic) tNil)) tNil)) (gName is) (tDrop (tBM K "list" rAppend (tVar iw) (tCons (tCall (spLawStep K) [] E0 (tCons (tOp (rIxL K) (tVar iw) (tUn (rU fun i => .int (-i)) (tC (.int 1)))) tNil)) tNil))) D σ H := by
  have gc : ∀ y, (σ.set is y)[ic]? = some (some (.ref ca)) := fun y => by rw [List.getElem?_set_ne n1]; exact h1
  have gw : ∀ y, (σ.set is y)[iw]? = some (some (.ref wy)) := fun y => by rw [List.getElem?_set_ne n2]; exact h2
  have nca : ca ≠ wy := ne_of_none ec nw
  refine ⟨_, h1, ca, iL n c, rfl, .inl (sm.seq (SqL.of ec)), (n : Int), by rw [iL_len], by omega, by omega,
    for_it (walk_range (lo := 0) (n := (n : Int).toNat)) (fun i σ' H' => ∃ (y : Option V) (A : Nat → Addr), σ' = σ.set is y ∧ Same H0 H' ∧ A 0 = ca ∧ H' wy = some (.lst (wL i A)) ∧ ∀ k, k ≤ i → H' (A k) = some (.lst (iL n (stt n c k))) ∧ A k ≠ wy)
      ⟨none, fun _ => ca, hσ, sm, rfl, ew, fun k hk => ?_⟩ (fun _ _ _ _ _ => trivial) (fun i x σ' H1 H2 hi pv y => ?_) (fun σ' H1 pv => ?_)⟩
  · have e : k = 0 := by omega
    subst e
    exact ⟨sm _ _ ec, nca⟩
  · obtain ⟨y0, A, rfl, s1, a0, w1, aw⟩ := pv
    obtain ⟨rfl, rfl⟩ := y
    have e1 := aw i (Nat.le_refl i)
    show tDrop _ _ ((σ.set is y0).set is _) H2
    rw [List.set_set]
    refine ⟨_, gw _, .inl ⟨rfl, _, SqL.of w1⟩, ?_⟩
    refine ⟨_, gw _, _, rfl, _, _, _, _, rfl, rfl, SqL.of w1, wL_last _ _, A i, n, stt n c i, rfl, SqL.of e1.1, hR.stt i, hn, fun H3 p s3 np ep => ?_⟩
    have w3 := s3 _ _ w1
    refine ⟨wy, _, _, rfl, rfl, w3, by rw [wL_len]; exact lt_line (by omega), ?_⟩
    have npw : p ≠ wy := (ne_of_none w1 np).symm
    refine ⟨_, fun k => if k = i + 1 then p else A k, rfl, same_mut (s1.trans s3) nw, ?_, ?_, fun k hk => ?_⟩
    · show (if 0 = i + 1 then p else A 0) = ca
      rw [if_neg (by omega)]
      exact a0
    · rw [upd_same]
      refine congrArg (fun z => some (HO.lst z)) ?_
      unfold wL
      rw [List.range_succ (n := i + 1), List.map_append]
      have ea : (List.range (i + 1)).map (fun k => V.ref (A k)) = (List.range (i + 1)).map fun k => V.ref (if k = i + 1 then p else A k) := List.map_congr_left fun k hk => by
        have := List.mem_range.mp hk
        rw [if_neg (by omega)]
      have eb : [V.ref p] = [i + 1].map fun k => V.ref (if k = i + 1 then p else A k) := by
        show [V.ref p] = [V.ref (if i + 1 = i + 1 then p else A (i + 1))]
        rw [if_pos rfl]
      rw [ea, eb]
    · show upd H3 wy _ (if k = i + 1 then p else A k) = _ ∧ (if k = i + 1 then p else A k) ≠ wy
      by_cases e : k = i + 1
      · subst e
        rw [if_pos rfl, upd_ne npw]
        exact ⟨ep, npw⟩
      · rw [if_neg e]
        have ak := aw k (by omega)
        rw [upd_ne ak.2]
        exact ⟨s3 _ _ ak.1, ak.2⟩
  · obtain ⟨y0, A, rfl, s1, a0, w1, aw⟩ := pv
    rw [show (n : Int).toNat = n by omega] at w1 aw
    exact k A y0 H1 s1 a0 w1 fun k hk => (aw k hk).1
end
end JR

namespace JR
open PySem PySem.Spec PyProof.Rows L2
/-- one statement for itself, then the others -/
theorem seq_cut {a b : TS} {D : Ends} {σ : L2.St} {H : Hp} (Post : L2.St → Hp → Prop) (h1 : ∀ D' : Ends, (∀ σ' H', Post σ' H' → D'.nx σ' H') → a D' σ H) (h2 : ∀ σ' H', Post σ' H' → b D σ' H') : tSeq a b D σ H := h1 _ h2
theorem dec_f {b : Bool} (h : ¬ b = true) : b = false := by
  cases b with
  | false => rfl
  | true => exact absurd rfl h
theorem heldB_due (n : Nat) (c : Nat → Int) (i t : Nat) (p b : Int) : heldB n c i t p b = ((decide ((i : Int) ≤ b) && (decide (b ≤ lastI n i t) && decide (p = stt n c t i))) && decide (c b.toNat + (t : Int) - 2 * (b - (i : Int)) = p)) := by
  unfold heldB
  rw [show decide (stt n c t i = p) = decide (p = stt n c t i) from by
    by_cases e : p = stt n c t i
    · rw [decide_eq_true e, decide_eq_true e.symm]
    · rw [decide_eq_false e, decide_eq_false fun z => e z.symm]]
  cases decide ((i : Int) ≤ b) <;> cases decide (b ≤ lastI n i t) <;> cases decide (p = stt n c t i) <;> cases decide (c b.toNat + (t : Int) - 2 * (b - (i : Int)) = p) <;> rfl
theorem touchB_due {n : Nat} {c : Nat → Int} {i : Nat} (r : Rising n c) (hi : i + 1 < n) (z : Int) : touchB n c i z = (decide (0 ≤ z) && decide (gap n c i (min z.toNat n) = 1)) := by
  unfold touchB
  by_cases h : z.toNat ≤ n
  · rw [Nat.min_eq_left h]
  · rw [Nat.min_eq_right (by omega)]
    have := gap_far r hi (z.toNat - n)
    rw [show n + (z.toNat - n) = z.toNat by omega] at this
    rw [this]
theorem ne_pairs {K : PySem.W.Frag} {H : Hp} {a b : Addr} {u v : Int} {Q : VK} (ha : SqT K H a [.int u, .int v]) (hb : SqT K H b [.int u, .int v]) (q : Q (.bl false) H) : rNeD K (.ref a) (.ref b) H Q := by
  refine ⟨.tuple [.int u, .int v], .tuple [.int u, .int v], .tup ha (.cons (.int _) (.cons (.int _) .nil)), .tup hb (.cons (.int _) (.cons (.int _) .nil)), rfl, rfl, ?_⟩
  have e : PyData.eqv (.tuple [.int u, .int v]) (.tuple [.int u, .int v]) = true := by simp [PyData.eqv, PyData.eqvAll]
  rw [e]
  exact q
/-- what the law's own two words know -/
structure KnW (n : Nat) (c : Nat → Int) (ca wy : Addr) (W : Nat → Addr) (H : Hp) : Prop where
  cars : H ca = some (.lst (iL n c))
  ways : H wy = some (.lst (wL n W))
  each : ∀ k, k ≤ n → H (W k) = some (.lst (iL n (stt n c k)))
theorem KnW.same {n : Nat} {c : Nat → Int} {ca wy : Addr} {W : Nat → Addr} {H H' : Hp} (k : KnW n c ca wy W H) (s : Same H H') : KnW n c ca wy W H' := ⟨s _ _ k.cars, s _ _ k.ways, fun j hj => s _ _ (k.each j hj)⟩
section
variable {P : Program} {w : World} {K : PySem.W.Frag} {mg : Str → Option Value} {base : Heap}
theorem walk_wL {a : Addr} {n : Nat} {W : Nat → Addr} : Walk (Itl K a) (n + 1) (fun H => SqL K H a (wL n W)) (fun i H x H' => H' = H ∧ x = .ref (W i)) := by
  have w := (walk_list (K := K) (a := a) (xs := wL n W)).mono (G' := fun H => SqL K H a (wL n W)) (Y' := fun i H x H' => H' = H ∧ x = .ref (W i)) (fun H h => h) (fun i H x H' hi _ y => by
    rw [wL_len] at hi
    have h2 := y.2
    rw [wL_get (show i ≤ n by omega)] at h2
    exact ⟨y.1, (Option.some.inj h2).symm⟩)
  rw [wL_len] at w
  exact w
theorem flat_iL (n : Nat) (d : Nat → Int) : (iL n d).all flatV = true := by
  refine List.all_eq_true.mpr fun x hx => ?_
  obtain ⟨i, _, e⟩ := List.mem_map.mp hx
  rw [← e]
  rfl
theorem in_iff {n : Nat} {d : Nat → Int} {z : Int} : inV (.int z) (iL n d) = true ↔ ∃ k, k < n ∧ d k = z := by
  constructor
  · intro h
    obtain ⟨x, hx, e⟩ := List.any_eq_true.mp h
    obtain ⟨k, hk, e2⟩ := List.mem_map.mp hx
    rw [← e2] at e
    have e : (d k == z) = true := e
    exact ⟨k, List.mem_range.mp hk, eq_of_beq e⟩
  · rintro ⟨k, hk, e⟩
    refine List.any_eq_true.mpr ⟨.int (d k), List.mem_map.mpr ⟨k, List.mem_range.mpr hk, rfl⟩, ?_⟩
    show (d k == z) = true
    rw [e]
    exact beq_self_eq_true z
/-! ### _law_says -/
abbrev s__law_says : Stmt := topS 24
theorem sc__law_says : FnScope ["_law_said", "_law_due"] ["_law_said", "_law_due"] (defScope s__law_says) := ⟨rfl, rfl, rfl, by decide +kernel, rfl, by decide +kernel, by decide +kernel⟩
def spLawSays : Sp := fun vs H Q _ => ∃ b : Bool, vs = [.bl b, .bl b] ∧ Q (.bl true) H
theorem cal__law_says {f : Addr} {fd : FuncData} (F : Fun K "_law_says" "_law_says" s__law_says f fd) (g : mg "_law_says" = some (.ref f)) (B : Blt mg) : Cal P w K mg base 1 "_law_says" spLawSays := by
  refine ⟨f, fd, ["_law_said", "_law_due"], F.ok sc__law_says (fun vs H Q E h => ?_) (fun cdv A outer s H vs Q E hr h => ?_), g, F.kp, F.binds fun _ _ _ _ _ _ us hl => match us, hl with | [_, _], _ => rfl⟩
  · obtain ⟨b, rfl, _⟩ := h
    rfl
  · obtain ⟨b, rfl, q⟩ := h
    refine ⟨_, (pss_one (ps_ret (pe_and (pe_callB (isiK K) (by rfl) B.isinstance bt_isinstance (pa_cons (pv 0) (pa_cons (pe_ty (by rfl) B.bool bt_bool) pa_nil))) (pe_one (pe_cmpR op_eq (pv 0) (pv 1) rfl))))), ?_⟩
    refine ⟨_, rfl, _, .ty "bool", .type "bool", .type "bool", true, rfl, .ty _, .base (.bl _), kit_ty (by decide +kernel), true, rfl, ?_⟩
    refine ⟨_, rfl, _, rfl, rfl, ?_⟩
    rw [decide_eq_true rfl]
    exact q
/-! ### _law_held_right -/
abbrev s__law_held_right : Stmt := topS 25
theorem sc__law_held_right : FnScope ["_law_cars_here", "_law_ways", "_law_cell", "_law_car", "_law_steps", "_law_told", "_law_by", "_law_place", "_law_due", "_law_answer"] ["_law_cars_here", "_law_ways", "_law_cell"] (defScope s__law_held_right) := ⟨rfl, rfl, rfl, by decide +kernel, rfl, by decide +kernel, by decide +kernel⟩
def spRight (K : PySem.W.Frag) (m : Nat) : Sp := fun vs H Q _ => ∃ (ca wy : Addr) (z : Int) (n : Nat) (c : Nat → Int) (W : Nat → Addr), vs = [.ref ca, .ref wy, .int z] ∧ KnW n c ca wy W H ∧ Rising n c ∧ m < n ∧ n ≤ 1000 ∧ ∀ H', Same H H' → Q (.bl true) H'
theorem cal__law_held_right {f CH : Addr} {fd : FuncData} (A0 : AnsC K CH) (np : NoAttr K CH "place") (nb : NoAttr K CH "by") (F : Fun K "_law_held_right" "_law_held_right" s__law_held_right f fd) (g : mg "_law_held_right" = some (.ref f)) (B : Blt mg)
    (c_held : Cal P w K mg base 3 "held" (spHeld K CH)) (m_Held : Mak P w K mg base 1 "Held" CH (spInitHeldC CH)) (m_Held_shows : Met P w K mg base 1 CH "shows" (spShowsHeld K CH)) (c__law_says : Cal P w K mg base 1 "_law_says" spLawSays) : Cal P w K mg base 4 "_law_held_right" (spRight K 0) := by
  refine ⟨f, fd, ["_law_cars_here", "_law_ways", "_law_cell"], F.ok sc__law_held_right (fun vs H Q E h => ?_) (fun cdv A outer s H vs Q E hr h => ?_), g, F.kp, F.binds fun _ _ _ _ _ _ us hl => match us, hl with | [_, _, _], _ => rfl⟩
  · obtain ⟨ca, wy, z, n, c, W, rfl, _⟩ := h
    rfl
  · obtain ⟨ca, wy, z, n, c, W, rfl, kn, hR, n0, hn, q⟩ := h
    refine ⟨_, (pss_cons (ps_set (i := 3) sc__law_held_right.nd rfl (Or.inl rfl) (pe_op op_modN (pe_op op_fdivN (pv 2) pe_int) (pe_callB (lenK K) (by rfl) B.len bt_len (pa_cons (pv 0) pa_nil)))) (pss_cons (ps_set (i := 4) sc__law_held_right.nd rfl (Or.inl rfl) (pe_op op_modN (pe_op op_fdivN (pv 2) pe_int) (pe_op op_add (pe_callB (lenK K) (by rfl) B.len bt_len (pa_cons (pv 0) pa_nil)) pe_int))) (pss_cons (ps_set (i := 5) sc__law_held_right.nd rfl (Or.inl rfl) (pe_c c_held hr (by decide) (by rfl) (pa_cons (pv 0) (pa_cons (pv 3) (pa_cons (pv 4) pa_nil))))) (pss_cons (ps_for PassesOwn.never rfl (pi_list (pe_lst (pa_cons (pe_fld (pv 5) rfl) (pa_cons (pe_op op_sub (pe_op op_modN (pe_op op_fdivN (pv 2) pe_int) (pe_op op_add (pe_callB (lenK K) (by rfl) B.len bt_len (pa_cons (pv 0) pa_nil)) pe_int)) pe_int) (pa_cons (pv 3) pa_nil))))) (pg_name (i := 6) sc__law_held_right.nd rfl (Or.inl rfl)) (pss_one (ps_for PassesOwn.never rfl (pi_list (pe_lst (pa_cons (pe_fld (pv 5) rfl) (pa_cons (pe_op op_add (pe_fld (pv 5) rfl) pe_int) (pa_cons (pe_op op_sub (pe_fld (pv 5) rfl) pe_int) pa_nil))))) (pg_name (i := 7) sc__law_held_right.nd rfl (Or.inl rfl)) (pss_cons (ps_set (i := 8) sc__law_held_right.nd rfl (Or.inl rfl) (pe_and (pe_chain op_le op_le (pv 3) (pv 6) (pe_callB (call_min2 rfl) (by rfl) B.min bt_min (pa_cons (pe_op op_sub (pe_callB (lenK K) (by rfl) B.len bt_len (pa_cons (pv 0) pa_nil)) pe_int) (pa_cons (pe_op op_add (pv 3) (pv 4)) pa_nil)))) (pe_one (pe_cmpR op_eq (pv 7) (pe_ix (ixlK K) (pe_ix (ixlK K) (pv 1) (pv 4) (fun _ _ => rfl)) (pv 3) (fun _ _ => rfl)) rfl)))) (pss_cons (ps_set (i := 8) sc__law_held_right.nd rfl (Or.inl rfl) (pe_and (pv 8) (pe_one (pe_cmpR op_eq (pe_op op_sub (pe_op op_add (pe_ix (ixlK K) (pv 0) (pv 6) (fun _ _ => rfl)) (pv 4)) (pe_op op_mul pe_int (pe_op op_sub (pv 6) (pv 3)))) (pv 7) rfl)))) (pss_cons (ps_set (i := 9) sc__law_held_right.nd rfl (Or.inl rfl) (pe_mk m_Held hr (by decide) (by rfl) (pa_cons (pv 7) (pa_cons (pv 6) pa_nil)))) (pss_cons (ps_if (pt_cmpR (neK K hr.units) (pe_tup (pa_cons (pe_fld (pv 9) rfl) (pa_cons (pe_fld (pv 9) rfl) pa_nil))) (pe_tup (pa_cons (pv 7) (pa_cons (pv 6) pa_nil))) rfl) (pss_one (ps_ret pe_bl)) pss_nil) (pss_one (ps_if (pt_not (pt_val (pe_c c__law_says hr (by decide) (by rfl) (pa_cons (pe_mt m_Held_shows hr (by decide) (pv 9) (pa_cons (pv 0) (pa_cons (pv 3) (pa_cons (pv 4) pa_nil)))) (pa_cons (pv 8) pa_nil))))) (pss_one (ps_ret pe_bl)) pss_nil))))))))) (pss_one (ps_ret pe_bl)))))), ?_⟩
    obtain ⟨ci, hci, eci⟩ := fmod_rng (z.fdiv 3) n0
    have eci : (z.fdiv 3).fmod ((iL n c).length : Int) = (ci : Int) := by rw [iL_len]; exact eci
    obtain ⟨t, ht, et⟩ := fmod_rng (z.fdiv 7) (q := n + 1) (by omega)
    have et : (z.fdiv 7).fmod (((iL n c).length : Int) + 1) = (t : Int) := by rw [iL_len]; exact et
    -- car
    refine seq_cut (fun σ' H' => σ' = [some (.ref ca), some (.ref wy), some (.int z), some (.int (ci : Int)), none, none, none, none, none, none] ∧ H = H')
      (fun D' k => ⟨_, rfl, _, _, rfl, rfl, ⟨by decide, by decide⟩, _, rfl, ca, _, rfl, .inl (SqL.of kn.cars), _, _, rfl, rfl, (show ((iL n c).length : Int) ≠ 0 by rw [iL_len]; omega), k _ _ ⟨by rw [← eci]; rfl, rfl⟩⟩) (fun σ' H' e => ?_)
    obtain ⟨rfl, rfl⟩ := e
    -- steps
    refine seq_cut (fun σ' H' => σ' = [some (.ref ca), some (.ref wy), some (.int z), some (.int (ci : Int)), some (.int (t : Int)), none, none, none, none, none] ∧ H = H')
      (fun D' k => ⟨_, rfl, _, _, rfl, rfl, ⟨by decide, by decide⟩, _, rfl, ca, _, rfl, .inl (SqL.of kn.cars), _, _, rfl, rfl, _, _, rfl, rfl, (show ((iL n c).length : Int) + 1 ≠ 0 by omega), k _ _ ⟨by rw [← et]; rfl, rfl⟩⟩) (fun σ' H' e => ?_)
    obtain ⟨rfl, rfl⟩ := e
    -- told
    refine ⟨_, rfl, _, rfl, _, rfl, ca, n, c, ci, t, rfl, SqL.of kn.cars, hR, hn, hci, fun H1 x dx b s1 nx hb ex => ?_⟩
    have k1 := kn.same s1
    -- for by in [told.by, .., car]
    refine ⟨_, rfl, x, CH, dx, _, _, rfl, ex, A0.cl, nb, rfl, _, rfl, _, _, rfl, rfl, ⟨by decide, by decide⟩, _, rfl, ca, _, rfl, .inl (SqL.of k1.cars), _, _, rfl, rfl, _, _, rfl, rfl, (show ((iL n c).length : Int) + 2 ≠ 0 by omega), _, _, rfl, rfl, _, rfl, (show 3 ≤ sizeLine by decide), fun l1 nl1 => ?_⟩
    generalize hl1 : [V.int (b : Int), V.int ((z.fdiv 11).fmod (((iL n c).length : Int) + 2) - 1), V.int (ci : Int)] = bs
    have hbs : ∀ v, v ∈ bs → ∃ u : Int, v = .int u := by
      intro v hv
      rw [← hl1] at hv
      simp only [List.mem_cons, List.not_mem_nil, or_false] at hv
      rcases hv with e | e | e <;> exact ⟨_, e⟩
    have s2 := same_new (o := .lst bs) nl1
    have el1 : upd H1 l1 (.lst bs) l1 = some (.lst bs) := upd_same
    have k2 := k1.same s2
    have ex2 := s2 _ _ ex
    have s02 := s1.trans s2
    generalize upd H1 l1 (.lst bs) = H2 at s2 el1 k2 ex2 s02
    refine ⟨l1, rfl, ⟨_, SqL.of el1⟩, for_it (walk_list (xs := bs)) (fun j σ H' => ∃ y6 y7 y8 y9, σ = [some (.ref ca), some (.ref wy), some (.int z), some (.int (ci : Int)), some (.int (t : Int)), some (.ref x), y6, y7, y8, y9] ∧ Same H2 H')
      ⟨_, _, _, _, rfl, Same.refl _⟩ (fun j σ H' _ pv => ?_) (fun j v σ H3 H4 hj pv y => ?_) (fun σ H3 pv => ?_)⟩
    · obtain ⟨_, _, _, _, _, sm⟩ := pv
      exact SqL.of (sm _ _ el1)
    · obtain ⟨y6, y7, y8, y9, rfl, s3⟩ := pv
      obtain ⟨rfl, hx⟩ := y
      obtain ⟨bb, rfl⟩ := hbs v (List.mem_of_getElem? hx)
      have k3 := k2.same s3
      have ex3 := s3 _ _ ex2
      -- for place in [told.place, told.place + 1, told.place - 1]
      refine ⟨_, rfl, x, CH, dx, _, _, rfl, ex3, A0.cl, np, rfl, _, rfl, x, CH, dx, _, _, rfl, ex3, A0.cl, np, rfl, _, _, rfl, rfl, _, rfl, x, CH, dx, _, _, rfl, ex3, A0.cl, np, rfl, _, _, rfl, rfl, (show 3 ≤ sizeLine by decide), fun l2 nl2 => ?_⟩
      generalize hl2 : [V.int (stt n c t ci), V.int (stt n c t ci + 1), V.int (stt n c t ci - 1)] = ps
      have hps : ∀ v, v ∈ ps → ∃ u : Int, v = .int u := by
        intro v hv
        rw [← hl2] at hv
        simp only [List.mem_cons, List.not_mem_nil, or_false] at hv
        rcases hv with e | e | e <;> exact ⟨_, e⟩
      have s4 := same_new (o := .lst ps) nl2
      have el2 : upd H4 l2 (.lst ps) l2 = some (.lst ps) := upd_same
      have k4 := k3.same s4
      have s24 := s3.trans s4
      generalize upd H4 l2 (.lst ps) = H5 at s4 el2 k4 s24
      refine ⟨l2, rfl, ⟨_, SqL.of el2⟩, for_it (walk_list (xs := ps)) (fun j σ H' => ∃ y7 y8 y9, σ = [some (.ref ca), some (.ref wy), some (.int z), some (.int (ci : Int)), some (.int (t : Int)), some (.ref x), some (.int bb), y7, y8, y9] ∧ Same H5 H')
        ⟨_, _, _, rfl, Same.refl _⟩ (fun j σ H' _ pv => ?_) (fun j v σ H6 H7 hj pv y => ?_) (fun σ H6 pv => ?_)⟩
      · obtain ⟨_, _, _, _, sm⟩ := pv
        exact SqL.of (sm _ _ el2)
      · obtain ⟨y7, y8, y9, rfl, s5⟩ := pv
        obtain ⟨rfl, hx2⟩ := y
        obtain ⟨p, rfl⟩ := hps v (List.mem_of_getElem? hx2)
        have k5 := k4.same s5
        have els : (if (ci : Int) + (t : Int) < ((iL n c).length : Int) - 1 then (ci : Int) + (t : Int) else ((iL n c).length : Int) - 1) = lastI n ci t := by rw [iL_len]; rfl
        -- due
        refine seq_cut (fun σ' H' => σ' = [some (.ref ca), some (.ref wy), some (.int z), some (.int (ci : Int)), some (.int (t : Int)), some (.ref x), some (.int bb), some (.int p), some (.bl (decide ((ci : Int) ≤ bb) && (decide (bb ≤ lastI n ci t) && decide (p = stt n c t ci)))), y9] ∧ H7 = H')
          (fun D' k => ⟨_, rfl, _, rfl, _, _, rfl, rfl, _, rfl, ite2 (fun e => ?_) (fun e => ?_)⟩) (fun σ' H' e => ?_)
        · have e : decide ((ci : Int) ≤ bb) = true := e
          refine ⟨_, rfl, ca, _, rfl, .inl (SqL.of k5.cars), _, _, rfl, rfl, _, rfl, _, rfl, _, _, rfl, rfl, _, _, rfl, _, _, rfl, rfl, _, rfl, ?_⟩
          rw [els]
          refine ite2 (fun e2 => ?_) (fun e2 => ?_)
          · have e2 : decide (bb ≤ lastI n ci t) = true := e2
            refine ⟨_, rfl, _, rfl, _, rfl, _, _, _, _, rfl, rfl, SqL.of k5.ways, wL_at (i := t) rfl (by omega), _, rfl, _, _, _, _, rfl, rfl, SqL.of (k5.each t (by omega)), iL_at (i := ci) rfl hci, rfl, k _ _ ⟨?_, rfl⟩⟩
            rw [e, e2, Bool.true_and, Bool.true_and, ← dec_V]
            rfl
          · have e2 : decide (bb ≤ lastI n ci t) = false := dec_f e2
            refine k _ _ ⟨?_, rfl⟩
            rw [e2, Bool.false_and, Bool.and_false]
            rfl
        · have e : decide ((ci : Int) ≤ bb) = false := dec_f e
          refine ⟨_, rfl, k _ _ ⟨?_, rfl⟩⟩
          rw [e, Bool.false_and]
          rfl
        obtain ⟨rfl, rfl⟩ := e
        refine seq_cut (fun σ' H' => σ' = [some (.ref ca), some (.ref wy), some (.int z), some (.int (ci : Int)), some (.int (t : Int)), some (.ref x), some (.int bb), some (.int p), some (.bl (heldB n c ci t p bb)), y9] ∧ H7 = H')
          (fun D' k => ⟨_, rfl, _, rfl, ite2 (fun e => ?_) (fun e => ?_)⟩) (fun σ' H' e => ?_)
        · have e : (decide ((ci : Int) ≤ bb) && (decide (bb ≤ lastI n ci t) && decide (p = stt n c t ci))) = true := e
          have e1 := e
          rw [Bool.and_eq_true, Bool.and_eq_true, decide_eq_true_eq, decide_eq_true_eq, decide_eq_true_eq] at e1
          have hls : lastI n ci t ≤ (n : Int) - 1 := by
            unfold lastI
            split <;> omega
          obtain ⟨bn, hbn⟩ : ∃ bn : Nat, bb = (bn : Int) := ⟨bb.toNat, by omega⟩
          subst hbn
          refine ⟨_, rfl, _, rfl, _, _, _, _, rfl, rfl, SqL.of k5.cars, iL_at (i := bn) rfl (by omega), _, rfl, _, _, rfl, rfl, _, rfl, _, rfl, _, _, rfl, rfl, _, _, rfl, rfl, .inl ⟨by decide, by decide⟩, _, _, rfl, rfl, _, rfl, rfl, k _ _ ⟨?_, rfl⟩⟩
          rw [heldB_due, e, Bool.true_and, ← dec_V]
          rfl
        · have e : (decide ((ci : Int) ≤ bb) && (decide (bb ≤ lastI n ci t) && decide (p = stt n c t ci))) = false := dec_f e
          refine k _ _ ⟨?_, rfl⟩
          rw [heldB_due, e, Bool.false_and]
          rfl
        obtain ⟨rfl, rfl⟩ := e
        -- answer
        refine ⟨_, rfl, _, rfl, fun x2 dx2 nx2 nd2 ne2 => ⟨x2, dx2, _, _, rfl, upd_same, fun H8 k8 e8 => ⟨rfl, ?_⟩⟩⟩
        have s8 := same_made nx2 nd2 k8
        refine ⟨_, rfl, x2, CH, dx2, _, _, rfl, e8, A0.cl, np, rfl, _, rfl, x2, CH, dx2, _, _, rfl, e8, A0.cl, nb, rfl, (show 2 ≤ sizeLine by decide), fun p1 np1 => ⟨_, rfl, _, rfl, (show 2 ≤ sizeLine by decide), fun p2 np2 => ?_⟩⟩
        have s9 := same_new (o := .tup [.int p, .int bb]) np1
        have s10 := same_new (o := .tup [.int p, .int bb]) np2
        refine ne_pairs (SqT.of (s10 _ _ upd_same)) (SqT.of upd_same) ⟨_, rfl, ?_⟩
        have s810 := s9.trans s10
        have e10 := s810 _ _ e8
        have k10 := k5.same (s8.trans s810)
        refine ⟨_, rfl, x2, dx2, _, rfl, e10, rfl, _, rfl, _, rfl, _, rfl, x2, dx2, ca, n, c, ci, t, p, bb, rfl, e10, SqL.of k10.cars, hR, hn, hci, fun H11 s11 => ?_⟩
        refine ⟨_, rfl, _, rfl, _, rfl, ?_⟩
        exact ⟨_, _, _, rfl, s5.trans (s8.trans (s810.trans s11))⟩
      · obtain ⟨y7, y8, y9, rfl, s5⟩ := pv
        exact ⟨_, _, _, _, rfl, s24.trans s5⟩
    · obtain ⟨y6, y7, y8, y9, rfl, s3⟩ := pv
      exact q _ (s02.trans s3)
/-! ### _law_touch_right -/
abbrev s__law_touch_right : Stmt := topS 26
theorem sc__law_touch_right : FnScope ["_law_cars_here", "_law_ways", "_law_cell", "_law_car", "_law_gaps", "_law_now", "_law_steps", "_law_due", "_law_answer", "_law_gap"] ["_law_cars_here", "_law_ways", "_law_cell"] (defScope s__law_touch_right) := ⟨rfl, rfl, rfl, by decide +kernel, rfl, by decide +kernel, by decide +kernel⟩
theorem cal__law_touch_right {f CT CC : Addr} {fd : FuncData} (AT : AnsC K CT) (nt : NoAttr K CT "steps") (AC : AnsC K CC) (ng : NoAttr K CC "gap") (F : Fun K "_law_touch_right" "_law_touch_right" s__law_touch_right f fd) (g : mg "_law_touch_right" = some (.ref f)) (B : Blt mg)
    (m_Touch : Mak P w K mg base 1 "Touch" CT (spInit1 CT "steps")) (m_Touch_shows : Met P w K mg base 4 CT "shows" (spShowsTouch K CT)) (m_Clear : Mak P w K mg base 1 "Clear" CC (spInit1 CC "gap")) (m_Clear_shows : Met P w K mg base 4 CC "shows" (spShowsClear K CC)) (c__law_says : Cal P w K mg base 1 "_law_says" spLawSays) : Cal P w K mg base 5 "_law_touch_right" (spRight K 1) := by
  refine ⟨f, fd, ["_law_cars_here", "_law_ways", "_law_cell"], F.ok sc__law_touch_right (fun vs H Q E h => ?_) (fun cdv A outer s H vs Q E hr h => ?_), g, F.kp, F.binds fun _ _ _ _ _ _ us hl => match us, hl with | [_, _, _], _ => rfl⟩
  · obtain ⟨ca, wy, z, n, c, W, rfl, _⟩ := h
    rfl
  · obtain ⟨ca, wy, z, n, c, W, rfl, kn, hR, n0, hn, q⟩ := h
    refine ⟨_, (pss_cons (ps_set (i := 3) sc__law_touch_right.nd rfl (Or.inr rfl) (pe_op op_modN (pe_op op_fdivN (pv 2) pe_int) (pe_op op_sub (pe_callB (lenK K) (by rfl) B.len bt_len (pa_cons (pv 0) pa_nil)) pe_int))) (pss_cons (ps_setLc (i := 4) (own := [("_law_now", 5)]) (g := gName 5) (tt := tYes) rfl sc__law_touch_right.nd rfl rfl (sw_true rfl rfl rfl (by decide +kernel)) (pi_list (pv 1)) (blkOk_by (own := [("_law_now", 5)]) (N := ["_law_cars_here", "_law_ways", "_law_cell", "_law_car", "_law_gaps", "_law_now", "_law_steps", "_law_due", "_law_answer", "_law_gap"]) (sc := defScope s__law_touch_right) (by decide +kernel)) (fun _ _ _ _ _ => (pg_name (i := 5) sc__law_touch_right.nd rfl (Or.inl rfl))) (fun _ _ _ _ _ => pts_nil) (fun _ _ _ _ _ => (pe_op op_sub (pe_ix (ixlK K) (pv 5) (pe_op op_add (pv 3) pe_int) (fun _ _ => rfl)) (pe_ix (ixlK K) (pv 5) (pv 3) (fun _ _ => rfl))))) (pss_cons (ps_for PassesOwn.never rfl (pi_list (pe_lst (pa_cons (pe_op op_sub (pe_op op_modN (pe_op op_fdivN (pv 2) pe_int) (pe_op op_add (pe_callB (lenK K) (by rfl) B.len bt_len (pa_cons (pv 0) pa_nil)) pe_int)) pe_int) (pa_cons pe_int (pa_cons (pe_op op_add (pe_callB (lenK K) (by rfl) B.len bt_len (pa_cons (pv 0) pa_nil)) (pe_op op_modN (pv 2) (pe_op op_pow pe_int pe_int))) pa_nil))))) (pg_name (i := 6) sc__law_touch_right.nd rfl (Or.inl rfl)) (pss_cons (ps_set (i := 7) sc__law_touch_right.nd rfl (Or.inl rfl) (pe_and (pe_cmpR op_ge (pv 6) pe_int rfl) (pe_one (pe_cmpR op_eq (pe_ix (ixlK K) (pv 4) (pe_callB (call_min2 rfl) (by rfl) B.min bt_min (pa_cons (pe_callB (call_max2 rfl) (by rfl) B.max bt_max (pa_cons (pv 6) (pa_cons pe_int pa_nil))) (pa_cons (pe_callB (lenK K) (by rfl) B.len bt_len (pa_cons (pv 0) pa_nil)) pa_nil))) (fun _ _ => rfl)) pe_int rfl)))) (pss_cons (ps_set (i := 8) sc__law_touch_right.nd rfl (Or.inl rfl) (pe_mk m_Touch hr (by decide) (by rfl) (pa_cons (pv 6) pa_nil))) (pss_one (ps_if (PW.pt (pw_or (pt_cmpR op_ne (pe_fld (pv 8) rfl) (pv 6) rfl) (pw_or1 (pt_not (pt_val (pe_c c__law_says hr (by decide) (by rfl) (pa_cons (pe_or2 (pe_mt m_Touch_shows hr (by decide) (pv 8) (pa_cons (pv 0) (pa_cons (pv 3) pa_nil))) (pe_mt m_Clear_shows hr (by decide) (pv 8) (pa_cons (pv 0) (pa_cons (pv 3) pa_nil)))) (pa_cons (pv 7) pa_nil)))))))) (pss_one (ps_ret pe_bl)) pss_nil))))) (pss_cons (ps_for PassesOwn.never rfl (pi_list (pe_lst (pa_cons (pe_callB (minK K rfl) (by rfl) B.min bt_min (pa_cons (pv 4) pa_nil)) (pa_cons (pe_op op_add (pe_callB (minK K rfl) (by rfl) B.min bt_min (pa_cons (pv 4) pa_nil)) pe_int) (pa_cons (pe_ix (ixlK K) (pv 4) pe_int (fun _ _ => rfl)) (pa_cons pe_int (pa_cons pe_int pa_nil))))))) (pg_name (i := 9) sc__law_touch_right.nd rfl (Or.inl rfl)) (pss_cons (ps_set (i := 8) sc__law_touch_right.nd rfl (Or.inl rfl) (pe_mk m_Clear hr (by decide) (by rfl) (pa_cons (pv 9) pa_nil))) (pss_cons (ps_set (i := 7) sc__law_touch_right.nd rfl (Or.inl rfl) (pe_and (pe_cmpR (notInK K) pe_int (pv 4) rfl) (pe_one (pe_cmpR op_eq (pv 9) (pe_callB (minK K rfl) (by rfl) B.min bt_min (pa_cons (pv 4) pa_nil)) rfl)))) (pss_one (ps_if (PW.pt (pw_or (pt_cmpR op_ne (pe_fld (pv 8) rfl) (pv 9) rfl) (pw_or1 (pt_not (pt_val (pe_c c__law_says hr (by decide) (by rfl) (pa_cons (pe_or2 (pe_mt m_Touch_shows hr (by decide) (pv 8) (pa_cons (pv 0) (pa_cons (pv 3) pa_nil))) (pe_mt m_Clear_shows hr (by decide) (pv 8) (pa_cons (pv 0) (pa_cons (pv 3) pa_nil)))) (pa_cons (pv 7) pa_nil)))))))) (pss_one (ps_ret pe_bl)) pss_nil))))) (pss_one (ps_ret pe_bl)))))), ?_⟩
    obtain ⟨ci, hci, eci⟩ := fmod_rng (z.fdiv 5) (q := n - 1) (by omega)
    have eci : (z.fdiv 5).fmod (((iL n c).length : Int) - 1) = (ci : Int) := by
      rw [iL_len, ← eci]
      exact congrArg (z.fdiv 5).fmod (by omega)
    have hc1 : ci + 1 < n := by omega
    -- car
    refine seq_cut (fun σ' H' => σ' = [some (.ref ca), some (.ref wy), some (.int z), some (.int (ci : Int)), none, none, none, none, none, none] ∧ H = H')
      (fun D' k => ⟨_, rfl, _, _, rfl, rfl, ⟨by decide, by decide⟩, _, rfl, ca, _, rfl, .inl (SqL.of kn.cars), _, _, rfl, rfl, _, _, rfl, rfl, (show ((iL n c).length : Int) - 1 ≠ 0 by rw [iL_len]; omega), k _ _ ⟨by rw [← eci]; rfl, rfl⟩⟩) (fun σ' H' e => ?_)
    obtain ⟨rfl, rfl⟩ := e
    -- gaps
    refine ⟨_, rfl, wy, rfl, ⟨_, SqL.of kn.ways⟩, fun gp ngp => lc_fun (walk_wL (n := n) (W := W)) (fun k => V.int (gap n c ci k)) (by omega) ngp (fun H s => SqL.of (kn.same s).ways) (fun k x H8 H9 hk s y Q' R' q' => ?_) (fun H1 s1 e1 => ?_)⟩
    · obtain ⟨rfl, rfl⟩ := y
      have e := SqL.of (K := K) ((kn.same s).each k (by omega))
      exact ⟨rfl, _, rfl, _, rfl, _, _, rfl, rfl, _, _, _, _, rfl, rfl, e, iL_at (i := ci + 1) (by omega) hc1, _, rfl, _, rfl, _, _, _, _, rfl, rfl, e, iL_at (i := ci) rfl (by omega), _, _, rfl, rfl, q' _ (Same.refl _)⟩
    have e1 : H1 gp = some (.lst (iL (n + 1) (gap n c ci))) := e1
    have k1 := kn.same s1
    -- for steps in [.., 0, ..]
    refine ⟨_, rfl, _, _, rfl, rfl, ⟨by decide, by decide⟩, _, rfl, ca, _, rfl, .inl (SqL.of k1.cars), _, _, rfl, rfl, _, _, rfl, rfl, (show ((iL n c).length : Int) + 2 ≠ 0 by omega), _, _, rfl, rfl, _, rfl, ca, _, rfl, .inl (SqL.of k1.cars), _, rfl, _, _, rfl, rfl, ⟨by decide, by decide, by decide⟩, _, _, rfl, rfl, (show (10 ^ (9 : Int).toNat : Int) ≠ 0 by decide), _, _, rfl, rfl, (show 3 ≤ sizeLine by decide), fun l1 nl1 => ?_⟩
    generalize hl1 : [V.int ((z.fdiv 13).fmod (((iL n c).length : Int) + 2) - 1), V.int 0, V.int (((iL n c).length : Int) + z.fmod (10 ^ (9 : Int).toNat))] = ss
    have hss : ∀ v, v ∈ ss → ∃ u : Int, v = .int u := by
      intro v hv
      rw [← hl1] at hv
      simp only [List.mem_cons, List.not_mem_nil, or_false] at hv
      rcases hv with e | e | e <;> exact ⟨_, e⟩
    have s2 := same_new (o := .lst ss) nl1
    have el1 : upd H1 l1 (.lst ss) l1 = some (.lst ss) := upd_same
    have k2 := k1.same s2
    have e2 := s2 _ _ e1
    have s02 := s1.trans s2
    generalize upd H1 l1 (.lst ss) = H2 at s2 el1 k2 e2 s02
    refine ⟨l1, rfl, ⟨_, SqL.of el1⟩, for_it (walk_list (xs := ss)) (fun j σ H' => ∃ y6 y7 y8, σ = [some (.ref ca), some (.ref wy), some (.int z), some (.int (ci : Int)), some (.ref gp), none, y6, y7, y8, none] ∧ Same H2 H')
      ⟨_, _, _, rfl, Same.refl _⟩ (fun j σ H' _ pv => ?_) (fun j v σ H3 H4 hj pv y => ?_) (fun σ H3 pv => ?_)⟩
    · obtain ⟨_, _, _, _, sm⟩ := pv
      exact SqL.of (sm _ _ el1)
    · obtain ⟨y6, y7, y8, rfl, s3⟩ := pv
      obtain ⟨rfl, hx⟩ := y
      obtain ⟨m, rfl⟩ := hss v (List.mem_of_getElem? hx)
      have k3 := k2.same s3
      have e3 := s3 _ _ e2
      -- due
      refine seq_cut (fun σ' H' => σ' = [some (.ref ca), some (.ref wy), some (.int z), some (.int (ci : Int)), some (.ref gp), none, some (.int m), some (.bl (touchB n c ci m)), y8, none] ∧ H4 = H')
        (fun D' k => ⟨_, rfl, _, _, rfl, rfl, _, rfl, ite2 (fun e => ?_) (fun e => ?_)⟩) (fun σ' H' e => ?_)
      · have e : decide (0 ≤ m) = true := e
        have h0 := of_decide_eq_true e
        have emin : (if ((iL n c).length : Int) < (if 0 > m then 0 else m) then ((iL n c).length : Int) else (if 0 > m then 0 else m)) = ((min m.toNat n : Nat) : Int) := by
          rw [iL_len, if_neg (show ¬ (0 > m) by omega)]
          split <;> omega
        refine ⟨_, rfl, _, rfl, _, _, rfl, _, rfl, ca, _, rfl, .inl (SqL.of k3.cars), _, _, rfl, _, _, _, _, rfl, rfl, SqL.of e3, iL_at (i := min m.toNat n) emin (by omega), rfl, k _ _ ⟨?_, rfl⟩⟩
        rw [touchB_due hR hc1, e, Bool.true_and, ← dec_V]
        rfl
      · have e : decide (0 ≤ m) = false := dec_f e
        refine k _ _ ⟨?_, rfl⟩
        rw [touchB_due hR hc1, e, Bool.false_and]
        rfl
      obtain ⟨rfl, rfl⟩ := e
      -- answer
      refine ⟨_, rfl, fun x2 dx2 nx2 nd2 ne2 => ⟨x2, dx2, _, rfl, upd_same, fun H8 k8 e8 => ⟨rfl, ?_⟩⟩⟩
      have s8 := same_made nx2 nd2 k8
      have k8 := k3.same s8
      refine ⟨_, rfl, x2, CT, dx2, _, _, rfl, e8, AT.cl, nt, rfl, _, rfl, rfl, _, rfl, ?_⟩
      rw [decide_eq_true rfl]
      refine .inl ⟨_, rfl, x2, dx2, _, rfl, e8, rfl, _, rfl, _, rfl, x2, dx2, ca, n, c, ci, m, rfl, e8, SqL.of k8.cars, hR, hn, hc1, fun H11 s11 => ?_⟩
      refine ⟨_, rfl, _, rfl, _, rfl, ?_⟩
      exact ⟨_, _, _, rfl, s3.trans (s8.trans s11)⟩
    · obtain ⟨y6, y7, y8, rfl, s3⟩ := pv
      have k3 := k2.same s3
      have e3 := s3 _ _ e2
      have ei3 : SqL K H3 gp ((toInts (n + 1) (gap n c ci)).map V.int) := by rw [← iL_toInts]; exact SqL.of e3
      -- for gap in [min(gaps), min(gaps) + 1, gaps[0], 1, 0]
      refine ⟨_, rfl, gp, toInts (n + 1) (gap n c ci), rfl, ei3, by rw [toInts_len]; omega, fun m1 hm1 hle1 => ⟨_, rfl, gp, toInts (n + 1) (gap n c ci), rfl, ei3, by rw [toInts_len]; omega, fun m2 hm2 hle2 => ?_⟩⟩
      refine ⟨_, _, rfl, rfl, _, rfl, _, _, _, _, rfl, rfl, SqL.of e3, iL_at (i := 0) rfl (by omega), (show 5 ≤ sizeLine by decide), fun l2 nl2 => ?_⟩
      generalize hl2 : [V.int m1, V.int (m2 + 1), V.int (gap n c ci 0), V.int 1, V.int 0] = ps
      have hps : ∀ v, v ∈ ps → ∃ u : Int, v = .int u := by
        intro v hv
        rw [← hl2] at hv
        simp only [List.mem_cons, List.not_mem_nil, or_false] at hv
        rcases hv with e | e | e | e | e <;> exact ⟨_, e⟩
      have s4 := same_new (o := .lst ps) nl2
      have el2 : upd H3 l2 (.lst ps) l2 = some (.lst ps) := upd_same
      have k4 := k3.same s4
      have e4 := s4 _ _ e3
      have s04 := s02.trans (s3.trans s4)
      generalize upd H3 l2 (.lst ps) = H5 at s4 el2 k4 e4 s04
      refine ⟨l2, rfl, ⟨_, SqL.of el2⟩, for_it (walk_list (xs := ps)) (fun j σ H' => ∃ y6 y7 y8 y9, σ = [some (.ref ca), some (.ref wy), some (.int z), some (.int (ci : Int)), some (.ref gp), none, y6, y7, y8, y9] ∧ Same H5 H')
        ⟨_, _, _, _, rfl, Same.refl _⟩ (fun j σ H' _ pv => ?_) (fun j v σ H6 H7 hj pv y => ?_) (fun σ H6 pv => ?_)⟩
      · obtain ⟨_, _, _, _, _, sm⟩ := pv
        exact SqL.of (sm _ _ el2)
      · obtain ⟨y6, y7, y8, y9, rfl, s5⟩ := pv
        obtain ⟨rfl, hx2⟩ := y
        obtain ⟨p, rfl⟩ := hps v (List.mem_of_getElem? hx2)
        have k5 := k4.same s5
        have e5 := s5 _ _ e4
        -- answer
        refine ⟨_, rfl, fun x2 dx2 nx2 nd2 ne2 => ⟨x2, dx2, _, rfl, upd_same, fun H8 k8 e8 => ⟨rfl, ?_⟩⟩⟩
        have s8 := same_made nx2 nd2 k8
        have k8 := k5.same s8
        have eg8 := s8 _ _ e5
        have ei8 : SqL K H8 gp ((toInts (n + 1) (gap n c ci)).map V.int) := by rw [← iL_toInts]; exact SqL.of eg8
        have cl := clear_iff hR hc1 p
        -- due
        refine seq_cut (a := tAsg (tAndV (tOp (rIn K true) (tC (.int 1)) (tVar 4)) (tOp rEq (tVar 9) (tCB (rMin K) (tCons (tVar 4) tNil)))) (gName 7)) (fun σ' H' => σ' = [some (.ref ca), some (.ref wy), some (.int z), some (.int (ci : Int)), some (.ref gp), none, y6, some (.bl (clearB n c ci p)), some (.ref x2), some (.int p)] ∧ H8 = H')
          (fun D' k => ⟨_, rfl, gp, _, rfl, .inl (SqL.of eg8), rfl, flat_iL _ _, _, rfl, ite2 (fun e => ?_) (fun e => ?_)⟩) (fun σ' H' e => ?_)
        · have no1 : ∀ t, t ≤ n → gap n c ci t ≠ 1 := by
            intro t ht e1
            have h2 : inV (.int 1) (iL (n + 1) (gap n c ci)) = true := in_iff.mpr ⟨t, by omega, e1⟩
            have e : (!inV (.int 1) (iL (n + 1) (gap n c ci))) = true := e
            rw [h2] at e
            exact absurd e (by decide)
          refine ⟨_, rfl, _, rfl, gp, toInts (n + 1) (gap n c ci), rfl, ei8, by rw [toInts_len]; omega, fun m3 hm3 hle3 => ⟨rfl, k _ _ ⟨?_, rfl⟩⟩⟩
          obtain ⟨k3, hk3, ek3⟩ := List.mem_map.mp hm3
          have hk3 := List.mem_range.mp hk3
          have eq : clearB n c ci p = decide (p = m3) := by
            by_cases y : p = m3
            · have := cl.mpr ⟨no1, ⟨k3, by omega, by omega⟩, fun t ht => by
                have := hle3 (gap n c ci t) (List.mem_map.mpr ⟨t, List.mem_range.mpr (by omega), rfl⟩)
                omega⟩
              unfold clearB
              rw [decide_eq_true this.1, decide_eq_true (show 1 < p from this.2.1), decide_eq_true this.2.2, decide_eq_true y]
              rfl
            · rw [decide_eq_false y]
              cases u : clearB n c ci p with
              | false => rfl
              | true =>
                unfold clearB at u
                rw [Bool.and_eq_true, Bool.and_eq_true, decide_eq_true_eq, decide_eq_true_eq, decide_eq_true_eq] at u
                have := cl.mp ⟨u.1, u.2.1, u.2.2⟩
                obtain ⟨t, ht, et⟩ := this.2.1
                have h1 := hle3 (gap n c ci t) (List.mem_map.mpr ⟨t, List.mem_range.mpr (by omega), rfl⟩)
                have h2 := this.2.2 k3 (by omega)
                exact absurd (show p = m3 by omega) y
          rw [eq, ← dec_V]
          rfl
        · have ex1 : ∃ k, k < n + 1 ∧ gap n c ci k = 1 := by
            refine in_iff.mp ?_
            have e : ¬ (!inV (.int 1) (iL (n + 1) (gap n c ci))) = true := e
            cases u : inV (.int 1) (iL (n + 1) (gap n c ci)) with
            | true => rfl
            | false =>
              rw [u] at e
              exact absurd rfl e
          have eq : clearB n c ci p = false := by
            cases u : clearB n c ci p with
            | false => rfl
            | true =>
              unfold clearB at u
              rw [Bool.and_eq_true, Bool.and_eq_true, decide_eq_true_eq, decide_eq_true_eq, decide_eq_true_eq] at u
              obtain ⟨k1, hk1, ek1⟩ := ex1
              exact absurd ek1 ((cl.mp ⟨u.1, u.2.1, u.2.2⟩).1 k1 (by omega))
          refine k _ _ ⟨?_, rfl⟩
          rw [eq]
          rfl
        obtain ⟨rfl, rfl⟩ := e
        refine ⟨_, rfl, x2, CC, dx2, _, _, rfl, e8, AC.cl, ng, rfl, _, rfl, rfl, _, rfl, ?_⟩
        rw [decide_eq_true rfl]
        refine .inr ⟨_, rfl, x2, dx2, _, rfl, e8, rfl, _, rfl, _, rfl, x2, dx2, ca, n, c, ci, p, rfl, e8, SqL.of k8.cars, hR, hn, hc1, fun H11 s11 => ?_⟩
        refine ⟨_, rfl, _, rfl, _, rfl, ?_⟩
        exact ⟨_, _, _, _, rfl, s5.trans (s8.trans s11)⟩
      · obtain ⟨y6, y7, y8, y9, rfl, s5⟩ := pv
        exact q _ (s04.trans s5)
/-! ### the law -/
abbrev s_law : Stmt := topS 27
theorem sc_law : FnScope ["_law_script", "_law_cars_here", "_law_ways", "_law_step_here", "_law_cell"] ["_law_script"] (defScope s_law) := ⟨rfl, rfl, rfl, by decide +kernel, rfl, by decide +kernel, by decide +kernel⟩
def spLaw (K : PySem.W.Frag) : Sp := fun vs H Q _ => ∃ (a : Addr) (ns : List Int), vs = [.ref a] ∧ SqL K H a (ns.map V.int) ∧ ns.length ≤ 63 ∧ ∀ H', Q (.bl true) H'
theorem ok_law {f CT CC : Addr} {fd : FuncData} (F : Fun K "law" "law" s_law f fd) (B : Blt mg)
    (c__law_cars : Cal P w K mg base 1 "_law_cars" (spLawCars K)) (c__law_step : Cal P w K mg base 1 "_law_step" (spLawStep K)) (c__law_held_right : Cal P w K mg base 4 "_law_held_right" (spRight K 0)) (c__law_touch_right : Cal P w K mg base 5 "_law_touch_right" (spRight K 1)) (c__law_says : Cal P w K mg base 1 "_law_says" spLawSays)
    (m_Touch : Mak P w K mg base 1 "Touch" CT (spInit1 CT "steps")) (m_Touch_shows : Met P w K mg base 4 CT "shows" (spShowsTouch K CT)) (m_Clear : Mak P w K mg base 1 "Clear" CC (spInit1 CC "gap")) (m_Clear_shows : Met P w K mg base 4 CC "shows" (spShowsClear K CC)) : FnOk P w K mg base CX0 6 f fd ["_law_script"] (spLaw K) := by
  refine F.ok sc_law (fun vs H Q E h => ?_) (fun cdv A outer s H vs Q E hr h => ?_)
  · obtain ⟨a, ns, rfl, _⟩ := h
    rfl
  · obtain ⟨a, ns, rfl, hS, hns, q⟩ := h
    refine ⟨_, (pss_cons (ps_set (i := 1) sc_law.nd rfl (Or.inl rfl) (pe_c c__law_cars hr (by decide) (by rfl) (pa_cons (pv 0) pa_nil))) (pss_cons (ps_set (i := 2) sc_law.nd rfl (Or.inl rfl) (pe_lst (pa_cons (pv 1) pa_nil))) (pss_cons (ps_for PassesOwn.never rfl (pi_range1 rfl B.range (pa_cons (pe_callB (lenK K) (by rfl) B.len bt_len (pa_cons (pv 1) pa_nil)) pa_nil)) (pg_name (i := 3) sc_law.nd rfl (Or.inl rfl)) (pss_one (ps_expr (pe_bm PySem.F.plainAttrs_list PySem.F.slot_list_append PySem.F.type_list_append mt_append (pv 2) (pa_cons (pe_c c__law_step hr (by decide) (by rfl) (pa_cons (pe_ix (ixlK K) (pv 2) (pe_un un_neg pe_int) (fun _ _ => rfl)) pa_nil)) pa_nil))))) (pss_cons (ps_for PassesOwn.never rfl (pi_list (pe_op op_cat (pe_slice sl_list (pv 0) po_none (po_some pe_int)) (pe_skip (pv 0)))) (pg_name (i := 4) sc_law.nd rfl (Or.inl rfl)) (pss_cons (ps_if (pt_not (pt_val (pe_c c__law_held_right hr (by decide) (by rfl) (pa_cons (pv 1) (pa_cons (pv 2) (pa_cons (pv 4) pa_nil)))))) (pss_one (ps_ret pe_bl)) pss_nil) (pss_one (ps_if (PW.pt (pw_and (pt_cmpR op_gt (pe_callB (lenK K) (by rfl) B.len bt_len (pa_cons (pv 1) pa_nil)) pe_int rfl) (pw_and1 (pt_not (pt_val (pe_c c__law_touch_right hr (by decide) (by rfl) (pa_cons (pv 1) (pa_cons (pv 2) (pa_cons (pv 4) pa_nil))))))))) (pss_one (ps_ret pe_bl)) pss_nil)))) (pss_one (ps_ret (pe_and (pe_c c__law_says hr (by decide) (by rfl) (pa_cons (pe_mt m_Touch_shows hr (by decide) (pe_mk m_Touch hr (by decide) (by rfl) (pa_cons pe_int pa_nil)) (pa_cons (pe_lst (pa_cons pe_int (pa_cons pe_int pa_nil))) (pa_cons pe_int pa_nil))) (pa_cons pe_bl pa_nil))) (pe_one (pe_c c__law_says hr (by decide) (by rfl) (pa_cons (pe_mt m_Clear_shows hr (by decide) (pe_mk m_Clear hr (by decide) (by rfl) (pa_cons pe_int pa_nil)) (pa_cons (pe_lst (pa_cons pe_int (pa_cons pe_int pa_nil))) (pa_cons pe_int pa_nil))) (pa_cons pe_bl pa_nil))))))))))), ?_⟩
    refine ⟨_, rfl, a, ns, rfl, hS, hns, fun H1 ca c hR s1 nc ec => ?_⟩
    generalize hln : ns.length = n at hR ec
    have hn : n ≤ 63 := by omega
    refine ⟨_, rfl, (show 1 ≤ sizeLine by decide), fun wy nwy => ?_⟩
    have s3 := same_new (o := .lst [.ref ca]) nwy
    -- the ways
    refine ways_for (n := n) (c := c) (ca := ca) (wy := wy) rfl rfl (by decide) (by decide) rfl hR (by omega) s3 nwy ec upd_same fun W y3 H4 s4 w0 ew aw => ?_
    have k4 : KnW n c ca wy W H4 := ⟨s4 _ _ ec, ew, aw⟩
    have hS4 := (s1.trans s4).seq hS
    -- script[:4] + script[4::13]
    refine ⟨_, rfl, _, rfl, a, _, rfl, hS4, fun p1 n1 => ?_⟩
    have s5 := same_new (o := .lst (cutV (ns.map V.int) none (some 4))) n1
    refine ⟨_, rfl, a, _, rfl, s5.seq hS4, fun ys p2 hys hyl n2 => ?_⟩
    obtain ⟨ms, rfl⟩ := ints_from hys
    have s6 := same_new (o := .lst (ms.map V.int)) n2
    have ec1 : cutV (ns.map V.int) none (some 4) = ((ns.drop (HT.sIx ns.length 0 none)).take (HT.sIx ns.length ns.length (some 4) - HT.sIx ns.length 0 none)).map V.int := by
      unfold cutV
      rw [List.length_map, List.map_take, List.map_drop]
    have hcl := cutV_length (ns.map V.int) none (some 4)
    rw [List.length_map] at hcl hyl
    rw [List.length_map] at hyl
    refine ⟨p1, p2, _, _, rfl, rfl, s6 _ _ upd_same, upd_same, le_line (by rw [List.length_map]; omega), fun cl ncl => ?_⟩
    rw [ec1, ← List.map_append]
    generalize hms : ((ns.drop (HT.sIx ns.length 0 none)).take (HT.sIx ns.length ns.length (some 4) - HT.sIx ns.length 0 none)) ++ ms = cs
    have hcs : cs ≠ [] → 0 < n := by
      intro h
      rw [← hln]
      cases hns0 : ns with
      | nil =>
        subst hns0
        rw [← hms] at h
        have em : ms = [] := by
          cases ms with
          | nil => rfl
          | cons m r => exact absurd (hys _ (List.mem_cons_self ..)) (by simp)
        rw [em] at h
        exact absurd (by simp) h
      | cons z r => exact Nat.succ_pos _
    have hcsl : cs.length ≤ 200 := by
      rw [← hms, List.length_append]
      rw [ec1, List.length_map] at hcl
      omega
    have s7 := same_new (o := .lst (cs.map V.int)) ncl
    have k7 := k4.same ((s5.trans s6).trans s7)
    rw [iL_of cs]
    refine ⟨cl, rfl, ⟨_, SqL.of upd_same⟩, for_it (walk_iL (n := cs.length) (c := fun i => cs.getD i 0)) (fun i σ H' => ∃ y4, σ = [some (.ref a), some (.ref ca), some (.ref wy), y3, y4] ∧ KnW n c ca wy W H' ∧ H' cl = some (.lst (iL cs.length fun i => cs.getD i 0)))
      ⟨_, rfl, by rw [← iL_of cs, ← ec1]; exact k7, upd_same⟩ (fun i σ H' _ pv => ?_) (fun i x σ H8 H9 hi pv y => ?_) (fun σ H8 pv => ?_)⟩
    · obtain ⟨_, _, _, e⟩ := pv
      exact SqL.of e
    · obtain ⟨y4, rfl, k8, ecl⟩ := pv
      obtain ⟨rfl, rfl⟩ := y
      have n0 : 0 < n := hcs fun z => by rw [z] at hi; exact absurd hi (Nat.not_lt_zero i)
      generalize cs.getD i 0 = z
      refine ⟨_, rfl, _, rfl, _, rfl, ca, wy, z, n, c, W, rfl, k8, hR, n0, by omega, fun H10 s10 => ⟨_, rfl, ?_⟩⟩
      have k10 := k8.same s10
      have ecl10 := s10 _ _ ecl
      refine ⟨_, rfl, ca, _, rfl, .inl (SqL.of k10.cars), _, _, rfl, rfl, _, rfl, ?_⟩
      refine ite2 (fun e => ?_) (fun e => ?_)
      · have h1 := of_decide_eq_true e
        rw [iL_len] at h1
        refine ⟨_, rfl, _, rfl, _, rfl, ca, wy, z, n, c, W, rfl, k10, hR, by omega, by omega, fun H11 s11 => ⟨_, rfl, ?_⟩⟩
        exact ⟨_, rfl, k10.same s11, s11 _ _ ecl10⟩
      · exact ⟨_, rfl, k10, ecl10⟩
    · have rs : ∀ u v : Int, u + 1 ≤ v → Rising 2 fun i => [u, v].getD i 0 := by
        intro u v h i hi
        have : i = 0 := by omega
        subst this
        exact h
      -- Touch(0).shows([3, 4], 0)
      refine fun x dx nx nd ne => ⟨x, dx, _, rfl, upd_same, fun H9 k9 e9 => ⟨rfl, ?_⟩⟩
      refine ⟨x, dx, _, rfl, e9, rfl, (show 2 ≤ sizeLine by decide), fun l nl => ?_⟩
      have s9 := same_new (o := .lst [.int 3, .int 4]) nl
      refine ⟨x, dx, l, 2, (fun i => [3, 4].getD i 0), 0, 0, rfl, s9 _ _ e9, SqL.of upd_same, rs 3 4 (by decide), by decide, by decide, fun H10 s10 => ?_⟩
      refine ⟨true, congrArg (fun b => [V.bl b, .bl true]) (show touchB 2 (fun i => [3, 4].getD i 0) 0 0 = true by decide +kernel), _, rfl, ?_⟩
      -- Clear(2).shows([3, 5], 0)
      refine fun x dx nx nd ne => ⟨x, dx, _, rfl, upd_same, fun H11 k11 e11 => ⟨rfl, ?_⟩⟩
      refine ⟨x, dx, _, rfl, e11, rfl, (show 2 ≤ sizeLine by decide), fun l nl => ?_⟩
      have s11 := same_new (o := .lst [.int 3, .int 5]) nl
      refine ⟨x, dx, l, 2, (fun i => [3, 5].getD i 0), 0, 2, rfl, s11 _ _ e11, SqL.of upd_same, rs 3 5 (by decide), by decide, by decide, fun H12 s12 => ?_⟩
      refine ⟨true, congrArg (fun b => [V.bl b, .bl true]) (show clearB 2 (fun i => [3, 5].getD i 0) 0 2 = true by decide +kernel), ?_⟩
      exact q _
end
end JR

/-! ### what the top has written; the head -/
namespace JR
open PySem PySem.Spec PyProof.Rows L2
theorem all_mk {l : PySem.W.OpenLaw} {w : World} {K : PySem.W.Frag} {h : Heap} {mg : Str → Option Value} {fa : Addr} (X : K.In h) (G : h.Ns mainGlobals mg) (hfa : mg "law" = some (.ref fa))
    {C_Held C_Touch C_Clear : Addr}
    (aC_Held : PySem.W.nsIn K mainGlobals "Held" = some (some (.ref C_Held)))
    (aC_Touch : PySem.W.nsIn K mainGlobals "Touch" = some (some (.ref C_Touch)))
    (aC_Clear : PySem.W.nsIn K mainGlobals "Clear" = some (some (.ref C_Clear)))
    (pg_Held : PySem.W.plainGet K C_Held Str.empty = true)
    (hd_Held : PySem.W.hasDictIn K C_Held = true)
    (po_Held : PySem.W.plainOver K C_Held = true)
    (sa_Held : PySem.W.findIn K (.ref C_Held) "__setattr__" = some (some (.builtin "object.__setattr__")))
    (ha_Held : PySem.W.findIn K (.ref C_Held) "__class__" = some (some (.builtin "object.__class__")))
    (hm_Held : PySem.W.mroIn K C_Held (.type "object") = some true)
    (mi_Held : PySem.W.makesIn K C_Held = true)
    (kc_Held : PySem.W.keepIn K (.ref C_Held) = true)
    (n_Held_place : PySem.W.findIn K (.ref C_Held) "place" = some none)
    (n_Held_by : PySem.W.findIn K (.ref C_Held) "by" = some none)
    (pg_Touch : PySem.W.plainGet K C_Touch Str.empty = true)
    (hd_Touch : PySem.W.hasDictIn K C_Touch = true)
    (po_Touch : PySem.W.plainOver K C_Touch = true)
    (sa_Touch : PySem.W.findIn K (.ref C_Touch) "__setattr__" = some (some (.builtin "object.__setattr__")))
    (ha_Touch : PySem.W.findIn K (.ref C_Touch) "__class__" = some (some (.builtin "object.__class__")))
    (hm_Touch : PySem.W.mroIn K C_Touch (.type "object") = some true)
    (mi_Touch : PySem.W.makesIn K C_Touch = true)
    (kc_Touch : PySem.W.keepIn K (.ref C_Touch) = true)
    (n_Touch_steps : PySem.W.findIn K (.ref C_Touch) "steps" = some none)
    (pg_Clear : PySem.W.plainGet K C_Clear Str.empty = true)
    (hd_Clear : PySem.W.hasDictIn K C_Clear = true)
    (po_Clear : PySem.W.plainOver K C_Clear = true)
    (sa_Clear : PySem.W.findIn K (.ref C_Clear) "__setattr__" = some (some (.builtin "object.__setattr__")))
    (ha_Clear : PySem.W.findIn K (.ref C_Clear) "__class__" = some (some (.builtin "object.__class__")))
    (hm_Clear : PySem.W.mroIn K C_Clear (.type "object") = some true)
    (mi_Clear : PySem.W.makesIn K C_Clear = true)
    (kc_Clear : PySem.W.keepIn K (.ref C_Clear) = true)
    (n_Clear_gap : PySem.W.findIn K (.ref C_Clear) "gap" = some none)
    (hn : PySem.W.specialIn K (.builtin "object.__class__") "__get__" = some (some (.builtin "getset_descriptor.__get__")))
    (htk : PySem.W.takesIn K (.builtin "object.__class__") = some true)
    {f0 : Addr} {od0 an0 : Option Addr} {sl0 : Array (Option Value)} {oc0 kV0 dc0 pm0 cd0 ct0 : Value}
    (a0 : PySem.W.nsIn K mainGlobals "_law_cars" = some (some (.ref f0)))
    (l0 : K.lookup f0 = some ⟨oc0, od0, .func (PySem.W.fnOf "_law_cars" "_law_cars" (defArgs s__law_cars) (defBody s__law_cars) (defScope s__law_cars) .none kV0 dc0 pm0 an0 cd0 ct0), sl0⟩)
    (c0 : PySem.W.codeIn K cd0 "_law_cars" = true)
    (k0 : PySem.W.keepIn K (.ref f0) = true)
    {f1 : Addr} {od1 an1 : Option Addr} {sl1 : Array (Option Value)} {oc1 kV1 dc1 pm1 cd1 ct1 : Value}
    (a1 : PySem.W.nsIn K mainGlobals "_law_step" = some (some (.ref f1)))
    (l1 : K.lookup f1 = some ⟨oc1, od1, .func (PySem.W.fnOf "_law_step" "_law_step" (defArgs s__law_step) (defBody s__law_step) (defScope s__law_step) .none kV1 dc1 pm1 an1 cd1 ct1), sl1⟩)
    (c1 : PySem.W.codeIn K cd1 "_law_step" = true)
    (k1 : PySem.W.keepIn K (.ref f1) = true)
    {f2 : Addr} {od2 an2 : Option Addr} {sl2 : Array (Option Value)} {oc2 kV2 dc2 pm2 cd2 ct2 : Value}
    (a2 : PySem.W.nsIn K mainGlobals "is_number" = some (some (.ref f2)))
    (l2 : K.lookup f2 = some ⟨oc2, od2, .func (PySem.W.fnOf "is_number" "is_number" (defArgs s_is_number) (defBody s_is_number) (defScope s_is_number) .none kV2 dc2 pm2 an2 cd2 ct2), sl2⟩)
    (c2 : PySem.W.codeIn K cd2 "is_number" = true)
    (k2 : PySem.W.keepIn K (.ref f2) = true)
    {f3 : Addr} {od3 an3 : Option Addr} {sl3 : Array (Option Value)} {oc3 kV3 dc3 pm3 cd3 ct3 : Value}
    (a3 : PySem.W.nsIn K mainGlobals "asked_cars" = some (some (.ref f3)))
    (l3 : K.lookup f3 = some ⟨oc3, od3, .func (PySem.W.fnOf "asked_cars" "asked_cars" (defArgs s_asked_cars) (defBody s_asked_cars) (defScope s_asked_cars) .none kV3 dc3 pm3 an3 cd3 ct3), sl3⟩)
    (c3 : PySem.W.codeIn K cd3 "asked_cars" = true)
    (k3 : PySem.W.keepIn K (.ref f3) = true)
    {f4 : Addr} {od4 an4 : Option Addr} {sl4 : Array (Option Value)} {oc4 kV4 dc4 pm4 cd4 ct4 : Value}
    (a4 : PySem.W.nsIn K mainGlobals "asked_car" = some (some (.ref f4)))
    (l4 : K.lookup f4 = some ⟨oc4, od4, .func (PySem.W.fnOf "asked_car" "asked_car" (defArgs s_asked_car) (defBody s_asked_car) (defScope s_asked_car) .none kV4 dc4 pm4 an4 cd4 ct4), sl4⟩)
    (c4 : PySem.W.codeIn K cd4 "asked_car" = true)
    (k4 : PySem.W.keepIn K (.ref f4) = true)
    {f5 : Addr} {od5 an5 : Option Addr} {sl5 : Array (Option Value)} {oc5 kV5 dc5 pm5 cd5 ct5 : Value}
    (a5 : PySem.W.nsIn K mainGlobals "asked_steps" = some (some (.ref f5)))
    (l5 : K.lookup f5 = some ⟨oc5, od5, .func (PySem.W.fnOf "asked_steps" "asked_steps" (defArgs s_asked_steps) (defBody s_asked_steps) (defScope s_asked_steps) .none kV5 dc5 pm5 an5 cd5 ct5), sl5⟩)
    (c5 : PySem.W.codeIn K cd5 "asked_steps" = true)
    (k5 : PySem.W.keepIn K (.ref f5) = true)
    {f6 : Addr} {od6 an6 : Option Addr} {sl6 : Array (Option Value)} {oc6 kV6 dc6 pm6 cd6 ct6 : Value}
    (a6 : PySem.W.nsIn K mainGlobals "leans" = some (some (.ref f6)))
    (l6 : K.lookup f6 = some ⟨oc6, od6, .func (PySem.W.fnOf "leans" "leans" (defArgs s_leans) (defBody s_leans) (defScope s_leans) .none kV6 dc6 pm6 an6 cd6 ct6), sl6⟩)
    (c6 : PySem.W.codeIn K cd6 "leans" = true)
    (k6 : PySem.W.keepIn K (.ref f6) = true)
    {f7 : Addr} {od7 an7 : Option Addr} {sl7 : Array (Option Value)} {oc7 kV7 dc7 pm7 cd7 ct7 : Value}
    (a7 : PySem.W.nsIn K mainGlobals "holders" = some (some (.ref f7)))
    (l7 : K.lookup f7 = some ⟨oc7, od7, .func (PySem.W.fnOf "holders" "holders" (defArgs s_holders) (defBody s_holders) (defScope s_holders) .none kV7 dc7 pm7 an7 cd7 ct7), sl7⟩)
    (c7 : PySem.W.codeIn K cd7 "holders" = true)
    (k7 : PySem.W.keepIn K (.ref f7) = true)
    {f8 : Addr} {od8 an8 : Option Addr} {sl8 : Array (Option Value)} {oc8 kV8 dc8 pm8 cd8 ct8 : Value}
    (a8 : PySem.W.findIn K (.ref C_Held) "__init__" = some (some (.ref f8)))
    (i8 : PySem.W.isFn K (.ref f8) = true)
    (l8 : K.lookup f8 = some ⟨oc8, od8, .func (PySem.W.fnOf "__init__" "Held.__init__" (defArgs s_Held___init__) (defBody s_Held___init__) (defScope s_Held___init__) .none kV8 dc8 pm8 an8 cd8 ct8), sl8⟩)
    (c8 : PySem.W.codeIn K cd8 "Held.__init__" = true)
    (k8 : PySem.W.keepIn K (.ref f8) = true)
    {f9 : Addr} {od9 an9 : Option Addr} {sl9 : Array (Option Value)} {oc9 kV9 dc9 pm9 cd9 ct9 : Value}
    (a9 : PySem.W.nsIn K mainGlobals "held" = some (some (.ref f9)))
    (l9 : K.lookup f9 = some ⟨oc9, od9, .func (PySem.W.fnOf "held" "held" (defArgs s_held) (defBody s_held) (defScope s_held) .none kV9 dc9 pm9 an9 cd9 ct9), sl9⟩)
    (c9 : PySem.W.codeIn K cd9 "held" = true)
    (k9 : PySem.W.keepIn K (.ref f9) = true)
    {f10 : Addr} {od10 an10 : Option Addr} {sl10 : Array (Option Value)} {oc10 kV10 dc10 pm10 cd10 ct10 : Value}
    (a10 : PySem.W.findIn K (.ref C_Held) "shows" = some (some (.ref f10)))
    (i10 : PySem.W.isFn K (.ref f10) = true)
    (l10 : K.lookup f10 = some ⟨oc10, od10, .func (PySem.W.fnOf "shows" "Held.shows" (defArgs s_Held_shows) (defBody s_Held_shows) (defScope s_Held_shows) .none kV10 dc10 pm10 an10 cd10 ct10), sl10⟩)
    (c10 : PySem.W.codeIn K cd10 "Held.shows" = true)
    (k10 : PySem.W.keepIn K (.ref f10) = true)
    {f11 : Addr} {od11 an11 : Option Addr} {sl11 : Array (Option Value)} {oc11 kV11 dc11 pm11 cd11 ct11 : Value}
    (a11 : PySem.W.nsIn K mainGlobals "_law_says" = some (some (.ref f11)))
    (l11 : K.lookup f11 = some ⟨oc11, od11, .func (PySem.W.fnOf "_law_says" "_law_says" (defArgs s__law_says) (defBody s__law_says) (defScope s__law_says) .none kV11 dc11 pm11 an11 cd11 ct11), sl11⟩)
    (c11 : PySem.W.codeIn K cd11 "_law_says" = true)
    (k11 : PySem.W.keepIn K (.ref f11) = true)
    {f12 : Addr} {od12 an12 : Option Addr} {sl12 : Array (Option Value)} {oc12 kV12 dc12 pm12 cd12 ct12 : Value}
    (a12 : PySem.W.nsIn K mainGlobals "_law_held_right" = some (some (.ref f12)))
    (l12 : K.lookup f12 = some ⟨oc12, od12, .func (PySem.W.fnOf "_law_held_right" "_law_held_right" (defArgs s__law_held_right) (defBody s__law_held_right) (defScope s__law_held_right) .none kV12 dc12 pm12 an12 cd12 ct12), sl12⟩)
    (c12 : PySem.W.codeIn K cd12 "_law_held_right" = true)
    (k12 : PySem.W.keepIn K (.ref f12) = true)
    {f13 : Addr} {od13 an13 : Option Addr} {sl13 : Array (Option Value)} {oc13 kV13 dc13 pm13 cd13 ct13 : Value}
    (a13 : PySem.W.findIn K (.ref C_Touch) "__init__" = some (some (.ref f13)))
    (i13 : PySem.W.isFn K (.ref f13) = true)
    (l13 : K.lookup f13 = some ⟨oc13, od13, .func (PySem.W.fnOf "__init__" "Touch.__init__" (defArgs s_Touch___init__) (defBody s_Touch___init__) (defScope s_Touch___init__) .none kV13 dc13 pm13 an13 cd13 ct13), sl13⟩)
    (c13 : PySem.W.codeIn K cd13 "Touch.__init__" = true)
    (k13 : PySem.W.keepIn K (.ref f13) = true)
    {f14 : Addr} {od14 an14 : Option Addr} {sl14 : Array (Option Value)} {oc14 kV14 dc14 pm14 cd14 ct14 : Value}
    (a14 : PySem.W.nsIn K mainGlobals "after" = some (some (.ref f14)))
    (l14 : K.lookup f14 = some ⟨oc14, od14, .func (PySem.W.fnOf "after" "after" (defArgs s_after) (defBody s_after) (defScope s_after) .none kV14 dc14 pm14 an14 cd14 ct14), sl14⟩)
    (c14 : PySem.W.codeIn K cd14 "after" = true)
    (k14 : PySem.W.keepIn K (.ref f14) = true)
    {f15 : Addr} {od15 an15 : Option Addr} {sl15 : Array (Option Value)} {oc15 kV15 dc15 pm15 cd15 ct15 : Value}
    (a15 : PySem.W.findIn K (.ref C_Touch) "shows" = some (some (.ref f15)))
    (i15 : PySem.W.isFn K (.ref f15) = true)
    (l15 : K.lookup f15 = some ⟨oc15, od15, .func (PySem.W.fnOf "shows" "Touch.shows" (defArgs s_Touch_shows) (defBody s_Touch_shows) (defScope s_Touch_shows) .none kV15 dc15 pm15 an15 cd15 ct15), sl15⟩)
    (c15 : PySem.W.codeIn K cd15 "Touch.shows" = true)
    (k15 : PySem.W.keepIn K (.ref f15) = true)
    {f16 : Addr} {od16 an16 : Option Addr} {sl16 : Array (Option Value)} {oc16 kV16 dc16 pm16 cd16 ct16 : Value}
    (a16 : PySem.W.findIn K (.ref C_Clear) "__init__" = some (some (.ref f16)))
    (i16 : PySem.W.isFn K (.ref f16) = true)
    (l16 : K.lookup f16 = some ⟨oc16, od16, .func (PySem.W.fnOf "__init__" "Clear.__init__" (defArgs s_Clear___init__) (defBody s_Clear___init__) (defScope s_Clear___init__) .none kV16 dc16 pm16 an16 cd16 ct16), sl16⟩)
    (c16 : PySem.W.codeIn K cd16 "Clear.__init__" = true)
    (k16 : PySem.W.keepIn K (.ref f16) = true)
    {f17 : Addr} {od17 an17 : Option Addr} {sl17 : Array (Option Value)} {oc17 kV17 dc17 pm17 cd17 ct17 : Value}
    (a17 : PySem.W.nsIn K mainGlobals "delays" = some (some (.ref f17)))
    (l17 : K.lookup f17 = some ⟨oc17, od17, .func (PySem.W.fnOf "delays" "delays" (defArgs s_delays) (defBody s_delays) (defScope s_delays) .none kV17 dc17 pm17 an17 cd17 ct17), sl17⟩)
    (c17 : PySem.W.codeIn K cd17 "delays" = true)
    (k17 : PySem.W.keepIn K (.ref f17) = true)
    {f18 : Addr} {od18 an18 : Option Addr} {sl18 : Array (Option Value)} {oc18 kV18 dc18 pm18 cd18 ct18 : Value}
    (a18 : PySem.W.findIn K (.ref C_Clear) "shows" = some (some (.ref f18)))
    (i18 : PySem.W.isFn K (.ref f18) = true)
    (l18 : K.lookup f18 = some ⟨oc18, od18, .func (PySem.W.fnOf "shows" "Clear.shows" (defArgs s_Clear_shows) (defBody s_Clear_shows) (defScope s_Clear_shows) .none kV18 dc18 pm18 an18 cd18 ct18), sl18⟩)
    (c18 : PySem.W.codeIn K cd18 "Clear.shows" = true)
    (k18 : PySem.W.keepIn K (.ref f18) = true)
    {f19 : Addr} {od19 an19 : Option Addr} {sl19 : Array (Option Value)} {oc19 kV19 dc19 pm19 cd19 ct19 : Value}
    (a19 : PySem.W.nsIn K mainGlobals "_law_touch_right" = some (some (.ref f19)))
    (l19 : K.lookup f19 = some ⟨oc19, od19, .func (PySem.W.fnOf "_law_touch_right" "_law_touch_right" (defArgs s__law_touch_right) (defBody s__law_touch_right) (defScope s__law_touch_right) .none kV19 dc19 pm19 an19 cd19 ct19), sl19⟩)
    (c19 : PySem.W.codeIn K cd19 "_law_touch_right" = true)
    (k19 : PySem.W.keepIn K (.ref f19) = true)
    {f20 : Addr} {od20 an20 : Option Addr} {sl20 : Array (Option Value)} {oc20 kV20 dc20 pm20 cd20 ct20 : Value}
    (a20 : PySem.W.nsIn K mainGlobals "law" = some (some (.ref f20)))
    (l20 : K.lookup f20 = some ⟨oc20, od20, .func (PySem.W.fnOf "law" "law" (defArgs s_law) (defBody s_law) (defScope s_law) .none kV20 dc20 pm20 an20 cd20 ct20), sl20⟩)
    (c20 : PySem.W.codeIn K cd20 "law" = true)
    (k20 : PySem.W.keepIn K (.ref f20) = true)
    (z_len : PySem.W.nsIn K mainGlobals "len" = some none)
    (z_isinstance : PySem.W.nsIn K mainGlobals "isinstance" = some none)
    (z_int : PySem.W.nsIn K mainGlobals "int" = some none)
    (z_bool : PySem.W.nsIn K mainGlobals "bool" = some none)
    (z_list : PySem.W.nsIn K mainGlobals "list" = some none)
    (z_str : PySem.W.nsIn K mainGlobals "str" = some none)
    (z_all : PySem.W.nsIn K mainGlobals "all" = some none)
    (z_any : PySem.W.nsIn K mainGlobals "any" = some none)
    (z_sum : PySem.W.nsIn K mainGlobals "sum" = some none)
    (z_min : PySem.W.nsIn K mainGlobals "min" = some none)
    (z_max : PySem.W.nsIn K mainGlobals "max" = some none)
    (z_range : PySem.W.nsIn K mainGlobals "range" = some none)
    (z_enumerate : PySem.W.nsIn K mainGlobals "enumerate" = some none)
    (z_reversed : PySem.W.nsIn K mainGlobals "reversed" = some none)
    (z_sorted : PySem.W.nsIn K mainGlobals "sorted" = some none)
    : ∃ fd : FuncData, (∀ (s : Shared) (v : Value), BindsTo s fd ⟨[v], []⟩ [("_law_script", v)]) ∧ ∀ base : Heap, K.In base → base.Ns mainGlobals mg → FnOk l.prog w K mg base CX0 6 fa fd ["_law_script"] (spLaw K) := by
  have e := hfa.symm.trans (PySem.W.mg_of X G a20)
  cases e
  have B : Blt mg := ⟨PySem.W.mg_none_of X G z_len, PySem.W.mg_none_of X G z_isinstance, PySem.W.mg_none_of X G z_int, PySem.W.mg_none_of X G z_bool, PySem.W.mg_none_of X G z_list, PySem.W.mg_none_of X G z_str, PySem.W.mg_none_of X G z_all, PySem.W.mg_none_of X G z_any, PySem.W.mg_none_of X G z_sum, PySem.W.mg_none_of X G z_min, PySem.W.mg_none_of X G z_max, PySem.W.mg_none_of X G z_range, PySem.W.mg_none_of X G z_enumerate, PySem.W.mg_none_of X G z_reversed, PySem.W.mg_none_of X G z_sorted⟩
  have g_Held := PySem.W.mg_of X G aC_Held
  have g_Touch := PySem.W.mg_of X G aC_Touch
  have g_Clear := PySem.W.mg_of X G aC_Clear
  have A_Held : AnsC K C_Held := ⟨⟨pg_Held, hd_Held, po_Held, sa_Held⟩, ha_Held, hn, htk, hm_Held⟩
  have A_Touch : AnsC K C_Touch := ⟨⟨pg_Touch, hd_Touch, po_Touch, sa_Touch⟩, ha_Touch, hn, htk, hm_Touch⟩
  have A_Clear : AnsC K C_Clear := ⟨⟨pg_Clear, hd_Clear, po_Clear, sa_Clear⟩, ha_Clear, hn, htk, hm_Clear⟩
  refine ⟨PySem.W.fnOf "law" "law" (defArgs s_law) (defBody s_law) (defScope s_law) .none kV20 dc20 pm20 an20 cd20 ct20, fun s v => .of_eq rfl, fun base _ _ => ?_⟩
  have c__law_cars := cal__law_cars (P := l.prog) (w := w) (base := base) (fun_mk (st := s__law_cars) l0 c0 k0) (PySem.W.mg_of X G a0) B
  have c__law_step := cal__law_step (P := l.prog) (w := w) (base := base) (fun_mk (st := s__law_step) l1 c1 k1) (PySem.W.mg_of X G a1) B
  have c_is_number := cal_is_number (P := l.prog) (w := w) (base := base) (fun_mk (st := s_is_number) l2 c2 k2) (PySem.W.mg_of X G a2) B
  have c_asked_cars := cal_asked_cars (P := l.prog) (w := w) (base := base) (fun_mk (st := s_asked_cars) l3 c3 k3) (PySem.W.mg_of X G a3) B c_is_number
  have c_asked_car := cal_asked_car (P := l.prog) (w := w) (base := base) (fun_mk (st := s_asked_car) l4 c4 k4) (PySem.W.mg_of X G a4) B c_is_number
  have c_asked_steps := cal_asked_steps (P := l.prog) (w := w) (base := base) (fun_mk (st := s_asked_steps) l5 c5 k5) (PySem.W.mg_of X G a5) B c_is_number
  have c_leans := cal_leans (P := l.prog) (w := w) (base := base) (fun_mk (st := s_leans) l6 c6 k6) (PySem.W.mg_of X G a6) B
  have c_holders := cal_holders (P := l.prog) (w := w) (base := base) (fun_mk (st := s_holders) l7 c7 k7) (PySem.W.mg_of X G a7) B c_leans
  have m_Held := mk_Held (P := l.prog) (w := w) (base := base) (fun_mk (st := s_Held___init__) l8 c8 k8) ⟨mi_Held, a8, i8, kc_Held⟩ g_Held A_Held n_Held_place n_Held_by
  have c_held := cal_held (P := l.prog) (w := w) (base := base) (fun_mk (st := s_held) l9 c9 k9) (PySem.W.mg_of X G a9) B c_asked_cars c_asked_car c_asked_steps c_holders m_Held
  have m_Held_shows := met_Held_shows (P := l.prog) (w := w) (base := base) (fun_mk (st := s_Held_shows) l10 c10 k10) ⟨a10, i10, k10⟩ B A_Held n_Held_place n_Held_by
  have c__law_says := cal__law_says (P := l.prog) (w := w) (base := base) (fun_mk (st := s__law_says) l11 c11 k11) (PySem.W.mg_of X G a11) B
  have c__law_held_right := cal__law_held_right (P := l.prog) (w := w) (base := base) A_Held n_Held_place n_Held_by (fun_mk (st := s__law_held_right) l12 c12 k12) (PySem.W.mg_of X G a12) B c_held m_Held m_Held_shows c__law_says
  have m_Touch := mk_Touch (P := l.prog) (w := w) (base := base) (fun_mk (st := s_Touch___init__) l13 c13 k13) ⟨mi_Touch, a13, i13, kc_Touch⟩ g_Touch A_Touch n_Touch_steps
  have c_after := cal_after (P := l.prog) (w := w) (base := base) (fun_mk (st := s_after) l14 c14 k14) (PySem.W.mg_of X G a14) B c_asked_cars c_asked_steps c_holders
  have m_Touch_shows := met_Touch_shows (P := l.prog) (w := w) (base := base) (fun_mk (st := s_Touch_shows) l15 c15 k15) ⟨a15, i15, k15⟩ B A_Touch n_Touch_steps c_after
  have m_Clear := mk_Clear (P := l.prog) (w := w) (base := base) (fun_mk (st := s_Clear___init__) l16 c16 k16) ⟨mi_Clear, a16, i16, kc_Clear⟩ g_Clear A_Clear n_Clear_gap
  have c_delays := cal_delays (P := l.prog) (w := w) (base := base) (fun_mk (st := s_delays) l17 c17 k17) (PySem.W.mg_of X G a17) B c_asked_cars c_leans c_holders
  have m_Clear_shows := met_Clear_shows (P := l.prog) (w := w) (base := base) (fun_mk (st := s_Clear_shows) l18 c18 k18) ⟨a18, i18, k18⟩ B A_Clear n_Clear_gap c_delays
  have c__law_touch_right := cal__law_touch_right (P := l.prog) (w := w) (base := base) A_Touch n_Touch_steps A_Clear n_Clear_gap (fun_mk (st := s__law_touch_right) l19 c19 k19) (PySem.W.mg_of X G a19) B m_Touch m_Touch_shows m_Clear m_Clear_shows c__law_says
  exact ok_law (fun_mk (st := s_law) l20 c20 k20) B c__law_cars c__law_step c__law_held_right c__law_touch_right c__law_says m_Touch m_Touch_shows m_Clear m_Clear_shows
end JR
open PySem PySem.W PyProof.Rows
set_option maxHeartbeats 0 in
theorem PySem.Challenge.cw_jamroad_k08_answers_by_hand_holds : PySem.Challenge.rw_jamroad_k08_answers_by_hand.Holds := by
  w_on; o_law; k_head; (case hw => w_witness2)
  k_fill
  refine L2.walk_of (l := PySem.Challenge.rw_jamroad_k08_answers_by_hand) (n := 63) (k := 6) (x := "_law_script") (CX := fun _ => L2.CX0) (sp := fun w => JR.spLaw _) rfl (by decide) rfl ⟨rfl, by decide, by decide⟩ (fun w h Y => PySem.W.kIn_of Y) ?F (fun _ _ a ns hl _ hS => ⟨a, ns, rfl, hS, hl, fun _ => rfl⟩) (fun _ _ _ _ _ h => h)
  case F =>
    intro w mg fa h KX G hmg
    refine' JR.all_mk KX G hmg ?aC_Held ?aC_Touch ?aC_Clear ?pg_Held ?hd_Held ?po_Held ?sa_Held ?ha_Held ?hm_Held ?mi_Held ?kc_Held ?n_Held_place ?n_Held_by ?pg_Touch ?hd_Touch ?po_Touch ?sa_Touch ?ha_Touch ?hm_Touch ?mi_Touch ?kc_Touch ?n_Touch_steps ?pg_Clear ?hd_Clear ?po_Clear ?sa_Clear ?ha_Clear ?hm_Clear ?mi_Clear ?kc_Clear ?n_Clear_gap ?hn ?htk ?a0 ?l0 ?c0 ?k0 ?a1 ?l1 ?c1 ?k1 ?a2 ?l2 ?c2 ?k2 ?a3 ?l3 ?c3 ?k3 ?a4 ?l4 ?c4 ?k4 ?a5 ?l5 ?c5 ?k5 ?a6 ?l6 ?c6 ?k6 ?a7 ?l7 ?c7 ?k7 ?a8 ?i8 ?l8 ?c8 ?k8 ?a9 ?l9 ?c9 ?k9 ?a10 ?i10 ?l10 ?c10 ?k10 ?a11 ?l11 ?c11 ?k11 ?a12 ?l12 ?c12 ?k12 ?a13 ?i13 ?l13 ?c13 ?k13 ?a14 ?l14 ?c14 ?k14 ?a15 ?i15 ?l15 ?c15 ?k15 ?a16 ?i16 ?l16 ?c16 ?k16 ?a17 ?l17 ?c17 ?k17 ?a18 ?i18 ?l18 ?c18 ?k18 ?a19 ?l19 ?c19 ?k19 ?a20 ?l20 ?c20 ?k20 ?z_len ?z_isinstance ?z_int ?z_bool ?z_list ?z_str ?z_all ?z_any ?z_sum ?z_min ?z_max ?z_range ?z_enumerate ?z_reversed ?z_sorted
    (case aC_Held => k_is); (case aC_Touch => k_is); (case aC_Clear => k_is); (case pg_Held => k_is); (case hd_Held => k_is); (case po_Held => k_is); (case sa_Held => k_is); (case ha_Held => k_is); (case hm_Held => k_is); (case mi_Held => k_is); (case kc_Held => k_is); (case n_Held_place => k_is); (case n_Held_by => k_is); (case pg_Touch => k_is); (case hd_Touch => k_is); (case po_Touch => k_is); (case sa_Touch => k_is); (case ha_Touch => k_is); (case hm_Touch => k_is); (case mi_Touch => k_is); (case kc_Touch => k_is); (case n_Touch_steps => k_is); (case pg_Clear => k_is); (case hd_Clear => k_is); (case po_Clear => k_is); (case sa_Clear => k_is); (case ha_Clear => k_is); (case hm_Clear => k_is); (case mi_Clear => k_is); (case kc_Clear => k_is); (case n_Clear_gap => k_is); (case hn => k_is); (case htk => k_is); (case a0 => k_is); (case l0 => k_is); (case c0 => k_is); (case k0 => k_is); (case a1 => k_is); (case l1 => k_is); (case c1 => k_is); (case k1 => k_is); (case a2 => k_is); (case l2 => k_is); (case c2 => k_is); (case k2 => k_is); (case a3 => k_is); (case l3 => k_is); (case c3 => k_is); (case k3 => k_is); (case a4 => k_is); (case l4 => k_is); (case c4 => k_is); (case k4 => k_is); (case a5 => k_is); (case l5 => k_is); (case c5 => k_is); (case k5 => k_is); (case a6 => k_is); (case l6 => k_is); (case c6 => k_is); (case k6 => k_is); (case a7 => k_is); (case l7 => k_is); (case c7 => k_is); (case k7 => k_is); (case a8 => k_is); (case i8 => k_is); (case l8 => k_is); (case c8 => k_is); (case k8 => k_is); (case a9 => k_is); (case l9 => k_is); (case c9 => k_is); (case k9 => k_is); (case a10 => k_is); (case i10 => k_is); (case l10 => k_is); (case c10 => k_is); (case k10 => k_is); (case a11 => k_is); (case l11 => k_is); (case c11 => k_is); (case k11 => k_is); (case a12 => k_is); (case l12 => k_is); (case c12 => k_is); (case k12 => k_is); (case a13 => k_is); (case i13 => k_is); (case l13 => k_is); (case c13 => k_is); (case k13 => k_is); (case a14 => k_is); (case l14 => k_is); (case c14 => k_is); (case k14 => k_is); (case a15 => k_is); (case i15 => k_is); (case l15 => k_is); (case c15 => k_is); (case k15 => k_is); (case a16 => k_is); (case i16 => k_is); (case l16 => k_is); (case c16 => k_is); (case k16 => k_is); (case a17 => k_is); (case l17 => k_is); (case c17 => k_is); (case k17 => k_is); (case a18 => k_is); (case i18 => k_is); (case l18 => k_is); (case c18 => k_is); (case k18 => k_is); (case a19 => k_is); (case l19 => k_is); (case c19 => k_is); (case k19 => k_is); (case a20 => k_is); (case l20 => k_is); (case c20 => k_is); (case k20 => k_is); (case z_len => k_is); (case z_isinstance => k_is); (case z_int => k_is); (case z_bool => k_is); (case z_list => k_is); (case z_str => k_is); (case z_all => k_is); (case z_any => k_is); (case z_sum => k_is); (case z_min => k_is); (case z_max => k_is); (case z_range => k_is); (case z_enumerate => k_is); (case z_reversed => k_is); (case z_sorted => k_is)
